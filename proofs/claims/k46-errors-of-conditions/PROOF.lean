import PyProof.Rows.All
import Wide.All
import OpenK.AllK
import Wide.FinOn
import HandS.ForMost
import HandS.More
import HandS.DictComp
import HandS.FStr
import HandS.Exc
import HandS.WordsExc
import HandS.TupAny
import HandS.Deep
import HandS.IsInst
import HandS.Conv
import HandS.Sort
import HandS.Flow
import HandS.Text
import KE.KDictKeyed
import KE.KDictLaw
import KE.KDictCopyH
import HandS.ExcInit
import HandS.ExcField
import HandS.ExcIs
import KE.KExcSuper
import KE.KSuper
import PySem.Challenge.RW_soonsettled_k46_errors_of_conditions
set_option Elab.async false
set_option linter.all false
set_option maxRecDepth 100000
set_option maxHeartbeats 4000000
/-! VS: a by-value reading of the program's defs over the hand layer. Part 1: data, the store, how they stand in the heap. -/
namespace VS
open PySem PySem.Spec PyProof.Rows L2

inductive D where
  | non | bl (b : Bool) | int (i : Int) | str (s : String)
  | tup (xs : List D) | lst (xs : List D) | dic (kvs : List (D × D)) | inst (c : String) (fs : List (String × D))
  | rng (lo hi : Int) | ptr (a : Addr) | scr (ns : List Int) | tab (l : List (String × String))
instance : Inhabited D := ⟨.non⟩

inductive MO where
  | lst (xs : List D) | dic (kvs : List (D × D)) | inst (c : String) (fs : List (String × D))
abbrev Store := Addr → Option MO
def Store.put (M : Store) (a : Addr) (o : MO) : Store := fun b => if b = a then some o else M b
def Store.del (M : Store) (a : Addr) : Store := fun b => if b = a then none else M b
theorem put_same {M : Store} {a : Addr} {o : MO} : M.put a o a = some o := by unfold Store.put; rw [if_pos rfl]
theorem put_ne {M : Store} {a b : Addr} {o : MO} (h : b ≠ a) : M.put a o b = M b := by unfold Store.put; rw [if_neg h]
theorem put_put {M : Store} {a : Addr} {o u : MO} : (M.put a o).put a u = M.put a u := by
  funext b; unfold Store.put; split <;> rfl
theorem put_self {M : Store} {a : Addr} {o : MO} (h : M a = some o) : M.put a o = M := by
  funext b; unfold Store.put; split
  · rename_i e; rw [e, h]
  · rfl
theorem del_put {M : Store} {a : Addr} {o : MO} (h : M a = none) : (M.put a o).del a = M := by
  funext b; simp only [Store.put, Store.del]
  by_cases e : b = a
  · rw [if_pos e, e, h]
  · rw [if_neg e, if_neg e]
theorem put_comm {M : Store} {a b : Addr} {o u : MO} (h : a ≠ b) : (M.put a o).put b u = (M.put b u).put a o := by
  funext c; simp only [Store.put]
  by_cases h1 : c = a
  · subst h1
    rw [if_neg h, if_pos rfl, if_pos rfl]
  · rw [if_neg h1, if_neg h1]
theorem del_put_ne {M : Store} {a b : Addr} {o : MO} (h : a ≠ b) : (M.put a o).del b = (M.del b).put a o := by
  funext c; simp only [Store.put, Store.del]
  by_cases h1 : c = a
  · subst h1
    rw [if_neg h, if_pos rfl, if_pos rfl]
  · rw [if_neg h1, if_neg h1]
theorem del_same {M : Store} {a : Addr} : M.del a a = none := by unfold Store.del; rw [if_pos rfl]
theorem del_ne {M : Store} {a b : Addr} (h : b ≠ a) : M.del a b = M b := by unfold Store.del; rw [if_neg h]
theorem del_none {M : Store} {a : Addr} (h : M a = none) : M.del a = M := by
  funext b; unfold Store.del; split
  · rename_i e; rw [e, h]
  · rfl

abbrev Env := List (Option D)
abbrev DK := D → Store → Prop
/-- what is wanted of an exception: its class, its fields (where it has a dict of its own) -/
abbrev XP := String → Option (List (String × D)) → Store → Prop
abbrev Spec := List D → Store → DK → XP → Prop
def X0 : XP := fun _ _ _ => False

mutual
def py : D → PyData
  | .non => .none | .bl b => .bool b | .int i => .int i | .str s => .str (Str.ofString s)
  | .tup xs => .tuple (pyL xs) | .lst xs => .list (pyL xs)
  | .dic _ => .dict [] | .inst _ _ => .dict [] | .rng _ _ => .dict [] | .ptr _ => .dict [] | .scr _ => .dict [] | .tab _ => .dict []
def pyL : List D → List PyData
  | [] => [] | x :: xs => py x :: pyL xs
end

/-! ### the program -/
structure Glob where
  prog : Program
  w : World
  K : PySem.W.Frag
  mg : Str → Option Value
  base : Heap

def Ex (H H' : Hp) : Prop := ∀ a o, H a = some o → H' a = some o
theorem Ex.refl (H : Hp) : Ex H H := fun _ _ h => h
theorem Ex.trans {H H1 H2 : Hp} (a : Ex H H1) (b : Ex H1 H2) : Ex H H2 := fun x o h => b x o (a x o h)
theorem Ex.new {H : Hp} {p : Addr} {o : HO} (h : H p = none) : Ex H (upd H p o) := fun a u e => by
  rw [upd_ne (ne_of_none e h)]; exact e
theorem Ex.mut {H H' : Hp} {p : Addr} {o : HO} (e : Ex H H') (h : H p = none) : Ex H (upd H' p o) := fun a u ha => by
  rw [upd_ne (ne_of_none ha h)]; exact e a u ha
theorem Ex.rd {H H' : Hp} {a : Addr} {u : HO} (e : Ex H H') (h : Rd H a u) : Rd H' a u := by
  rcases h with h | ⟨o, h⟩
  · exact Or.inl (e a _ h)
  · exact Or.inr ⟨o, e a _ h⟩
theorem Ex.l {K : PySem.W.Frag} {H H' : Hp} {a : Addr} {xs : List V} (e : Ex H H') (h : SqL K H a xs) : SqL K H' a xs := by
  rcases h with h | h
  · exact Or.inl (e.rd h)
  · exact Or.inr h
theorem Ex.t {K : PySem.W.Frag} {H H' : Hp} {a : Addr} {xs : List V} (e : Ex H H') (h : SqT K H a xs) : SqT K H' a xs := by
  rcases h with h | h
  · exact Or.inl (e.rd h)
  · exact Or.inr h
theorem Ex.fresh {H H' : Hp} {p : Addr} (e : Ex H H') (h : H' p = none) : H p = none := by
  cases h1 : H p with
  | none => rfl
  | some o => rw [e p o h1] at h; cases h

/-! ### how data stand in the frozen heap F -/
def keyD : Key → D
  | .inl i => .int i
  | .inr x => .str (String.ofList (x.cps.toList.map Char.ofNat))
/-- the key's text is a Lean text -/
def keyOf : D → Option Key
  | .int i => some (.inl i)
  | .str s => some (.inr (Str.ofString s))
  | _ => none

/-- a dict of the module, texts to texts -/
inductive TabE : List (String × String) → List DictEntry → Prop
  | nil : TabE [] []
  | cons {k v : String} {t u : Tok} {h : Int} {l : List (String × String)} {es : List DictEntry} : TabE l es → TabE ((k, v) :: l) (⟨h, .str (Str.ofString k) t, .str (Str.ofString v) u⟩ :: es)
def KTab (K : PySem.W.Frag) (w : World) (a : Addr) (l : List (String × String)) : Prop := ∃ es n, KDict K w a es n ∧ TabE l es.toList
def lookT (s : String) : List (String × String) → Option String
  | [] => none
  | (k, v) :: r => if k = s then some v else lookT s r
mutual
inductive Rp (G : Glob) (F : Hp) : V → D → Prop
  | non : Rp G F .non .non
  | bl (b : Bool) : Rp G F (.bl b) (.bl b)
  | int (i : Int) : Rp G F (.int i) (.int i)
  | str (s : String) : Rp G F (.str (Str.ofString s)) (.str s)
  | tup {a : Addr} {vs : List V} {ds : List D} : SqT G.K F a vs → RpL G F vs ds → Rp G F (.ref a) (.tup ds)
  | lst {a : Addr} {vs : List V} {ds : List D} : F a = some (.lst vs) → RpL G F vs ds → Rp G F (.ref a) (.lst ds)
  | dic {a : Addr} {vs : List (Key × V)} {ds : List (D × D)} : F a = some (.dK vs) → RpD G F vs ds → Rp G F (.ref a) (.dic ds)
  | inst {a C dx : Addr} {c : String} {vs : List (Str × V)} {ds : List (String × D)} : F a = some (.ins C dx vs) → G.mg (Str.ofString c) = some (.ref C) → RpF G F vs ds → Rp G F (.ref a) (.inst c ds)
  | rng {a : Addr} {lo hi : Int} : F a = some (.rng lo hi) → Rp G F (.ref a) (.rng lo hi)
  | ptr (a : Addr) : Rp G F (.ref a) (.ptr a)
  | scr {a : Addr} {ns : List Int} : SqL G.K F a (ns.map V.int) → Rp G F (.ref a) (.scr ns)
  | tab {a : Addr} {l : List (String × String)} : KTab G.K G.w a l → Rp G F (.ref a) (.tab l)
inductive RpL (G : Glob) (F : Hp) : List V → List D → Prop
  | nil : RpL G F [] []
  | cons {v : V} {d : D} {vs : List V} {ds : List D} : Rp G F v d → RpL G F vs ds → RpL G F (v :: vs) (d :: ds)
inductive RpD (G : Glob) (F : Hp) : List (Key × V) → List (D × D) → Prop
  | nil : RpD G F [] []
  | cons {k : Key} {v : V} {kd d : D} {vs : List (Key × V)} {ds : List (D × D)} : keyOf kd = some k → Rp G F v d → RpD G F vs ds → RpD G F ((k, v) :: vs) ((kd, d) :: ds)
inductive RpF (G : Glob) (F : Hp) : List (Str × V) → List (String × D) → Prop
  | nil : RpF G F [] []
  | cons {f : String} {v : V} {d : D} {vs : List (Str × V)} {ds : List (String × D)} : Rp G F v d → RpF G F vs ds → RpF G F ((Str.ofString f, v) :: vs) ((f, d) :: ds)
end

section
variable {G : Glob} {F F' : Hp}
mutual
theorem Rp.mono (e : Ex F F') : ∀ {v : V} {d : D}, Rp G F v d → Rp G F' v d
  | _, _, .non => .non
  | _, _, .bl b => .bl b
  | _, _, .int i => .int i
  | _, _, .str s => .str s
  | _, _, .tup h r => .tup (e.t h) (RpL.mono e r)
  | _, _, .lst h r => .lst (e _ _ h) (RpL.mono e r)
  | _, _, .dic h r => .dic (e _ _ h) (RpD.mono e r)
  | _, _, .inst h c r => .inst (e _ _ h) c (RpF.mono e r)
  | _, _, .rng h => .rng (e _ _ h)
  | _, _, .ptr a => .ptr a
  | _, _, .scr h => .scr (e.l h)
  | _, _, .tab h => .tab h
theorem RpL.mono (e : Ex F F') : ∀ {v : List V} {d : List D}, RpL G F v d → RpL G F' v d
  | _, _, .nil => .nil
  | _, _, .cons h r => .cons (Rp.mono e h) (RpL.mono e r)
theorem RpD.mono (e : Ex F F') : ∀ {v : List (Key × V)} {d : List (D × D)}, RpD G F v d → RpD G F' v d
  | _, _, .nil => .nil
  | _, _, .cons k h r => .cons k (Rp.mono e h) (RpD.mono e r)
theorem RpF.mono (e : Ex F F') : ∀ {v : List (Str × V)} {d : List (String × D)}, RpF G F v d → RpF G F' v d
  | _, _, .nil => .nil
  | _, _, .cons h r => .cons (Rp.mono e h) (RpF.mono e r)
end
theorem RpL.length : ∀ {vs : List V} {ds : List D}, RpL G F vs ds → vs.length = ds.length
  | _, _, .nil => rfl
  | _, _, .cons _ r => congrArg (· + 1) (RpL.length r)
theorem RpD.length : ∀ {vs : List (Key × V)} {ds : List (D × D)}, RpD G F vs ds → vs.length = ds.length
  | _, _, .nil => rfl
  | _, _, .cons _ _ r => congrArg (· + 1) (RpD.length r)
theorem RpF.length : ∀ {vs : List (Str × V)} {ds : List (String × D)}, RpF G F vs ds → vs.length = ds.length
  | _, _, .nil => rfl
  | _, _, .cons _ r => congrArg (· + 1) (RpF.length r)
theorem RpL.append : ∀ {vs : List V} {ds : List D} {ws : List V} {es : List D}, RpL G F vs ds → RpL G F ws es → RpL G F (vs ++ ws) (ds ++ es)
  | _, _, _, _, .nil, h => h
  | _, _, _, _, .cons a r, h => .cons a (RpL.append r h)
theorem RpL.get : ∀ {vs : List V} {ds : List D} {i : Nat} {d : D}, RpL G F vs ds → ds[i]? = some d → ∃ v, vs[i]? = some v ∧ Rp G F v d
  | _, _, _, _, .nil, h => by simp at h
  | _, _, 0, _, .cons a r, h => by
    have e := Option.some.inj h
    exact ⟨_, rfl, e ▸ a⟩
  | _, _, i + 1, _, .cons a r, h => RpL.get (i := i) r h
theorem RpL.getV : ∀ {vs : List V} {ds : List D} {i : Nat} {v : V}, RpL G F vs ds → vs[i]? = some v → ∃ d, ds[i]? = some d ∧ Rp G F v d
  | _, _, _, _, .nil, h => by simp at h
  | _, _, 0, _, .cons a r, h => by
    have e := Option.some.inj h
    exact ⟨_, rfl, e ▸ a⟩
  | _, _, i + 1, _, .cons a r, h => RpL.getV (i := i) r h
theorem RpL.set {v : V} {d : D} (h : Rp G F v d) : ∀ {vs : List V} {ds : List D} (i : Nat), RpL G F vs ds → RpL G F (vs.set i v) (ds.set i d)
  | _, _, _, .nil => .nil
  | _, _, 0, .cons _ r => .cons h r
  | _, _, i + 1, .cons a r => .cons a (RpL.set h i r)
theorem RpL.take : ∀ {vs : List V} {ds : List D} (n : Nat), RpL G F vs ds → RpL G F (vs.take n) (ds.take n)
  | _, _, 0, _ => .nil
  | _, _, _ + 1, .nil => .nil
  | _, _, n + 1, .cons a r => .cons a (RpL.take n r)
theorem RpL.drop : ∀ {vs : List V} {ds : List D} (n : Nat), RpL G F vs ds → RpL G F (vs.drop n) (ds.drop n)
  | _, _, 0, r => r
  | _, _, _ + 1, .nil => .nil
  | _, _, n + 1, .cons _ r => RpL.drop n r
theorem RpL.dropLast {vs : List V} {ds : List D} (r : RpL G F vs ds) : RpL G F vs.dropLast ds.dropLast := by
  rw [List.dropLast_eq_take, List.dropLast_eq_take, r.length]
  exact r.take _
theorem RpL.reverse : ∀ {vs : List V} {ds : List D}, RpL G F vs ds → RpL G F vs.reverse ds.reverse
  | _, _, .nil => .nil
  | _, _, .cons a r => by
    rw [List.reverse_cons, List.reverse_cons]
    exact (RpL.reverse r).append (.cons a .nil)
theorem RpL.ints : ∀ ns : List Int, RpL G F (ns.map V.int) (ns.map D.int)
  | [] => .nil
  | n :: ns => .cons (.int n) (RpL.ints ns)
theorem RpL.of_ints : ∀ {vs : List V} {ns : List Int}, RpL G F vs (ns.map D.int) → vs = ns.map V.int
  | _, [], .nil => rfl
  | _, n :: ns, .cons h r => by
    cases h
    rw [RpL.of_ints r]; rfl
theorem RpL.of_strs : ∀ {vs : List V} {ns : List String}, RpL G F vs (ns.map D.str) → vs = ns.map fun s => V.str (Str.ofString s)
  | _, [], .nil => rfl
  | _, n :: ns, .cons h r => by
    cases h
    rw [RpL.of_strs r]; rfl
theorem RpL.of_bls : ∀ {vs : List V} {ns : List Bool}, RpL G F vs (ns.map D.bl) → vs = ns.map V.bl
  | _, [], .nil => rfl
  | _, n :: ns, .cons h r => by
    cases h
    rw [RpL.of_bls r]; rfl

/-! ### the store -/
inductive RpM (G : Glob) (F : Hp) : HO → MO → Prop
  | lst {vs : List V} {ds : List D} : RpL G F vs ds → RpM G F (.lst vs) (.lst ds)
  | dic {vs : List (Key × V)} {ds : List (D × D)} : RpD G F vs ds → RpM G F (.dK vs) (.dic ds)
  | inst {C dx : Addr} {c : String} {vs : List (Str × V)} {ds : List (String × D)} : G.mg (Str.ofString c) = some (.ref C) → RpF G F vs ds → RpM G F (.ins C dx vs) (.inst c ds)
theorem RpM.mono (e : Ex F F') {o : HO} {m : MO} : RpM G F o m → RpM G F' o m
  | .lst r => .lst (r.mono e)
  | .dic r => .dic (r.mono e)
  | .inst c r => .inst c (r.mono e)
end

/-- F: what is frozen; M: the store; R: what is set aside (a comprehension's list) -/
structure Good (G : Glob) (R F H : Hp) (M : Store) : Prop where
  ex : Ex F H
  mt : ∀ a mo, M a = some mo → F a = none ∧ ∃ ho, H a = some ho ∧ RpM G F ho mo
  rs : ∀ a o, R a = some o → F a = none ∧ M a = none ∧ H a = some o
structure EnvR (G : Glob) (F : Hp) (σd : Env) (σ : L2.St) : Prop where
  len : σ.length = σd.length
  at_ : ∀ (i : Nat) (d : D), σd[i]? = some (some d) → ∃ v, σ[i]? = some (some v) ∧ Rp G F v d

section
variable {G : Glob} {R F F' H H' : Hp} {M : Store} {σd : Env} {σ : L2.St}
theorem EnvR.mono (e : Ex F F') (h : EnvR G F σd σ) : EnvR G F' σd σ :=
  ⟨h.len, fun i d q => let ⟨v, a, b⟩ := h.at_ i d q; ⟨v, a, b.mono e⟩⟩
theorem EnvR.set {v : V} {d : D} (h : EnvR G F σd σ) (i : Nat) (r : Rp G F v d) : EnvR G F (σd.set i (some d)) (σ.set i (some v)) := by
  refine ⟨by rw [List.length_set, List.length_set, h.len], fun j e q => ?_⟩
  by_cases hj : i = j
  · subst hj
    have hl : i < σd.length := by
      have := (List.getElem?_eq_some_iff.mp q).1
      rw [List.length_set] at this; exact this
    rw [List.getElem?_set_self hl] at q
    cases q
    exact ⟨v, by rw [List.getElem?_set_self (by rw [h.len]; exact hl)], r⟩
  · rw [List.getElem?_set_ne hj] at q
    obtain ⟨w, a, b⟩ := h.at_ j e q
    exact ⟨w, by rw [List.getElem?_set_ne hj]; exact a, b⟩
def wipeD (σ : Env) : List Nat → Env
  | [] => σ
  | v :: vs => (wipeD σ vs).set v none
theorem EnvR.wipe (h : EnvR G F σd σ) : ∀ vs : List Nat, EnvR G F (wipeD σd vs) (wipe σ vs)
  | [] => h
  | v :: vs => by
    have ih := EnvR.wipe h vs
    refine ⟨by show ((L2.wipe σ vs).set v none).length = ((wipeD σd vs).set v none).length; rw [List.length_set, List.length_set, ih.len], fun j e q => ?_⟩
    have q' : ((wipeD σd vs).set v none)[j]? = some (some e) := q
    show ∃ w, ((L2.wipe σ vs).set v none)[j]? = some (some w) ∧ _
    by_cases hj : v = j
    · subst hj
      have hl : v < (wipeD σd vs).length := by
        have := (List.getElem?_eq_some_iff.mp q').1
        rw [List.length_set] at this; exact this
      rw [List.getElem?_set_self hl] at q'
      cases q'
    · rw [List.getElem?_set_ne hj] at q'
      obtain ⟨w, a, b⟩ := ih.at_ j e q'
      exact ⟨w, by rw [List.getElem?_set_ne hj]; exact a, b⟩
theorem Good.fresh {p : Addr} (g : Good G R F H M) (h : H p = none) : M p = none ∧ F p = none ∧ R p = none := by
  refine ⟨?_, g.ex.fresh h, ?_⟩
  · cases q : M p with
    | none => rfl
    | some mo =>
      obtain ⟨_, ho, e, _⟩ := g.mt p mo q
      rw [h] at e; cases e
  · cases q : R p with
    | none => rfl
    | some o =>
      obtain ⟨_, _, e⟩ := g.rs p o q
      rw [h] at e; cases e
/-- a new frozen object -/
theorem Good.new {p : Addr} {o : HO} (g : Good G R F H M) (h : H p = none) : Good G R (upd F p o) (upd H p o) M ∧ Ex F (upd F p o) := by
  obtain ⟨hm, hf, hr⟩ := g.fresh h
  have e : Ex F (upd F p o) := Ex.new hf
  refine ⟨⟨fun a u q => ?_, fun a mo q => ?_, fun a u q => ?_⟩, e⟩
  · by_cases ha : a = p
    · subst ha; rw [upd_same] at q ⊢; exact q
    · rw [upd_ne ha] at q ⊢; exact g.ex a u q
  · have ha : a ≠ p := fun z => by subst z; rw [hm] at q; cases q
    obtain ⟨q1, ho, q2, q3⟩ := g.mt a mo q
    exact ⟨by rw [upd_ne ha]; exact q1, ho, by rw [upd_ne ha]; exact q2, q3.mono e⟩
  · have ha : a ≠ p := fun z => by subst z; rw [hr] at q; cases q
    rw [upd_ne ha, upd_ne ha]
    exact g.rs a u q
/-- a new object of the store -/
theorem Good.newM {p : Addr} {o : HO} {mo : MO} (g : Good G R F H M) (h : H p = none) (r : RpM G F o mo) : Good G R F (upd H p o) (M.put p mo) := by
  obtain ⟨hm, hf, hr⟩ := g.fresh h
  refine ⟨g.ex.mut hf, fun a m q => ?_, fun a u q => ?_⟩
  · by_cases ha : a = p
    · subst ha
      rw [put_same] at q; cases q
      exact ⟨hf, o, upd_same, r⟩
    · rw [put_ne ha] at q
      obtain ⟨q1, ho, q2, q3⟩ := g.mt a m q
      exact ⟨q1, ho, by rw [upd_ne ha]; exact q2, q3⟩
  · have ha : a ≠ p := fun z => by subst z; rw [hr] at q; cases q
    rw [put_ne ha, upd_ne ha]
    exact g.rs a u q
/-- an object of the store is written -/
theorem Good.write {p : Addr} {o : HO} {mo m0 : MO} (g : Good G R F H M) (h : M p = some m0) (r : RpM G F o mo) : Good G R F (upd H p o) (M.put p mo) := by
  obtain ⟨hf, _⟩ := g.mt p m0 h
  refine ⟨g.ex.mut hf, fun a m q => ?_, fun a u q => ?_⟩
  · by_cases ha : a = p
    · subst ha
      rw [put_same] at q; cases q
      exact ⟨hf, o, upd_same, r⟩
    · rw [put_ne ha] at q
      obtain ⟨q1, ho, q2, q3⟩ := g.mt a m q
      exact ⟨q1, ho, by rw [upd_ne ha]; exact q2, q3⟩
  · have ha : a ≠ p := fun z => by subst z; obtain ⟨_, q2, _⟩ := g.rs a u q; rw [h] at q2; cases q2
    rw [put_ne ha, upd_ne ha]
    exact g.rs a u q
/-- an object of the store is frozen -/
theorem Good.frz {p : Addr} {mo : MO} (g : Good G R F H M) (h : M p = some mo) : ∃ ho, H p = some ho ∧ RpM G F ho mo ∧ Good G R (upd F p ho) H (M.del p) ∧ Ex F (upd F p ho) := by
  obtain ⟨hf, ho, hh, r⟩ := g.mt p mo h
  have e : Ex F (upd F p ho) := Ex.new hf
  refine ⟨ho, hh, r, ⟨fun a u q => ?_, fun a m q => ?_, fun a u q => ?_⟩, e⟩
  · by_cases ha : a = p
    · subst ha; rw [upd_same] at q; cases q; exact hh
    · rw [upd_ne ha] at q; exact g.ex a u q
  · have ha : a ≠ p := fun z => by subst z; rw [del_same] at q; cases q
    rw [del_ne ha] at q
    obtain ⟨q1, o2, q2, q3⟩ := g.mt a m q
    exact ⟨by rw [upd_ne ha]; exact q1, o2, q2, q3.mono e⟩
  · have ha : a ≠ p := fun z => by subst z; obtain ⟨_, q2, _⟩ := g.rs a u q; rw [h] at q2; cases q2
    rw [del_ne ha, upd_ne ha]
    exact g.rs a u q
/-- a list is set aside, and another one in its place -/
theorem Good.aside {p : Addr} {o : HO} (g : Good G R F H M) (h : H p = none) : Good G (upd R p o) F (upd H p o) M := by
  obtain ⟨hm, hf, hr⟩ := g.fresh h
  refine ⟨g.ex.mut hf, fun a m q => ?_, fun a u q => ?_⟩
  · have ha : a ≠ p := fun z => by subst z; rw [hm] at q; cases q
    obtain ⟨q1, ho, q2, q3⟩ := g.mt a m q
    exact ⟨q1, ho, by rw [upd_ne ha]; exact q2, q3⟩
  · by_cases ha : a = p
    · subst ha
      rw [upd_same] at q ⊢
      exact ⟨hf, hm, q⟩
    · rw [upd_ne ha] at q ⊢
      exact g.rs a u q
theorem Good.aside2 {p : Addr} {o u : HO} (g : Good G (upd R p o) F H M) : Good G (upd R p u) F (upd H p u) M := by
  obtain ⟨hf, hm, hh⟩ := g.rs p o upd_same
  refine ⟨g.ex.mut hf, fun a m q => ?_, fun a w q => ?_⟩
  · have ha : a ≠ p := fun z => by subst z; rw [hm] at q; cases q
    obtain ⟨q1, ho, q2, q3⟩ := g.mt a m q
    exact ⟨q1, ho, by rw [upd_ne ha]; exact q2, q3⟩
  · by_cases ha : a = p
    · subst ha
      rw [upd_same] at q ⊢
      exact ⟨hf, hm, q⟩
    · rw [upd_ne ha] at q ⊢
      have q' : (upd R p o) a = some w := by rw [upd_ne ha]; exact q
      exact g.rs a w q'
/-- .. and taken back, frozen -/
theorem Good.back {p : Addr} {o : HO} (g : Good G (upd R p o) F H M) (hr : R p = none) : Good G R (upd F p o) H M ∧ Ex F (upd F p o) := by
  obtain ⟨hf, hm, hh⟩ := g.rs p o upd_same
  have e : Ex F (upd F p o) := Ex.new hf
  refine ⟨⟨fun a u q => ?_, fun a m q => ?_, fun a u q => ?_⟩, e⟩
  · by_cases ha : a = p
    · subst ha; rw [upd_same] at q; cases q; exact hh
    · rw [upd_ne ha] at q; exact g.ex a u q
  · have ha : a ≠ p := fun z => by subst z; rw [hm] at q; cases q
    obtain ⟨q1, ho, q2, q3⟩ := g.mt a m q
    exact ⟨by rw [upd_ne ha]; exact q1, ho, q2, q3.mono e⟩
  · have ha : a ≠ p := fun z => by subst z; rw [hr] at q; cases q
    rw [upd_ne ha]
    have q' : (upd R p o) a = some u := by rw [upd_ne ha]; exact q
    exact g.rs a u q'
/-- .. or into the store -/
theorem Good.backM {p : Addr} {o : HO} {mo : MO} (g : Good G (upd R p o) F H M) (hr : R p = none) (r : RpM G F o mo) : Good G R F H (M.put p mo) ∧ M p = none := by
  obtain ⟨hf, hm, hh⟩ := g.rs p o upd_same
  refine ⟨⟨g.ex, fun a m q => ?_, fun a u q => ?_⟩, hm⟩
  · by_cases ha : a = p
    · subst ha
      rw [put_same] at q; cases q
      exact ⟨hf, o, hh, r⟩
    · rw [put_ne ha] at q
      exact g.mt a m q
  · have ha : a ≠ p := fun z => by subst z; rw [hr] at q; cases q
    have q' : (upd R p o) a = some u := by rw [upd_ne ha]; exact q
    rw [put_ne ha]
    exact g.rs a u q'
end
end VS

/-! VS, part 2: the operations on data, a small syntax, what matches it, its reading. -/
namespace VS
open PySem PySem.Spec PyProof.Rows L2

def line : Nat := 16777216
theorem line_eq : sizeLine = line := by rw [sizeLine_eq]; rfl

/-! ### operations on data -/
/-- the items of a list, frozen or in the store -/
def asL (M : Store) : D → Option (List D)
  | .lst xs => some xs
  | .ptr p => match M p with | some (.lst xs) => some xs | _ => none
  | _ => none
/-- .. of a list or a tuple -/
def asS (M : Store) : D → Option (List D)
  | .tup xs => some xs
  | d => asL M d
def asD (M : Store) : D → Option (List (D × D))
  | .dic kvs => some kvs
  | .ptr p => match M p with | some (.dic kvs) => some kvs | _ => none
  | _ => none
/-- a new list: frozen, or an object of the store, as one likes -/
def nuL (xs : List D) (M : Store) (Q : DK) : Prop := Q (.lst xs) M ∨ ∀ p, M p = none → Q (.ptr p) (M.put p (.lst xs))
def wAdd (x y : D) (M : Store) (Q : DK) : Prop :=
  match x, y with
  | .int i, .int j => Q (.int (i + j)) M
  | .str s, .str t => s.length + t.length ≤ line ∧ Q (.str (s ++ t)) M
  | .tup xs, .tup ys => xs.length + ys.length ≤ line ∧ Q (.tup (xs ++ ys)) M
  | x, y => match asL M x, asL M y with
    | some xs, some ys => xs.length + ys.length ≤ line ∧ nuL (xs ++ ys) M Q
    | _, _ => False
def wSub (x y : D) (M : Store) (Q : DK) : Prop := match x, y with | .int i, .int j => Q (.int (i - j)) M | _, _ => False
def wMul (x y : D) (M : Store) (Q : DK) : Prop := match x, y with | .int i, .int j => CMul i j ∧ Q (.int (i * j)) M | _, _ => False
def wMod (x y : D) (M : Store) (Q : DK) : Prop := match x, y with | .int i, .int j => 0 < j ∧ Q (.int (i % j)) M | _, _ => False
def wFdiv (x y : D) (M : Store) (Q : DK) : Prop := match x, y with | .int i, .int j => (0 < j ∧ j < 1073741824) ∧ Q (.int (i / j)) M | _, _ => False
def wPow (x y : D) (M : Store) (Q : DK) : Prop := match x, y with | .int i, .int j => (0 ≤ j ∧ j ≤ 1000000 ∧ i.natAbs < 2 ^ 64) ∧ Q (.int (i ^ j.toNat)) M | _, _ => False
inductive BOp | add | sub | mul | mod | fdiv | pow
def wBin : BOp → D → D → Store → DK → Prop
  | .add => wAdd | .sub => wSub | .mul => wMul | .mod => wMod | .fdiv => wFdiv | .pow => wPow

/-- == of two data: of plain ones directly, of lists and tuples at depth -/
def wEqB (x y : D) (Q : Bool → Prop) : Prop :=
  match x, y with
  | .int i, .int j => Q (decide (i = j))
  | .str s, .str t => Q (decide (s = t))
  | .bl a, .bl b => Q (decide (a = b))
  | .non, .non => Q true
  | .non, .int _ => Q false | .int _, .non => Q false | .non, .str _ => Q false | .str _, .non => Q false
  | .int _, .str _ => Q false | .str _, .int _ => Q false
  | x, y => SeqAt.shaped (py x) = true ∧ SeqAt.shaped (py y) = true ∧ Q (PyData.eqv (py x) (py y))
def lookD (k : D) : List (D × D) → Option D
  | [] => none
  | (a, v) :: r => if keyOf a = keyOf k then some v else lookD k r
def strLt (s t : String) : Bool := decide ((Str.ofString s).cps.toList < (Str.ofString t).cps.toList)
def strLe (s t : String) : Bool := !decide ((Str.ofString t).cps.toList < (Str.ofString s).cps.toList)
def wCmpI (f : Int → Int → Bool) (g : String → String → Bool) (x y : D) (M : Store) (Q : DK) : Prop :=
  match x, y with | .int i, .int j => Q (.bl (f i j)) M | .str s, .str t => Q (.bl (g s t)) M | _, _ => False
/-- x in y -/
def wInB (x y : D) (M : Store) (Q : Bool → Prop) : Prop :=
  match x, y with
  | .str c, .str s => ∃ a, c = String.singleton a ∧ Q (decide (a ∈ s.toList))
  | .str s, .tab l => Q (lookT s l).isSome
  | x, y => match asS M y with
    | some ys => (SeqAt.shaped (py x) = true ∧ ys.all (fun y => SeqAt.shaped (py y)) = true ∧ Q (ys.any fun y => PyData.eqv (py y) (py x)))
    | none => match asD M y with
      | some kvs => (keyOf x).isSome = true ∧ Q (lookD x kvs).isSome
      | none => False
def isNon : D → Bool
  | .non => true | _ => false
inductive COp | eq | ne | lt | le | gt | ge | is_ | isn | in_ | nin
def wCmp : COp → D → D → Store → DK → Prop
  | .eq, x, y, M, Q => wEqB x y fun b => Q (.bl b) M
  | .ne, x, y, M, Q => wEqB x y fun b => Q (.bl (!b)) M
  | .lt, x, y, M, Q => wCmpI (fun i j => decide (i < j)) strLt x y M Q
  | .le, x, y, M, Q => wCmpI (fun i j => decide (i ≤ j)) strLe x y M Q
  | .gt, x, y, M, Q => wCmpI (fun i j => decide (j < i)) (fun s t => strLt t s) x y M Q
  | .ge, x, y, M, Q => wCmpI (fun i j => decide (j ≤ i)) (fun s t => strLe t s) x y M Q
  | .is_, x, y, M, Q => match y with | .non => Q (.bl (isNon x)) M | _ => False
  | .isn, x, y, M, Q => match y with | .non => Q (.bl (!isNon x)) M | _ => False
  | .in_, x, y, M, Q => wInB x y M fun b => Q (.bl b) M
  | .nin, x, y, M, Q => wInB x y M fun b => Q (.bl (!b)) M
def wNeg (x : D) (M : Store) (Q : DK) : Prop := match x with | .int i => Q (.int (-i)) M | _ => False
/-- truth -/
def wTru (x : D) (M : Store) (Q : Bool → Prop) : Prop :=
  match x with
  | .bl b => Q b
  | .non => Q false
  | .int i => Q (i != 0)
  | .str s => s.length ≤ line ∧ Q (decide (s.length ≠ 0))
  | x => match asS M x with
    | some xs => Q (!xs.isEmpty)
    | none => match asD M x with
      | some kvs => Q (!kvs.isEmpty)
      | none => False
def chars (s : String) : List D := s.toList.map fun c => .str (String.singleton c)
def wIx (x y : D) (M : Store) (Q : DK) : Prop :=
  match x, y with
  | .str s, .int i => s.length ≤ line ∧ (match atI s.toList i with | some c => Q (.str (String.singleton c)) M | none => False)
  | .tab l, .str s => (match lookT s l with | some t => Q (.str t) M | none => False)
  | x, y => match asS M x, y with
    | some xs, .int i => (match atI xs i with | some d => Q d M | none => False)
    | _, y => match asD M x with
      | some kvs => (match lookD y kvs with | some d => Q d M | none => False)
      | none => False
def cutD {α : Type} (xs : List α) (lo hi : Option Int) : List α := (xs.drop (HT.sIx xs.length 0 lo)).take (HT.sIx xs.length xs.length hi - HT.sIx xs.length 0 lo)
def optI : Bool → D → Option (Option Int)
  | true, .int i => some (some i)
  | false, _ => some none
  | _, _ => none
def wSl (x : D) (lo hi : Option Int) (M : Store) (Q : DK) : Prop :=
  match x with
  | .str s => s.length ≤ line ∧ Q (.str (String.ofList (cutD s.toList lo hi))) M
  | .tup xs => Q (.tup (cutD xs lo hi)) M
  | x => match asL M x with | some xs => nuL (cutD xs lo hi) M Q | none => False
def rngD (lo hi : Int) : List D := (List.range (hi - lo).toNat).map fun (i : Nat) => D.int (lo + (i : Int))
/-- the items of what is walked, and what must stay true meanwhile -/
def itD (x : D) (M : Store) (Q : List D → (Store → Prop) → Prop) : Prop :=
  match x with
  | .lst xs => Q xs fun _ => True
  | .tup xs => Q xs fun _ => True
  | .str s => s.length ≤ line ∧ Q (chars s) fun _ => True
  | .rng lo hi => (-(2 ^ 62) ≤ lo ∧ lo < 2 ^ 62 ∧ -(2 ^ 62) ≤ hi ∧ hi < 2 ^ 62) ∧ (hi - lo).toNat ≤ line ∧ Q (rngD lo hi) fun _ => True
  | .ptr p => match M p with | some (.lst xs) => Q xs fun M' => M' p = some (.lst xs) | _ => False
  | _ => False

inductive Bi | len | abs | min2 | max2 | int | list | tuple | range1 | range2 | sum | any | all | sorted | str | min1 | max1 | listD
def wLen (x : D) (M : Store) (Q : DK) : Prop :=
  match x with
  | .str s => s.length ≤ line ∧ Q (.int s.length) M
  | x => match asS M x with
    | some xs => Q (.int xs.length) M
    | none => match asD M x with | some kvs => Q (.int kvs.length) M | none => False
def wAbs (x : D) (M : Store) (Q : DK) : Prop := match x with | .int i => Q (.int (if i < 0 then -i else i)) M | _ => False
def wInt (x : D) (M : Store) (Q : DK) : Prop := match x with | .int i => Q (.int i) M | _ => False
def wList (x : D) (M : Store) (Q : DK) : Prop :=
  match x with
  | .scr ns => nuL (ns.map D.int) M Q
  | x => match asS M x with | some xs => nuL xs M Q | none => False
def wListD (x : D) (M : Store) (Q : DK) : Prop := match asD M x with | some kvs => nuL (kvs.map (·.1)) M Q | none => False
def wTuple (x : D) (M : Store) (Q : DK) : Prop := match asS M x with | some xs => Q (.tup xs) M | none => False
def wRange1 (x : D) (M : Store) (Q : DK) : Prop := match x with | .int j => Q (.rng 0 j) M | _ => False
def wSum (x : D) (M : Store) (Q : DK) : Prop := ∃ ns : List Int, asL M x = some (ns.map D.int) ∧ Q (.int ns.sum) M
def wAny (x : D) (M : Store) (Q : DK) : Prop := ∃ bs : List Bool, asL M x = some (bs.map D.bl) ∧ Q (.bl (bs.any id)) M
def wAll (x : D) (M : Store) (Q : DK) : Prop := ∃ bs : List Bool, asL M x = some (bs.map D.bl) ∧ Q (.bl (bs.all id)) M
def wMin1 (x : D) (M : Store) (Q : DK) : Prop := ∃ ns : List Int, asL M x = some (ns.map D.int) ∧ 0 < ns.length ∧ ∀ m, m ∈ ns → (∀ y, y ∈ ns → m ≤ y) → Q (.int m) M
def wMax1 (x : D) (M : Store) (Q : DK) : Prop := ∃ ns : List Int, asL M x = some (ns.map D.int) ∧ 0 < ns.length ∧ ∀ m, m ∈ ns → (∀ y, y ∈ ns → y ≤ m) → Q (.int m) M
/-- sorted(d) of a dict whose keys are texts -/
def wSortD (x : D) (M : Store) (Q : DK) : Prop := match asD M x with
  | some kvs => ∃ ks : List String, kvs.map (·.1) = ks.map D.str ∧ ks.length < 64 ∧ ∀ ys : List String, ys.Perm ks → sortedS (ys.map Str.ofString) = true → Q (.lst (ys.map D.str)) M
  | none => False
def wB1 : Bi → D → Store → DK → Prop
  | .len => wLen | .abs => wAbs | .int => wInt | .list => wList | .listD => wListD | .tuple => wTuple | .range1 => wRange1 | .sum => wSum | .any => wAny | .all => wAll | .min1 => wMin1 | .max1 => wMax1 | .sorted => wSortD
  | _ => fun _ _ _ => False
def wMin2 (x y : D) (M : Store) (Q : DK) : Prop := match x, y with | .int i, .int j => Q (.int (if j < i then j else i)) M | _, _ => False
def wMax2 (x y : D) (M : Store) (Q : DK) : Prop := match x, y with | .int i, .int j => Q (.int (if j > i then j else i)) M | _, _ => False
def wRange2 (x y : D) (M : Store) (Q : DK) : Prop := match x, y with | .int i, .int j => Q (.rng i j) M | _, _ => False
def wB2 : Bi → D → D → Store → DK → Prop
  | .min2 => wMin2 | .max2 => wMax2 | .range2 => wRange2
  | _ => fun _ _ _ _ => False
def wBi (b : Bi) (ds : List D) (M : Store) (Q : DK) : Prop :=
  match ds with
  | [x] => wB1 b x M Q
  | [x, y] => wB2 b x y M Q
  | _ => False
inductive Mt | append | extend | pop | index | get1 | get2
def wAppend (x d : D) (M : Store) (Q : DK) : Prop :=
  match x with
  | .ptr p => (match M p with | some (.lst xs) => xs.length < line ∧ Q .non (M.put p (.lst (xs ++ [d]))) | _ => False)
  | _ => False
def wExtend (x d : D) (M : Store) (Q : DK) : Prop :=
  match x with
  | .ptr p => (match M p with
    | some (.lst xs) => (match asS M d with | some ys => xs.length + ys.length ≤ line ∧ Q .non (M.put p (.lst (xs ++ ys))) | none => False)
    | _ => False)
  | _ => False
def wPop (x : D) (M : Store) (Q : DK) : Prop :=
  match x with
  | .ptr p => (match M p with
    | some (.lst xs) => (match xs[xs.length - 1]? with | some d => Q d (M.put p (.lst xs.dropLast)) | none => False)
    | _ => False)
  | _ => False
def wIndex (x y : D) (M : Store) (Q : DK) : Prop :=
  match asL M x with
  | some xs => SeqAt.shaped (py y) = true ∧ SeqAt.shaped (.list (pyL xs)) = true ∧ ∃ j z, xs[j]? = some z ∧ PyData.eqv (py z) (py y) = true ∧ (∀ m z', m < j → xs[m]? = some z' → PyData.eqv (py z') (py y) = false) ∧ Q (.int (j : Nat)) M
  | none => False
def wGet1 (x k : D) (M : Store) (Q : DK) : Prop := match asD M x with | some kvs => (keyOf k).isSome = true ∧ Q ((lookD k kvs).getD .non) M | none => False
def wGet2 (x k d : D) (M : Store) (Q : DK) : Prop := match asD M x with | some kvs => (keyOf k).isSome = true ∧ Q ((lookD k kvs).getD d) M | none => False
def wMt (m : Mt) (x : D) (ds : List D) (M : Store) (Q : DK) : Prop :=
  match ds with
  | [] => (match m with | .pop => wPop x M Q | _ => False)
  | [y] => (match m with | .append => wAppend x y M Q | .extend => wExtend x y M Q | .index => wIndex x y M Q | .get1 => wGet1 x y M Q | _ => False)
  | [y, z] => (match m with | .get2 => wGet2 x y z M Q | _ => False)
  | _ => False
def lookF (f : String) : List (String × D) → Option D
  | [] => none
  | (g, v) :: r => if g = f then some v else lookF f r
def asI (M : Store) : D → Option (String × List (String × D))
  | .inst c fs => some (c, fs)
  | .ptr p => match M p with | some (.inst c fs) => some (c, fs) | _ => none
  | _ => none
def putFd (f : String) (v : D) : List (String × D) → List (String × D)
  | [] => [(f, v)]
  | (g, w) :: r => if g = f then (f, v) :: r else (g, w) :: putFd f v r
def putD (k v : D) (kvs : List (D × D)) : List (D × D) :=
  if (kvs.any fun e => decide (keyOf e.1 = keyOf k)) = true then kvs.map (fun e => if keyOf e.1 = keyOf k then (e.1, v) else e) else kvs ++ [(k, v)]
/-- a[k] = v -/
def wSto (x k v : D) (M : Store) (Q : Store → Prop) : Prop :=
  match x with
  | .ptr p => (match M p with
    | some (.lst xs) => (match k with
      | .int i => (match ixN xs.length i with | some j => Q (M.put p (.lst (xs.set j v))) | none => False)
      | _ => False)
    | some (.dic kvs) => (keyOf k).isSome = true ∧ kvs.length < line ∧ Q (M.put p (.dic (putD k v kvs)))
    | _ => False)
  | _ => False
/-- which built-in classes a datum is of -/
def isTyK (k t : String) : Option Bool :=
  if t = "bool" then some (decide (k = "bool")) else if t = "int" then some (decide (k = "int") || decide (k = "bool")) else if t = "str" then some (decide (k = "str"))
  else if t = "list" then some (decide (k = "list")) else if t = "tuple" then some (decide (k = "tuple")) else none
def isTyD (M : Store) (x : D) (t : String) : Option Bool :=
  match x with
  | .non => isTyK "NoneType" t
  | .bl _ => isTyK "bool" t
  | .int _ => isTyK "int" t
  | .str _ => isTyK "str" t
  | .tup _ => isTyK "tuple" t
  | .lst _ => isTyK "list" t
  | .ptr p => (match M p with | some (.lst _) => isTyK "list" t | _ => none)
  | _ => none

/-! ### the syntax -/
mutual
inductive Tg | nm (i : Nat) | tp (ts : Tgs)
inductive Tgs | nil | cons (t : Tg) (ts : Tgs)
end
/-- a form's parts, evaluated from the left -/
abbrev Mr := List Str → Scope → Expr → Option (List Expr)
/-- what is asked of a part as soon as it is evaluated -/
abbrev Gd := Nat → D → Store → Prop
/-- a walk's reading -/
abbrev WI := List D → Store → (List D → (Store → Prop) → Store → Prop) → Prop
mutual
inductive PX
  | v (i : Nat) | c (d : D) | g (x : String) (d : D)
  | bin (o : BOp) (a b : PX) | neg (a : PX)
  | cmp (o : COp) (a b : PX) | cmp2 (o1 o2 : COp) (a b c : PX)
  | not (a : PX) | and (es : PXs) | or (es : PXs) | ife (t : PT) (a b : PX)
  | tup (es : PXs) | lst (es : PXs) | mlst (es : PXs) | mdic
  | ix (a b : PX) | sl (a : PX) (fl fh : Bool) (lo hi : PX)
  | call (f : String) (sp : Spec) (es : PXs)
  | bi (b : Bi) (es : PXs)
  | isi (a : PX) (t : String) | isi2 (a : PX) (t u : String)
  | mth (m : Mt) (a : PX) (es : PXs)
  | meth (cl m : String) (sp : Spec) (a : PX) (es : PXs)
  | attr (cl : String) (a : PX) (f : String)
  | lc (elt : PX) (own : List (String × Nat)) (tg : Tg) (it : PIt) (cnd : PIf)
  | dc (kx vx : PX) (own : List (String × Nat)) (tg : Tg) (it : PIt) (cnd : PIf)
  | pr (m : Mr) (w : Spec) (es : PXs)
  | pg (m : Mr) (t : Gd) (w : Spec) (es : PXs)
inductive PXs | nil | cons (e : PX) (es : PXs)
inductive PT | val (a : PX) | and (ts : PTs) | or (ts : PTs) | not (a : PT)
inductive PTs | nil | cons (t : PT) (ts : PTs)
inductive PIt | ex (a : PX) | rng1 (a : PX) | rng2 (a b : PX) | rng3 (a b c : PX) | enum (a : PX) | zip (a b : PX) | rev (a : PX) | pr (m : Mr) (w : WI) (es : PXs)
inductive PIf | nil | one (t : PT)
end

/-! ### what matches it -/
/-- a form that a .pr may match -/
def prB : Expr → Bool
  | .Starred _ _ => false | .Slice _ _ _ _ => false | .BoolOp _ _ _ => false | .UnaryOp .Not _ _ => false | .Compare _ _ _ _ => false | .IfExp _ _ _ _ => false | .Set _ _ _ => false
  | .ListComp _ _ _ _ => false | .SetComp _ _ _ _ => false | .DictComp _ _ _ _ _ => false | _ => true
def nmB (N : List Str) (sc : Scope) (i : Nat) (x : Str) : Bool :=
  decide (N[i]? = some x) && (match sc.names.lookup x with | some .local => true | some .cell => true | some .free => true | _ => false) && !(x == ("__debug__" : Str)) && !(x == ("__classdict__" : Str))
def locB (N : List Str) (sc : Scope) (fnb : Str → Bool) (i : Nat) (x : Str) : Bool :=
  decide (N[i]? = some x) && (match sc.names.lookup x with | some .local => true | some .cell => fnb x | _ => false)
def glB (sc : Scope) (x : Str) : Bool := (match sc.names.lookup x with | some .globalImplicit => true | _ => false) && !(x == ("__debug__" : Str))
def isBi (sc : Scope) (x : String) (e : Expr) : Bool := match e with | .Name y _ => decide (y = Str.ofString x) && glB sc y | _ => false
def cstB : D → Const → Bool
  | .non, .none => true
  | .bl b, .bool a => a == b
  | .int i, .int j => decide (i = j)
  | .str s, .str t => decide (t = Str.ofString s)
  | _, _ => false
def bopB : BOp → Operator → Bool
  | .add, .Add => true | .sub, .Sub => true | .mul, .Mult => true | .mod, .Mod => true | .fdiv, .FloorDiv => true | .pow, .Pow => true | _, _ => false
def copB : COp → CmpOp → Bool
  | .eq, .Eq => true | .ne, .NotEq => true | .lt, .Lt => true | .le, .LtE => true | .gt, .Gt => true | .ge, .GtE => true | .is_, .Is => true | .isn, .IsNot => true | .in_, .In => true | .nin, .NotIn => true | _, _ => false
def biName : Bi → String
  | .len => "len" | .abs => "abs" | .min2 => "min" | .max2 => "max" | .int => "int" | .list => "list" | .listD => "list" | .tuple => "tuple" | .range1 => "range" | .range2 => "range" | .sum => "sum" | .any => "any" | .all => "all" | .sorted => "sorted" | .str => "str" | .min1 => "min" | .max1 => "max"
def mtName : Mt → String
  | .append => "append" | .extend => "extend" | .pop => "pop" | .index => "index" | .get1 => "get" | .get2 => "get"
def mtArgs : Mt → Nat
  | .append => 1 | .extend => 1 | .pop => 0 | .index => 1 | .get1 => 1 | .get2 => 2
mutual
def tgIn (vs : List Nat) : Tg → Bool
  | .nm i => decide (i ∈ vs)
  | .tp ts => tgsIn vs ts
def tgsIn (vs : List Nat) : Tgs → Bool
  | .nil => true
  | .cons t ts => tgIn vs t && tgsIn vs ts
end
mutual
def isTg (N : List Str) (sc : Scope) (fnb : Str → Bool) : Tg → Expr → Bool
  | .nm i, e => match e with | .Name x _ => locB N sc fnb i x | _ => false
  | .tp ts, e => match e with | .Tuple es _ _ => isTgs N sc fnb ts es | _ => false
def isTgs (N : List Str) (sc : Scope) (fnb : Str → Bool) : Tgs → List Expr → Bool
  | .nil, es => match es with | [] => true | _ => false
  | .cons t ts, es => match es with | e :: es => isTg N sc fnb t e && isTgs N sc fnb ts es | [] => false
end
def nonB : PX → Bool
  | .c .non => true | _ => false
def partB (f : Bool) (o : Option Expr) (q : PX) (g : Expr → Bool) : Bool :=
  match o with
  | some y => f && g y
  | none => !f && nonB q
def noSup : Expr → Bool
  | .Call (.Name _ _) [] [] _ => false
  | _ => true
def blkB (N : List Str) (sc scope : Scope) (own : List (String × Nat)) : Bool := blkC N sc scope (own.map fun p => (Str.ofString p.1, p.2))
mutual
def isX (N : List Str) (sc : Scope) : PX → Expr → Bool
  | .v i, e => match e with | .Name x _ => nmB N sc i x | _ => false
  | .c d, e => match e with | .Constant k _ _ => cstB d k | _ => false
  | .g x _, e => isBi sc x e
  | .bin o a b, e => match e with | .BinOp x op y _ => bopB o op && isX N sc a x && isX N sc b y | _ => false
  | .neg a, e => match e with | .UnaryOp .USub x _ => isX N sc a x | _ => false
  | .cmp o a b, e => match e with | .Compare x [op] [y] _ => copB o op && isX N sc a x && isX N sc b y | _ => false
  | .cmp2 o1 o2 a b c, e => match e with | .Compare x [op1, op2] [y, z] _ => copB o1 op1 && copB o2 op2 && isX N sc a x && isX N sc b y && isX N sc c z | _ => false
  | .not a, e => match e with | .UnaryOp .Not x _ => isX N sc a x | _ => false
  | .and es, e => match e with | .BoolOp .And (x :: xs) _ => isXs N sc es (x :: xs) | _ => false
  | .or es, e => match e with | .BoolOp .Or (x :: xs) _ => isXs N sc es (x :: xs) | _ => false
  | .ife t a b, e => match e with | .IfExp x y z _ => isT N sc t x && isX N sc a y && isX N sc b z | _ => false
  | .tup es, e => match e with | .Tuple xs _ _ => isXs N sc es xs && decide (xs.length ≤ 1000) | _ => false
  | .lst es, e => match e with | .List xs _ => isXs N sc es xs && decide (xs.length ≤ 1000) | _ => false
  | .mlst es, e => match e with | .List xs _ => isXs N sc es xs && decide (xs.length ≤ 1000) | _ => false
  | .mdic, e => match e with | .Dict [] [] _ => true | _ => false
  | .ix a b, e => match e with | .Subscript x y _ => isX N sc a x && isX N sc b y | _ => false
  | .sl a fl fh lo hi, e => match e with
    | .Subscript x (.Slice l h none _) _ => isX N sc a x && partB fl l lo (isX N sc lo) && partB fh h hi (isX N sc hi)
    | _ => false
  | .call f _ es, e => match e with | .Call fn xs [] _ => isBi sc f fn && isXs N sc es xs | _ => false
  | .bi b es, e => match e with | .Call fn xs [] _ => isBi sc (biName b) fn && isXs N sc es xs && (match xs with | [] => false | _ => true) | _ => false
  | .isi a t, e => match e with | .Call fn [x, z] [] _ => isBi sc "isinstance" fn && isX N sc a x && isBi sc t z | _ => false
  | .isi2 a t u, e => match e with | .Call fn [x, .Tuple [z, y] _ _] [] _ => isBi sc "isinstance" fn && isX N sc a x && isBi sc t z && isBi sc u y | _ => false
  | .mth m a es, e => match e with | .Call (.Attribute x nm apos) xs [] cpos => (apos.endLine == cpos.line) && noSup x && isX N sc a x && decide (nm = Str.ofString (mtName m)) && isXs N sc es xs && decide (xs.length = mtArgs m) | _ => false
  | .meth _ m _ a es, e => match e with | .Call (.Attribute x nm apos) xs [] cpos => (apos.endLine == cpos.line) && decide (xs.length < 28) && noSup x && isX N sc a x && decide (nm = Str.ofString m) && isXs N sc es xs | _ => false
  | .attr _ a f, e => match e with | .Attribute x nm _ => noSup x && isX N sc a x && decide (nm = Str.ofString f) | _ => false
  | .lc elt own tg it cnd, e => match e with
    | .ListComp x [⟨t, i, ifs, 0⟩] scope _ => blkB N sc scope own && tgIn (own.map (·.2)) tg && isIt N sc it i && isTg N (relS scope sc) (fun x => scope.names.lookup x == some .cell) tg t && isIf N (relS scope sc) cnd ifs && isX N (relS scope sc) elt x
    | _ => false
  | .dc kx vx own tg it cnd, e => match e with
    | .DictComp x y [⟨t, i, ifs, 0⟩] scope _ => blkB N sc scope own && tgIn (own.map (·.2)) tg && isIt N sc it i && isTg N (relS scope sc) (fun x => scope.names.lookup x == some .cell) tg t && isIf N (relS scope sc) cnd ifs && isX N (relS scope sc) kx x && isX N (relS scope sc) vx y
    | _ => false
  | .pr m _ es, e => prB e && (match m N sc e with | some xs => isXs N sc es xs | none => false)
  | .pg m _ _ es, e => prB e && (match m N sc e with | some xs => isXs N sc es xs | none => false)
def isXs (N : List Str) (sc : Scope) : PXs → List Expr → Bool
  | .nil, xs => match xs with | [] => true | _ => false
  | .cons p ps, xs => match xs with | x :: xs => isX N sc p x && isXs N sc ps xs | [] => false
def isT (N : List Str) (sc : Scope) : PT → Expr → Bool
  | .val a, e => isX N sc a e
  | .and ts, e => match e with | .BoolOp .And (x :: xs) _ => isTs N sc ts (x :: xs) | _ => false
  | .or ts, e => match e with | .BoolOp .Or (x :: xs) _ => isTs N sc ts (x :: xs) | _ => false
  | .not a, e => match e with | .UnaryOp .Not x _ => isT N sc a x | _ => false
def isTs (N : List Str) (sc : Scope) : PTs → List Expr → Bool
  | .nil, xs => match xs with | [] => true | _ => false
  | .cons p ps, xs => match xs with | x :: xs => isT N sc p x && isTs N sc ps xs | [] => false
def isIt (N : List Str) (sc : Scope) : PIt → Expr → Bool
  | .ex a, e => isX N sc a e
  | .rng1 a, e => match e with | .Call fn [x] [] _ => isBi sc "range" fn && isX N sc a x | _ => false
  | .rng2 a b, e => match e with | .Call fn [x, y] [] _ => isBi sc "range" fn && isX N sc a x && isX N sc b y | _ => false
  | .rng3 a b c, e => match e with | .Call fn [x, y, z] [] _ => isBi sc "range" fn && isX N sc a x && isX N sc b y && isX N sc c z | _ => false
  | .enum a, e => match e with | .Call fn [x] [] _ => isBi sc "enumerate" fn && isX N sc a x | _ => false
  | .zip a b, e => match e with | .Call fn [x, y] [] _ => isBi sc "zip" fn && isX N sc a x && isX N sc b y | _ => false
  | .rev a, e => match e with | .Call fn [x] [] _ => isBi sc "reversed" fn && isX N sc a x | _ => false
  | .pr m _ es, e => prB e && (match m N sc e with | some xs => isXs N sc es xs | none => false)
def isIf (N : List Str) (sc : Scope) : PIf → List Expr → Bool
  | .nil, es => match es with | [] => true | _ => false
  | .one t, es => match es with | [e] => isT N sc t e | _ => false
end
end VS

/-! VS, part 3: the reading of the small syntax by data. -/
namespace VS
open PySem PySem.Spec PyProof.Rows L2
mutual
def gTg : Tg → D → Env → (Env → Prop) → Prop
  | .nm i, d, σ, Q => Q (σ.set i (some d))
  | .tp ts, d, σ, Q => match d with | .tup ds => gTgs ts ds σ Q | _ => False
def gTgs : Tgs → List D → Env → (Env → Prop) → Prop
  | .nil, ds, σ, Q => match ds with | [] => Q σ | _ => False
  | .cons t ts, ds, σ, Q => match ds with | d :: ds => gTg t d σ fun σ' => gTgs ts ds σ' Q | [] => False
end
def getS (σ : Env) (i : Nat) (Q : D → Prop) : Prop := match σ[i]? with | some (some d) => Q d | _ => False
/-- what a method is asked of -/
def mtTy (m : Mt) (x : D) (M : Store) : Bool :=
  match m with
  | .get1 => (asD M x).isSome | .get2 => (asD M x).isSome
  | _ => (asL M x).isSome
/-- a comprehension's turns -/
def lcGo (g : Store → Prop) (f : D → Store → (Option D → Store → Prop) → Prop) : List D → List D → Store → DK → Prop
  | [], acc, M, Q => g M ∧ nuL acc M Q
  | x :: xs, acc, M, Q => g M ∧ f x M fun o M' => lcGo g f xs (match o with | some y => acc ++ [y] | none => acc) M' Q
/-- a dict comprehension's turns -/
def nuD (kvs : List (D × D)) (M : Store) (Q : DK) : Prop := Q (.dic kvs) M ∨ ∀ p, M p = none → Q (.ptr p) (M.put p (.dic kvs))
def dcGo (g : Store → Prop) (f : D → Store → (Option (D × D) → Store → Prop) → Prop) : List D → List (D × D) → Store → DK → Prop
  | [], acc, M, Q => g M ∧ nuD acc M Q
  | x :: xs, acc, M, Q => g M ∧ f x M fun o M' => match o with
    | some (k, v) => (keyOf k).isSome = true ∧ acc.length < line ∧ dcGo g f xs (putD k v acc) M' Q
    | none => dcGo g f xs acc M' Q
mutual
def dE (E : XP) : PX → Env → Store → DK → Prop
  | .v i, σ, M, Q => getS σ i fun d => Q d M
  | .c d, _, M, Q => Q d M
  | .g _ d, _, M, Q => Q d M
  | .bin o a b, σ, M, Q => dE E a σ M fun x M1 => dE E b σ M1 fun y M2 => wBin o x y M2 Q
  | .neg a, σ, M, Q => dE E a σ M fun x M1 => wNeg x M1 Q
  | .cmp o a b, σ, M, Q => dE E a σ M fun x M1 => dE E b σ M1 fun y M2 => wCmp o x y M2 Q
  | .cmp2 o1 o2 a b c, σ, M, Q => dE E a σ M fun x M1 => dE E b σ M1 fun y M2 => wCmp o1 x y M2 fun z M3 => match z with | .bl true => dE E c σ M3 fun w M4 => wCmp o2 y w M4 Q | .bl false => Q (.bl false) M3 | _ => False
  | .not a, σ, M, Q => dE E a σ M fun x M1 => wTru x M1 fun b => Q (.bl (!b)) M1
  | .and es, σ, M, Q => dAnd E es σ M Q
  | .or es, σ, M, Q => dOr E es σ M Q
  | .ife t a b, σ, M, Q => dT E t σ M fun c M1 => match c with | true => dE E a σ M1 Q | false => dE E b σ M1 Q
  | .tup es, σ, M, Q => dEs E es σ M fun ds M1 => Q (.tup ds) M1
  | .lst es, σ, M, Q => dEs E es σ M fun ds M1 => Q (.lst ds) M1
  | .mlst es, σ, M, Q => dEs E es σ M fun ds M1 => ∀ p, M1 p = none → Q (.ptr p) (M1.put p (.lst ds))
  | .mdic, _, M, Q => ∀ p, M p = none → Q (.ptr p) (M.put p (.dic []))
  | .ix a b, σ, M, Q => dE E a σ M fun x M1 => dE E b σ M1 fun y M2 => wIx x y M2 Q
  | .sl a fl fh lo hi, σ, M, Q => dE E a σ M fun x M1 => dE E lo σ M1 fun l M2 => match optI fl l with
    | some lo' => dE E hi σ M2 fun h M3 => (match optI fh h with | some hi' => wSl x lo' hi' M3 Q | none => False)
    | none => False
  | .call _ sp es, σ, M, Q => dEs E es σ M fun ds M1 => sp ds M1 Q E
  | .bi b es, σ, M, Q => dEs E es σ M fun ds M1 => wBi b ds M1 Q
  | .isi a t, σ, M, Q => dE E a σ M fun x M1 => (match isTyD M1 x t with | some b => Q (.bl b) M1 | none => False)
  | .isi2 a t u, σ, M, Q => dE E a σ M fun x M1 => (match isTyD M1 x t, isTyD M1 x u with | some b, some b' => Q (.bl (b || b')) M1 | _, _ => False)
  | .mth m a es, σ, M, Q => dE E a σ M fun x M1 => mtTy m x M1 = true ∧ dEs E es σ M1 fun ds M2 => wMt m x ds M2 Q
  | .meth cl m sp a es, σ, M, Q => dE E a σ M fun x M1 => (match asI M1 x with | some (c, fs) => c = cl ∧ lookF m fs = none ∧ dEs E es σ M1 fun ds M2 => sp (x :: ds) M2 Q E | none => False)
  | .attr cl a f, σ, M, Q => dE E a σ M fun x M1 => (match asI M1 x with | some (c, fs) => c = cl ∧ (match lookF f fs with | some d => Q d M1 | none => False) | none => False)
  | .lc elt own tg it cnd, σ, M, Q => dIt E it σ M fun xs g M1 =>
      lcGo g (fun x M k => gTg tg x (wipeD σ (own.map (·.2))) fun σ' => dIf X0 cnd σ' M fun b M' => match b with | true => dE X0 elt σ' M' fun y M'' => k (some y) M'' | false => k none M') xs [] M1 Q
  | .dc kx vx own tg it cnd, σ, M, Q => dIt E it σ M fun xs g M1 =>
      dcGo g (fun x M k => gTg tg x (wipeD σ (own.map (·.2))) fun σ' => dIf X0 cnd σ' M fun b M' => match b with | true => dE X0 kx σ' M' fun y M2 => dE X0 vx σ' M2 fun z M3 => k (some (y, z)) M3 | false => k none M') xs [] M1 Q
  | .pr _ w es, σ, M, Q => dEs E es σ M fun ds M1 => w ds M1 Q E
  | .pg _ t w es, σ, M, Q => dEg E t 0 es σ M fun ds M1 => w ds M1 Q E
def dEg (E : XP) (t : Gd) : Nat → PXs → Env → Store → (List D → Store → Prop) → Prop
  | _, .nil, _, M, Q => Q [] M
  | i, .cons p ps, σ, M, Q => dE E p σ M fun d M1 => t i d M1 ∧ dEg E t (i + 1) ps σ M1 fun ds M2 => Q (d :: ds) M2
def dEs (E : XP) : PXs → Env → Store → (List D → Store → Prop) → Prop
  | .nil, _, M, Q => Q [] M
  | .cons p ps, σ, M, Q => dE E p σ M fun d M1 => dEs E ps σ M1 fun ds M2 => Q (d :: ds) M2
def dT (E : XP) : PT → Env → Store → (Bool → Store → Prop) → Prop
  | .val a, σ, M, Q => dE E a σ M fun x M1 => wTru x M1 fun b => Q b M1
  | .and ts, σ, M, Q => dTA E ts σ M Q
  | .or ts, σ, M, Q => dTO E ts σ M Q
  | .not a, σ, M, Q => dT E a σ M fun c M1 => Q (!c) M1
def dAnd (E : XP) : PXs → Env → Store → DK → Prop
  | .nil, _, _, _ => False
  | .cons p ps, σ, M, Q => match ps with
    | .nil => dE E p σ M Q
    | _ => dE E p σ M fun x M1 => match x with | .bl true => dAnd E ps σ M1 Q | .bl false => Q (.bl false) M1 | _ => False
def dOr (E : XP) : PXs → Env → Store → DK → Prop
  | .nil, _, _, _ => False
  | .cons p ps, σ, M, Q => match ps with
    | .nil => dE E p σ M Q
    | _ => dE E p σ M fun x M1 => match x with | .bl true => Q (.bl true) M1 | .bl false => dOr E ps σ M1 Q | _ => False
def dTA (E : XP) : PTs → Env → Store → (Bool → Store → Prop) → Prop
  | .nil, _, _, _ => False
  | .cons p ps, σ, M, Q => match ps with
    | .nil => dT E p σ M Q
    | _ => dT E p σ M fun c M1 => match c with | true => dTA E ps σ M1 Q | false => Q false M1
def dTO (E : XP) : PTs → Env → Store → (Bool → Store → Prop) → Prop
  | .nil, _, _, _ => False
  | .cons p ps, σ, M, Q => match ps with
    | .nil => dT E p σ M Q
    | _ => dT E p σ M fun c M1 => match c with | true => Q true M1 | false => dTO E ps σ M1 Q
def dIt (E : XP) : PIt → Env → Store → (List D → (Store → Prop) → Store → Prop) → Prop
  | .ex a, σ, M, Q => dE E a σ M fun x M1 => itD x M1 fun xs g => Q xs g M1
  | .rng1 a, σ, M, Q => dE E a σ M fun x M1 => (match x with | .int j => (-(2 ^ 62) ≤ j ∧ j < 2 ^ 62) ∧ j.toNat ≤ line ∧ Q (rngD 0 j) (fun _ => True) M1 | _ => False)
  | .rng2 a b, σ, M, Q => dE E a σ M fun x M1 => dE E b σ M1 fun y M2 => (match x, y with | .int i, .int j => (-(2 ^ 62) ≤ i ∧ i < 2 ^ 62 ∧ -(2 ^ 62) ≤ j ∧ j < 2 ^ 62) ∧ (j - i).toNat ≤ line ∧ Q (rngD i j) (fun _ => True) M2 | _, _ => False)
  | .rng3 a b c, σ, M, Q => dE E a σ M fun x M1 => dE E b σ M1 fun y M2 => dE E c σ M2 fun z M3 => (match x, y, z with
    | .int i, .int j, .int k => ∃ n, RgC i j k n ∧ n ≤ line ∧ Q ((List.range n).map fun (t : Nat) => D.int (i + (t : Int) * k)) (fun _ => True) M3
    | _, _, _ => False)
  | .enum a, σ, M, Q => dE E a σ M fun x M1 => (match asL M1 x with | some xs => Q ((List.range xs.length).zipWith (fun (i : Nat) x => D.tup [.int i, x]) xs) (fun M' => asL M' x = some xs) M1 | none => False)
  | .zip a b, σ, M, Q => dE E a σ M fun x M1 => dE E b σ M1 fun y M2 => (match asS M2 x, asS M2 y with | some xs, some ys => Q (List.zipWith (fun x y => D.tup [x, y]) xs ys) (fun M' => asS M' x = some xs ∧ asS M' y = some ys) M2 | _, _ => False)
  | .rev a, σ, M, Q => dE E a σ M fun x M1 => (match asL M1 x with | some xs => Q xs.reverse (fun M' => asL M' x = some xs) M1 | none => False)
  | .pr _ w es, σ, M, Q => dEs E es σ M fun ds M1 => w ds M1 Q
def dIf (E : XP) : PIf → Env → Store → (Bool → Store → Prop) → Prop
  | .nil, _, M, Q => Q true M
  | .one t, σ, M, Q => dT E t σ M Q
end
end VS

/-! VS, part 4: promises, and the operations over the heap. -/
namespace VS
open PySem PySem.Spec PyProof.Rows L2

def Wish (G : Glob) (R F : Hp) (Qd : DK) (Q : VK) : Prop := ∀ d M' v F' H', Qd d M' → Ex F F' → Good G R F' H' M' → Rp G F' v d → Q v H'
def WishL (G : Glob) (R F : Hp) (Qd : List D → Store → Prop) (Q : List V → Hp → Prop) : Prop := ∀ d M' v F' H', Qd d M' → Ex F F' → Good G R F' H' M' → RpL G F' v d → Q v H'
def WishB (G : Glob) (R F : Hp) (Qd : Bool → Store → Prop) (Q : Bool → Hp → Prop) : Prop := ∀ d M' F' H', Qd d M' → Ex F F' → Good G R F' H' M' → Q d H'
def WishX (G : Glob) (R F : Hp) (Ed : XP) (E : XK) : Prop := ∀ c fs M' F' H' (C : Addr), Ed c fs M' → Ex F F' → Good G R F' H' M' → G.mg (Str.ofString c) = some (.ref C) →
  (match fs with | none => E (.ref C) none H' | some fs => ∀ d xfs, H' d = some (.xd xfs) → RpF G F' xfs fs → E (.ref C) (some d) H')
/-- the promise in the heap of a promise about data -/
def toSp (G : Glob) (n : Nat) (sp : Spec) : Sp := fun vs H Q E => ∃ ds F M R Qd Ed, ds.length = n ∧ Good G R F H M ∧ RpL G F vs ds ∧ sp ds M Qd Ed ∧ Wish G R F Qd Q ∧ WishX G R F Ed E

section
variable {G : Glob} {R F F' H H' : Hp} {M : Store} {v u : V} {d x y : D} {xs : List D} {Qd : DK} {Q : VK}
theorem Wish.mono (e : Ex F F') (w : Wish G R F Qd Q) : Wish G R F' Qd Q := fun d M' v F2 H2 q e2 g r => w d M' v F2 H2 q (e.trans e2) g r
theorem Wish.at (w : Wish G R F Qd Q) (g : Good G R F H M) (r : Rp G F v d) (q : Qd d M) : Q v H := w d M v F H q (Ex.refl F) g r
/-- a new frozen object as the value -/
theorem Wish.new {p : Addr} {o : HO} (w : Wish G R F Qd Q) (g : Good G R F H M) (h : H p = none) (r : Rp G (upd F p o) (.ref p) d) (q : Qd d M) : Q (.ref p) (upd H p o) :=
  let ⟨g', e⟩ := g.new (o := o) h; w d M _ _ _ q e g' r
theorem Wish.newM {p : Addr} {o : HO} {mo : MO} (w : Wish G R F Qd Q) (g : Good G R F H M) (h : H p = none) (r : RpM G F o mo) (q : Qd (.ptr p) (M.put p mo)) : Q (.ref p) (upd H p o) :=
  w _ _ _ F _ q (Ex.refl F) (g.newM h r) (.ptr p)
theorem rp_new_lst {p : Addr} {vs : List V} {ds : List D} (h : F p = none) (r : RpL G F vs ds) : Rp G (upd F p (.lst vs)) (.ref p) (.lst ds) := .lst upd_same (r.mono (Ex.new h))
theorem rp_new_tup {p : Addr} {vs : List V} {ds : List D} (h : F p = none) (r : RpL G F vs ds) : Rp G (upd F p (.tup vs)) (.ref p) (.tup ds) := .tup (SqT.of upd_same) (r.mono (Ex.new h))
/-- a new list, frozen or in the store -/
theorem Wish.nuL {p : Addr} {vs : List V} {ds : List D} (w : Wish G R F Qd Q) (g : Good G R F H M) (h : H p = none) (r : RpL G F vs ds) (q : VS.nuL ds M Qd) : Q (.ref p) (upd H p (.lst vs)) := by
  rcases q with q | q
  · exact w.new g h (rp_new_lst (g.fresh h).2.1 r) q
  · exact w.newM g h (.lst r) (q p (g.fresh h).1)
theorem asL_rp (g : Good G R F H M) (r : Rp G F v d) (h : asL M d = some xs) : ∃ a vs, v = .ref a ∧ H a = some (.lst vs) ∧ RpL G F vs xs := by
  cases r with
  | lst ha r => cases h; exact ⟨_, _, rfl, g.ex _ _ ha, r⟩
  | ptr a =>
    have h' : (match M a with | some (.lst xs) => some xs | _ => none) = some xs := h
    cases q : M a with
    | none => rw [q] at h'; cases h'
    | some mo =>
      rw [q] at h'
      cases mo with
      | lst ys =>
        cases h'
        obtain ⟨_, ho, e, rm⟩ := g.mt a _ q
        cases rm with
        | lst r => exact ⟨_, _, rfl, e, r⟩
      | dic _ => cases h'
      | inst _ _ => cases h'
  | _ => cases h
theorem asS_rp (g : Good G R F H M) (r : Rp G F v d) (h : asS M d = some xs) : ∃ a vs, v = .ref a ∧ (SqL G.K H a vs ∨ SqT G.K H a vs) ∧ RpL G F vs xs := by
  have key : (∃ ys, d = .tup ys) ∨ asL M d = some xs := by
    cases d <;> first | exact .inl ⟨_, rfl⟩ | exact .inr h
  rcases key with ⟨ys, rfl⟩ | h'
  · cases h
    cases r with
    | tup ha r => exact ⟨_, _, rfl, .inr (g.ex.t ha), r⟩
  · obtain ⟨a, vs, e1, e2, e3⟩ := asL_rp g r h'
    exact ⟨a, vs, e1, .inl (SqL.of e2), e3⟩
theorem asD_rp {kvs : List (D × D)} (g : Good G R F H M) (r : Rp G F v d) (h : asD M d = some kvs) : ∃ a vs, v = .ref a ∧ H a = some (.dK vs) ∧ RpD G F vs kvs := by
  cases r with
  | dic ha r => cases h; exact ⟨_, _, rfl, g.ex _ _ ha, r⟩
  | ptr a =>
    have h' : (match M a with | some (.dic xs) => some xs | _ => none) = some kvs := h
    cases q : M a with
    | none => rw [q] at h'; cases h'
    | some mo =>
      rw [q] at h'
      cases mo with
      | dic ys =>
        cases h'
        obtain ⟨_, ho, e, rm⟩ := g.mt a _ q
        cases rm with
        | dic r => exact ⟨_, _, rfl, e, r⟩
      | lst _ => cases h'
      | inst _ _ => cases h'
  | _ => cases h
theorem asI_rp {c : String} {fs : List (String × D)} (g : Good G R F H M) (r : Rp G F v d) (h : asI M d = some (c, fs)) : ∃ a C dx vs, v = .ref a ∧ H a = some (.ins C dx vs) ∧ G.mg (Str.ofString c) = some (.ref C) ∧ RpF G F vs fs := by
  cases r with
  | inst ha hc r => cases h; exact ⟨_, _, _, _, rfl, g.ex _ _ ha, hc, r⟩
  | ptr a =>
    have h' : (match M a with | some (.inst c fs) => some (c, fs) | _ => none) = some (c, fs) := h
    cases q : M a with
    | none => rw [q] at h'; cases h'
    | some mo =>
      rw [q] at h'
      cases mo with
      | inst c' fs' =>
        cases h'
        obtain ⟨_, ho, e, rm⟩ := g.mt a _ q
        cases rm with
        | inst hc r => exact ⟨_, _, _, _, rfl, e, hc, r⟩
      | lst _ => cases h'
      | dic _ => cases h'
  | _ => cases h
mutual
theorem dp_of : ∀ {v : V} {d : D}, Rp G H v d → PyData.canLay0 (py d) = true → Dp G.K H v (py d)
  | _, _, .non, _ => .non
  | _, _, .bl b, _ => .bl b
  | _, _, .int i, _ => .int i
  | _, _, .str s, _ => .str _
  | _, _, .tup h r, c => .tup h (dpL_of r (by simpa [py, PyData.canLay0] using c))
  | _, _, .lst h r, c => .lst (SqL.of h) (dpL_of r (by simpa [py, PyData.canLay0] using c))
  | _, _, .dic _ _, c => by simp [py, PyData.canLay0] at c
  | _, _, .inst _ _ _, c => by simp [py, PyData.canLay0] at c
  | _, _, .rng _, c => by simp [py, PyData.canLay0] at c
  | _, _, .ptr _, c => by simp [py, PyData.canLay0] at c
  | _, _, .scr _, c => by simp [py, PyData.canLay0] at c
  | _, _, .tab _, c => by simp [py, PyData.canLay0] at c
theorem dpL_of : ∀ {v : List V} {d : List D}, RpL G H v d → PyData.canLayAll0 (pyL d) = true → DpAll G.K H v (pyL d)
  | _, _, .nil, _ => .nil
  | _, _, .cons h r, c => by
    simp only [pyL, PyData.canLayAll0, Bool.and_eq_true] at c
    exact .cons (dp_of h c.1) (dpL_of r c.2)
end
theorem dp_at (g : Good G R F H M) (r : Rp G F v d) (s : SeqAt.shaped (py d) = true) : Dp G.K H v (py d) := by
  refine dp_of (r.mono g.ex) ?_
  unfold SeqAt.shaped at s
  simp only [Bool.and_eq_true] at s
  exact s.1
theorem pyL_map : ∀ ds : List D, pyL ds = ds.map py
  | [] => rfl
  | d :: ds => by rw [List.map_cons, ← pyL_map ds]; rfl
end

/-- two data and an operation -/
def rD (G : Glob) (w : D → D → Store → DK → Prop) : R2 := fun x y H Q => ∃ dx dy F M R Qd, Good G R F H M ∧ Rp G F x dx ∧ Rp G F y dy ∧ w dx dy M Qd ∧ Wish G R F Qd Q
structure CtxG (G : Glob) (X : Cx) : Prop where
  prog : X.prog = G.prog
  w : X.w = G.w
  K : X.K = G.K
  mg : X.mg = G.mg
  base : X.base = G.base
  calm : X.calm = true
  nd : X.N.Nodup
  un : X.A.units + 65 < cLine

theorem ofString_cps (s : String) : (Str.ofString s).cps.toList = s.toList.map Char.toNat := by
  rw [Str.ofString_eq_toList]
theorem ofString_len (s : String) : (Str.ofString s).length = s.length := by
  have h : (Str.ofString s).cps.toList.length = (s.toList.map Char.toNat).length := by rw [ofString_cps]
  rw [List.length_map, String.length_toList] at h
  exact h
theorem Str.ext' {a b : Str} (h : a.cps.toList = b.cps.toList) : a = b := by
  cases a; cases b
  simp only at h
  rw [Array.toList_inj] at h
  rw [h]
theorem toNat_inj {a b : Char} (h : a.toNat = b.toNat) : a = b := Char.ext (UInt32.toNat_inj.mp h)
theorem map_toNat_inj : ∀ {a b : List Char}, a.map Char.toNat = b.map Char.toNat → a = b
  | [], [], _ => rfl
  | [], _ :: _, h => by simp at h
  | _ :: _, [], h => by simp at h
  | x :: a, y :: b, h => by
    simp only [List.map_cons, List.cons.injEq] at h
    rw [toNat_inj h.1, map_toNat_inj h.2]
theorem ofString_inj {s t : String} : Str.ofString s = Str.ofString t ↔ s = t := by
  refine ⟨fun h => ?_, fun h => by rw [h]⟩
  have h2 : (Str.ofString s).cps.toList = (Str.ofString t).cps.toList := by rw [h]
  rw [ofString_cps, ofString_cps] at h2
  exact String.toList_inj.mp (map_toNat_inj h2)
theorem tab_in {K : PySem.W.Frag} {a : Addr} {od : Option Addr} {cl : Value} {n : Nat} {sl : Array (Option Value)} {s : String} : ∀ {es : Array DictEntry} {l : List (String × String)}, K.lookup a = some ⟨cl, od, .dict es n, sl⟩ → TabE l es.toList →
    ∃ r, PySem.W.nsIn K a (Str.ofString s) = some r ∧ ((lookT s l = none ∧ r = none) ∨ ∃ v t, lookT s l = some v ∧ r = some (.str (Str.ofString v) t)) := fun {es l} hl h => by
  unfold PySem.W.nsIn
  rw [hl]
  dsimp only
  have ref : ∀ {l : List (String × String)} {es : List DictEntry}, TabE l es → es.any (·.refKey) = false := fun h => by
    induction h with
    | nil => rfl
    | cons _ ih => rw [List.any_cons, ih]; rfl
  have fnd : ∀ {l : List (String × String)} {es : List DictEntry}, TabE l es → (lookT s l = none ∧ es.find? (·.key.isStr (Str.ofString s)) = none) ∨ ∃ e v t, lookT s l = some v ∧ es.find? (·.key.isStr (Str.ofString s)) = some e ∧ e.val = .str (Str.ofString v) t := fun h => by
    induction h with
    | nil => exact .inl ⟨rfl, rfl⟩
    | @cons k v t u hh l es _ ih =>
      by_cases e : k = s
      · refine .inr ⟨⟨hh, .str (Str.ofString k) t, .str (Str.ofString v) u⟩, v, u, by unfold lookT; rw [if_pos e], ?_, rfl⟩
        rw [List.find?_cons_of_pos]
        show (Str.ofString k == Str.ofString s) = true
        rw [e]; exact beq_self_eq_true _
      · have n1 : (fun e : DictEntry => e.key.isStr (Str.ofString s)) ⟨hh, .str (Str.ofString k) t, .str (Str.ofString v) u⟩ = false := by
          show (Str.ofString k == Str.ofString s) = false
          rw [beq_eq_false_iff_ne]; exact fun z => e (ofString_inj.mp z)
        have n2 : lookT s ((k, v) :: l) = lookT s l := by
          show (if k = s then some v else lookT s l) = _
          rw [if_neg e]
        rw [n2, List.find?_cons_of_neg (p := fun e : DictEntry => e.key.isStr (Str.ofString s)) (fun z => Bool.false_ne_true (n1.symm.trans z))]
        exact ih
  rcases fnd h with ⟨e1, e2⟩ | ⟨e, v, t, e1, e2, e3⟩
  · rw [e2]
    dsimp only
    rw [ref h]
    exact ⟨none, rfl, .inl ⟨e1, rfl⟩⟩
  · rw [e2]
    exact ⟨some e.val, rfl, .inr ⟨v, t, e1, by rw [e3]⟩⟩
theorem ofString_append (s t : String) : Str.ofString (s ++ t) = Str.ofString s ++ Str.ofString t := by
  refine Str.ext' ?_
  show _ = ((Str.ofString s).cps ++ (Str.ofString t).cps).toList
  rw [Array.toList_append, ofString_cps, ofString_cps, ofString_cps, String.toList_append, List.map_append]

section
variable {G : Glob} {X : Cx} (C : CtxG G X)
include C
theorem op_addD : OpR X (binaryOp .Add) (rD G wAdd) := by
  intro pins s σ H x y v u Q I rx ry h
  obtain ⟨dx, dy, F, M, R, Qd, g, r1, r2, hw, w⟩ := h
  unfold wAdd at hw
  split at hw
  · cases r1; cases r2
    exact op_add pins s σ H _ _ v u Q I rx ry ⟨_, _, rfl, rfl, w.at g (.int _) hw⟩
  · cases r1; cases r2
    refine op_add_str pins s σ H _ _ v u Q I rx ry ⟨_, _, rfl, rfl, ?_, ?_⟩
    · rw [ofString_len, ofString_len, line_eq]; exact hw.1
    · rw [← ofString_append]; exact w.at g (.str _) hw.2
  · rename_i xs ys
    cases r1 with
    | tup h1 r1 =>
      rename_i a vs
      cases r2 with
      | tup h2 r2 =>
        rename_i b ws
        refine op_catA pins s σ H _ _ v u Q I rx ry ⟨_, _, vs, ws, rfl, rfl, by rw [C.K]; exact g.ex.t h1, by rw [C.K]; exact g.ex.t h2, ?_, fun e => ?_, fun _ e => ?_, fun _ _ p hp => ?_⟩
        · rw [r1.length, r2.length, line_eq]; exact hw.1
        · subst e
          cases r1
          exact w.at g (.tup h2 r2) hw.2
        · subst e
          cases r2
          have q := hw.2
          rw [List.append_nil] at q
          exact w.at g (.tup h1 r1) q
        · exact w.new g hp (rp_new_tup (g.fresh hp).2.1 (r1.append r2)) hw.2
  · split at hw
    · rename_i xs ys e1 e2
      obtain ⟨a, vs, rfl, ha, q1⟩ := asL_rp g r1 e1
      obtain ⟨b, ws, rfl, hb, q2⟩ := asL_rp g r2 e2
      refine op_cat pins s σ H _ _ v u Q I rx ry ⟨a, b, vs, ws, rfl, rfl, ha, hb, ?_, fun p hp => ?_⟩
      · rw [q1.length, q2.length, line_eq]; exact hw.1
      · rcases hw.2 with hq | hq
        · exact w.new g hp (rp_new_lst (g.fresh hp).2.1 (q1.append q2)) hq
        · exact w.newM g hp (.lst (q1.append q2)) (hq p (g.fresh hp).1)
    · exact hw.elim
theorem op_subD : OpR X (binaryOp .Sub) (rD G wSub) := by
  intro pins s σ H x y v u Q I rx ry h
  obtain ⟨dx, dy, F, M, R, Qd, g, r1, r2, hw, w⟩ := h
  unfold wSub at hw
  split at hw
  · cases r1; cases r2
    exact op_sub pins s σ H _ _ v u Q I rx ry ⟨_, _, rfl, rfl, w.at g (.int _) hw⟩
  · exact hw.elim
theorem op_mulD : OpR X (binaryOp .Mult) (rD G wMul) := by
  intro pins s σ H x y v u Q I rx ry h
  obtain ⟨dx, dy, F, M, R, Qd, g, r1, r2, hw, w⟩ := h
  unfold wMul at hw
  split at hw
  · cases r1; cases r2
    exact op_mul pins s σ H _ _ v u Q I rx ry ⟨_, _, rfl, rfl, hw.1, w.at g (.int _) hw.2⟩
  · exact hw.elim
theorem op_modD : OpR X (binaryOp .Mod) (rD G wMod) := by
  intro pins s σ H x y v u Q I rx ry h
  obtain ⟨dx, dy, F, M, R, Qd, g, r1, r2, hw, w⟩ := h
  unfold wMod at hw
  split at hw
  · cases r1; cases r2
    exact op_mod pins s σ H _ _ v u Q I rx ry ⟨_, _, rfl, rfl, hw.1, w.at g (.int _) hw.2⟩
  · exact hw.elim
theorem op_fdivD : OpR X (binaryOp .FloorDiv) (rD G wFdiv) := by
  intro pins s σ H x y v u Q I rx ry h
  obtain ⟨dx, dy, F, M, R, Qd, g, r1, r2, hw, w⟩ := h
  unfold wFdiv at hw
  split at hw
  · cases r1; cases r2
    exact op_fdiv pins s σ H _ _ v u Q I rx ry ⟨_, _, rfl, rfl, hw.1, w.at g (.int _) hw.2⟩
  · exact hw.elim
theorem op_powD : OpR X (binaryOp .Pow) (rD G wPow) := by
  intro pins s σ H x y v u Q I rx ry h
  obtain ⟨dx, dy, F, M, R, Qd, g, r1, r2, hw, w⟩ := h
  unfold wPow at hw
  split at hw
  · cases r1; cases r2
    exact op_pow pins s σ H _ _ v u Q I rx ry ⟨_, _, rfl, rfl, hw.1, w.at g (.int _) hw.2⟩
  · exact hw.elim
def bopO : BOp → Operator
  | .add => .Add | .sub => .Sub | .mul => .Mult | .mod => .Mod | .fdiv => .FloorDiv | .pow => .Pow
theorem op_binD (o : BOp) : OpR X (binaryOp (bopO o)) (rD G (wBin o)) := by
  cases o
  · exact op_addD C
  · exact op_subD C
  · exact op_mulD C
  · exact op_modD C
  · exact op_fdivD C
  · exact op_powD C
end
end VS

/-! VS, part 5: comparisons, truth, subscripts, slices, built-ins, methods. -/
namespace VS
open PySem PySem.Spec PyProof.Rows L2
theorem canLayAll_of : ∀ {ys : List D}, (ys.all fun y => SeqAt.shaped (py y)) = true → PyData.canLayAll0 (pyL ys) = true
  | [], _ => rfl
  | y :: ys, h => by
    rw [List.all_cons, Bool.and_eq_true] at h
    simp only [pyL, PyData.canLayAll0, Bool.and_eq_true]
    exact ⟨SeqAt.canLay_of_shaped h.1, canLayAll_of h.2⟩
theorem any_py {d : PyData} : ∀ ys : List D, (pyL ys).any (fun z => PyData.eqv z d) = ys.any fun y => PyData.eqv (py y) d
  | [] => rfl
  | y :: ys => by rw [pyL, List.any_cons, List.any_cons, any_py ys]
section
variable {G : Glob} {R F F' H H' : Hp} {M : Store} {v u : V} {d x y : D} {xs : List D} {Qd : DK} {Q : VK}
theorem dpL_at (g : Good G R F H M) {vs : List V} (r : RpL G F vs xs) (s : (xs.all fun y => SeqAt.shaped (py y)) = true) : DpAll G.K H vs (pyL xs) := dpL_of (r.mono g.ex) (canLayAll_of s)
end
section
variable {G : Glob} {X : Cx} (C : CtxG G X)
include C
theorem dec_str (s t : String) : decide (V.str (Str.ofString s) = V.str (Str.ofString t)) = decide (s = t) := by
  by_cases h : s = t
  · subst h; simp
  · have h' : ¬ V.str (Str.ofString s) = V.str (Str.ofString t) := fun e => h (ofString_inj.mp (V.str.inj e))
    rw [decide_eq_false h, decide_eq_false h']
theorem dec_int (i j : Int) : decide (V.int i = V.int j) = decide (i = j) := by
  by_cases h : i = j
  · subst h; simp
  · have h' : ¬ V.int i = V.int j := fun e => h (V.int.inj e)
    rw [decide_eq_false h, decide_eq_false h']
theorem dec_bl (i j : Bool) : decide (V.bl i = V.bl j) = decide (i = j) := by
  by_cases h : i = j
  · subst h; simp
  · have h' : ¬ V.bl i = V.bl j := fun e => h (V.bl.inj e)
    rw [decide_eq_false h, decide_eq_false h']
/-- == or != -/
theorem op_eqq (neg : Bool) : OpR X (compareOp (if neg then .NotEq else .Eq)) (rD G fun x y M Q => wEqB x y fun b => Q (.bl (if neg then !b else b)) M) := by
  intro pins s σ H x y v u Q I rx ry h
  obtain ⟨dx, dy, F, M, R, Qd, g, r1, r2, hw, w⟩ := h
  have fin : ∀ (b : Bool), scal x y = true → decide (x = y) = b → Qd (.bl (if neg then !b else b)) M → wpAny (model X.prog X.w) X.A (compareOp (if neg then .NotEq else .Eq) v u) (EP X pins σ Q) X.xe s := fun b e1 e2 q => by
    cases neg
    · exact op_eq pins s σ H _ _ v u Q I rx ry ⟨e1, by rw [e2]; exact w.at g (.bl _) q⟩
    · exact op_ne pins s σ H _ _ v u Q I rx ry ⟨e1, by rw [e2]; exact w.at g (.bl _) q⟩
  unfold wEqB at hw
  split at hw
  · cases r1; cases r2; exact fin _ rfl (dec_int C _ _) hw
  · cases r1; cases r2; exact fin _ rfl (dec_str C _ _) hw
  · cases r1; cases r2; exact fin _ rfl (dec_bl C _ _) hw
  · cases r1; cases r2; exact fin true rfl (by simp) hw
  · cases r1; cases r2; exact fin false rfl (by simp) hw
  · cases r1; cases r2; exact fin false rfl (by simp) hw
  · cases r1; cases r2; exact fin false rfl (by simp) hw
  · cases r1; cases r2; exact fin false rfl (by simp) hw
  · cases r1; cases r2; exact fin false rfl (by simp) hw
  · cases r1; cases r2; exact fin false rfl (by simp) hw
  · obtain ⟨s1, s2, q⟩ := hw
    have d1 : Dp X.K H x (py dx) := by rw [C.K]; exact dp_at g r1 s1
    have d2 : Dp X.K H y (py dy) := by rw [C.K]; exact dp_at g r2 s2
    have hu : X.A.units + 64 < cLine := Nat.lt_trans (Nat.lt_succ_self _) C.un
    cases neg
    · exact op_eqD hu pins s σ H _ _ v u Q I rx ry ⟨_, _, d1, d2, s1, s2, w.at g (.bl _) q⟩
    · exact op_neD hu pins s σ H _ _ v u Q I rx ry ⟨_, _, d1, d2, s1, s2, w.at g (.bl _) q⟩
theorem op_cmpI {op : CmpOp} {f : Int → Int → Bool} {k : String → String → Bool} (hi : OpR X (compareOp op) (rI0 fun i j => .bl (f i j)))
    (hs : OpR X (compareOp op) (fun x y H Q => ∃ s t, x = .str (Str.ofString s) ∧ y = .str (Str.ofString t) ∧ Q (.bl (k s t)) H)) : OpR X (compareOp op) (rD G (wCmpI f k)) := by
  intro pins s σ H x y v u Q I rx ry h
  obtain ⟨dx, dy, F, M, R, Qd, g, r1, r2, hw, w⟩ := h
  unfold wCmpI at hw
  split at hw
  · cases r1; cases r2
    exact hi pins s σ H _ _ v u Q I rx ry ⟨_, _, rfl, rfl, w.at g (.bl _) hw⟩
  · cases r1; cases r2
    exact hs pins s σ H _ _ v u Q I rx ry ⟨_, _, rfl, rfl, w.at g (.bl _) hw⟩
  · exact hw.elim
theorem op_ltD : OpR X (compareOp .Lt) (rD G (wCmp .lt)) := op_cmpI C op_lt fun pins s σ H x y v u Q I rx ry h => by
  obtain ⟨a, b, e1, e2, q⟩ := h
  exact op_lt_str pins s σ H x y v u Q I rx ry ⟨_, _, e1, e2, q⟩
theorem op_leD : OpR X (compareOp .LtE) (rD G (wCmp .le)) := op_cmpI C op_le fun pins s σ H x y v u Q I rx ry h => by
  obtain ⟨a, b, e1, e2, q⟩ := h
  exact op_le_str pins s σ H x y v u Q I rx ry ⟨_, _, e1, e2, q⟩
theorem op_gtD : OpR X (compareOp .Gt) (rD G (wCmp .gt)) := op_cmpI C op_gt fun pins s σ H x y v u Q I rx ry h => by
  obtain ⟨a, b, e1, e2, q⟩ := h
  exact op_gt_str pins s σ H x y v u Q I rx ry ⟨_, _, e1, e2, q⟩
theorem op_geD : OpR X (compareOp .GtE) (rD G (wCmp .ge)) := op_cmpI C op_ge fun pins s σ H x y v u Q I rx ry h => by
  obtain ⟨a, b, e1, e2, q⟩ := h
  exact op_ge_str pins s σ H x y v u Q I rx ry ⟨_, _, e1, e2, q⟩
theorem isNon_dec {G : Glob} {F : Hp} {v : V} {d : D} (r : Rp G F v d) : decide (v = .non) = isNon d := by
  cases r <;> simp [isNon]
theorem op_isD : OpR X (compareOp .Is) (rD G (wCmp .is_)) := by
  intro pins s σ H x y v u Q I rx ry h
  obtain ⟨dx, dy, F, M, R, Qd, g, r1, r2, hw, w⟩ := h
  cases r2 with
  | non =>
    have hw' : Qd (.bl (isNon dx)) M := hw
    exact op_isN pins s σ H _ _ v u Q I rx ry ⟨rfl, by rw [isNon_dec C r1]; exact w.at g (.bl _) hw'⟩
  | _ => exact (show False from hw).elim
theorem op_isnD : OpR X (compareOp .IsNot) (rD G (wCmp .isn)) := by
  intro pins s σ H x y v u Q I rx ry h
  obtain ⟨dx, dy, F, M, R, Qd, g, r1, r2, hw, w⟩ := h
  cases r2 with
  | non =>
    have hw' : Qd (.bl (!isNon dx)) M := hw
    exact op_notN pins s σ H _ _ v u Q I rx ry ⟨rfl, by rw [isNon_dec C r1]; exact w.at g (.bl _) hw'⟩
  | _ => exact (show False from hw).elim
theorem single_cps (a : Char) : Str.ofString (String.singleton a) = ⟨#[a.toNat]⟩ := by
  refine Str.ext' ?_
  rw [ofString_cps]
  simp
theorem keyOf_rp {G : Glob} {F : Hp} {v : V} {d : D} {k : Key} (r : Rp G F v d) (h : keyOf d = some k) : v = kV k := by
  cases r <;> cases h <;> rfl
theorem valV_rp {G : Glob} {F : Hp} {k : Key} {kd : D} (hk : keyOf kd = some k) : ∀ {vs : List (Key × V)} {ds : List (D × D)}, RpD G F vs ds →
    (∃ v d, valV vs k = some v ∧ lookD kd ds = some d ∧ Rp G F v d) ∨ (valV vs k = none ∧ lookD kd ds = none)
  | _, _, .nil => .inr ⟨rfl, rfl⟩
  | _, _, .cons (k := k') (kd := kd') hk' hr r => by
    unfold lookD
    by_cases e : k' = k
    · subst e
      rw [if_pos (hk'.trans hk.symm)]
      exact .inl ⟨_, _, valV_pos rfl, rfl, hr⟩
    · rw [if_neg (fun q => e (Option.some.inj (hk'.symm.trans (q.trans hk)))), valV_neg e]
      exact valV_rp hk r
/-- in, not in -/
theorem op_inq (neg : Bool) : OpR X (compareOp (if neg then .NotIn else .In)) (rD G fun x y M Q => wInB x y M fun b => Q (.bl (if neg then !b else b)) M) := by
  intro pins s σ H x y v u Q I rx ry h
  obtain ⟨dx, dy, F, M, R, Qd, g, r1, r2, hw, w⟩ := h
  unfold wInB at hw
  split at hw
  · rename_i c t
    obtain ⟨a, rfl, q⟩ := hw
    cases r1; cases r2
    have e1 : decide (a.toNat ∈ (Str.ofString t).cps.toList) = decide (a ∈ t.toList) := by
      rw [ofString_cps]
      by_cases h : a ∈ t.toList
      · rw [decide_eq_true h, decide_eq_true (List.mem_map_of_mem h)]
      · rw [decide_eq_false h, decide_eq_false]
        intro h2
        obtain ⟨b, hb, e⟩ := List.mem_map.mp h2
        rw [toNat_inj e] at hb
        exact h hb
    cases neg
    · exact op_in_sign pins s σ H _ _ v u Q I rx ry ⟨_, _, by rw [single_cps C], rfl, by rw [e1]; exact w.at g (.bl _) q⟩
    · exact op_notIn_sign pins s σ H _ _ v u Q I rx ry ⟨_, _, by rw [single_cps C], rfl, by rw [e1]; exact w.at g (.bl _) q⟩
  · rename_i s' l
    cases r1
    cases r2 with
    | tab h =>
      obtain ⟨es, n, D, te⟩ := h
      rw [← C.K, ← C.w] at D
      obtain ⟨r, e1, e2⟩ := tab_in (s := s') D.at_ te
      have e3 : r.isSome = (lookT s' l).isSome := by
        rcases e2 with ⟨z, rfl⟩ | ⟨v', t, z, rfl⟩ <;> rw [z] <;> rfl
      cases neg
      · exact op_in_kd D pins s σ H _ _ v u Q I rx ry ⟨_, r, rfl, rfl, e1, by rw [e3]; exact w.at g (.bl _) hw⟩
      · exact op_notIn_kd D pins s σ H _ _ v u Q I rx ry ⟨_, r, rfl, rfl, e1, by rw [e3]; exact w.at g (.bl _) hw⟩
  · split at hw
    · rename_i ys e
      obtain ⟨s1, s2, q⟩ := hw
      have d1 : Dp X.K H x (py dx) := by rw [C.K]; exact dp_at g r1 s1
      obtain ⟨a, vs, rfl, ha, rl⟩ := asS_rp g r2 e
      have dl : DpAll X.K H vs (pyL ys) := by rw [C.K]; exact dpL_at g rl s2
      obtain ⟨as, q1⟩ := Dp.reads I _ x v d1 rx
      have room := room_in_shaped (A := X.A) (xs := pyL ys) s1 C.un
      have cl := SeqAt.canLay_of_shaped s1
      have ca := canLayAll_of s2
      rw [← any_py] at q
      rcases ha with ha | ha
      · obtain ⟨bs, q2⟩ := Dp.reads I (.list (pyL ys)) _ u (.lst (by rw [C.K]; exact ha) dl) ry
        cases neg
        · exact SeqAt.in_list_reads q2 q1 ca cl room ⟨.bl _, H, I, rfl, w.at g (.bl _) q⟩
        · exact SeqAt.notIn_list_reads q2 q1 ca cl room ⟨.bl _, H, I, rfl, w.at g (.bl _) q⟩
      · obtain ⟨bs, q2⟩ := Dp.reads I (.tuple (pyL ys)) _ u (.tup (by rw [C.K]; exact ha) dl) ry
        cases neg
        · exact SeqAt.in_tuple_reads q2 q1 ca cl room ⟨.bl _, H, I, rfl, w.at g (.bl _) q⟩
        · exact SeqAt.notIn_tuple_reads q2 q1 ca cl room ⟨.bl _, H, I, rfl, w.at g (.bl _) q⟩
    · split at hw
      · rename_i kvs e
        obtain ⟨hk, q⟩ := hw
        obtain ⟨k, hk⟩ := Option.isSome_iff_exists.mp hk
        obtain ⟨a, vs, rfl, ha, rd⟩ := asD_rp g r2 e
        have ex := keyOf_rp C r1 hk
        subst ex
        cases (show u = Value.ref a from ry)
        have hu : X.A.units + 1 < cLine := Nat.lt_of_le_of_lt (Nat.add_le_add_left (by decide) _) C.un
        have hs : (valV vs k).isSome = (lookD dx kvs).isSome := by
          rcases valV_rp C hk rd with ⟨v', d', e1, e2, _⟩ | ⟨e1, e2⟩ <;> rw [e1, e2] <;> rfl
        cases neg
        · refine d_in hu I (DGet.k (k := k) ha) rx fun s' I' => ⟨.bl _, H, I', rfl, ?_⟩
          rw [hs]; exact w.at g (.bl _) q
        · refine d_notIn hu I (DGet.k (k := k) ha) rx fun s' I' => ⟨.bl _, H, I', rfl, ?_⟩
          rw [hs]; exact w.at g (.bl _) q
      · exact hw.elim
def copO : COp → CmpOp
  | .eq => .Eq | .ne => .NotEq | .lt => .Lt | .le => .LtE | .gt => .Gt | .ge => .GtE | .is_ => .Is | .isn => .IsNot | .in_ => .In | .nin => .NotIn
theorem op_cmpD (o : COp) : OpR X (compareOp (copO o)) (rD G (wCmp o)) := by
  cases o
  · exact op_eqq C false
  · exact op_eqq C true
  · exact op_ltD C
  · exact op_leD C
  · exact op_gtD C
  · exact op_geD C
  · exact op_isD C
  · exact op_isnD C
  · exact op_inq C false
  · exact op_inq C true
theorem un_negD : UnR X (unaryOp .USub) (fun x H Q => ∃ dx F M R Qd, Good G R F H M ∧ Rp G F x dx ∧ wNeg dx M Qd ∧ Wish G R F Qd Q) := by
  intro pins s σ H x v Q I rx h
  obtain ⟨dx, F, M, R, Qd, g, r1, hw, w⟩ := h
  unfold wNeg at hw
  split at hw
  · cases r1
    exact un_neg pins s σ H _ v Q I rx ⟨_, rfl, w.at g (.int _) hw⟩
  · exact hw.elim
end
end VS

/-! VS, part 6: truth, subscripts, slices, built-ins, methods. -/
namespace VS
open PySem PySem.Spec PyProof.Rows L2
section
variable {G : Glob} {R F F' H H' : Hp} {M : Store} {v u : V} {d x y : D} {xs : List D} {Qd : DK} {Q : VK}
theorem isEmpty_rl {vs : List V} (r : RpL G F vs xs) : (!vs.isEmpty) = !xs.isEmpty := by cases r <;> rfl
theorem isEmpty_rd {vs : List (Key × V)} {ds : List (D × D)} (r : RpD G F vs ds) : (!vs.isEmpty) = !ds.isEmpty := by cases r <;> rfl
theorem tru_of {Qb : Bool → Prop} (g : Good G R F H M) (r : Rp G F v d) (h : wTru d M Qb) : ∃ k, TruV G.K v H k ∧ Qb k := by
  unfold wTru at h
  split at h
  · cases r; exact ⟨_, rfl, h⟩
  · cases r; exact ⟨_, rfl, h⟩
  · cases r; exact ⟨_, rfl, h⟩
  · rename_i s
    cases r
    refine ⟨_, ⟨by rw [ofString_len, line_eq]; exact h.1, rfl⟩, ?_⟩
    have e : (((Str.ofString s).length : Int) != 0) = decide (s.length ≠ 0) := by
      rw [ofString_len]
      by_cases z : s.length = 0
      · rw [z]; rfl
      · have z2 : ¬ ((s.length : Nat) : Int) = 0 := by omega
        rw [decide_eq_true z]
        simpa using z
    rw [e]; exact h.2
  · split at h
    · rename_i ys e
      obtain ⟨a, vs, rfl, ha, rl⟩ := asS_rp g r e
      rcases ha with ha | ha
      · exact ⟨_, .inl ⟨vs, ha, rfl⟩, by rw [isEmpty_rl rl]; exact h⟩
      · exact ⟨_, .inr (.inl ⟨vs, ha, rfl⟩), by rw [isEmpty_rl rl]; exact h⟩
    · split at h
      · rename_i kvs e
        obtain ⟨a, vs, rfl, ha, rl⟩ := asD_rp g r e
        exact ⟨_, .inr (.inr ⟨vs, ha, rfl⟩), by rw [isEmpty_rd rl]; exact h⟩
      · exact h.elim
theorem atI_rp {vs : List V} {i : Int} (r : RpL G F vs xs) (h : atI xs i = some d) : ∃ v, atI vs i = some v ∧ Rp G F v d := by
  unfold atI at h ⊢
  rw [r.length]
  cases q : ixN xs.length i with
  | none => rw [q] at h; cases h
  | some j =>
    rw [q] at h
    exact r.get h
theorem cut_rp {vs : List V} {lo hi : Option Int} (r : RpL G F vs xs) : RpL G F (cutV vs lo hi) (cutD xs lo hi) := by
  unfold cutV cutD
  rw [r.length]
  exact (r.drop _).take _
end
theorem lookD_key {G : Glob} {F : Hp} {kd d : D} : ∀ {vs : List (Key × V)} {ds : List (D × D)}, RpD G F vs ds → lookD kd ds = some d → ∃ k, keyOf kd = some k
  | _, _, .nil, h => by cases h
  | _, _, .cons hk _ r, h => by
    unfold lookD at h
    split at h
    · rename_i e
      exact ⟨_, e.symm.trans hk⟩
    · exact lookD_key r h
theorem ofString_ofList (cs : List Char) : (Str.ofString (String.ofList cs)).cps.toList = cs.map Char.toNat := by rw [ofString_cps, String.toList_ofList]
section
variable {G : Glob} {X : Cx} (C : CtxG G X)
include C
theorem ix_D : IxR X (rD G wIx) := by
  intro value slice pins s σ H x y v u Q I rx ry h hs
  obtain ⟨dx, dy, F, M, R, Qd, g, r1, r2, hw, w⟩ := h
  unfold wIx at hw
  split at hw
  · rename_i t i
    obtain ⟨hl, hw⟩ := hw
    cases r1; cases r2
    cases e : atI t.toList i with
    | none => rw [e] at hw; exact hw.elim
    | some c =>
      rw [e] at hw
      refine ix_str value slice pins s σ H _ _ v u Q I rx ry ⟨Str.ofString t, i, c.toNat, rfl, rfl, by rw [ofString_len, line_eq]; exact hl, ?_, ?_⟩ hs
      · rw [ofString_cps]
        unfold atI at e ⊢
        rw [List.length_map]
        cases q : ixN t.toList.length i with
        | none => rw [q] at e; cases e
        | some j =>
          rw [q] at e
          show (List.map Char.toNat t.toList)[j]? = some c.toNat
          rw [List.getElem?_map, show t.toList[j]? = some c from e]
          rfl
      · rw [← single_cps C]
        exact w.at g (.str _) hw
  · rename_i l s'
    cases r2
    cases r1 with
    | tab h =>
      obtain ⟨es, n, D, te⟩ := h
      rw [← C.K, ← C.w] at D
      obtain ⟨r, e1, e2⟩ := tab_in (s := s') D.at_ te
      rcases e2 with ⟨z, rfl⟩ | ⟨v', t, z, rfl⟩
      · rw [z] at hw; exact hw.elim
      · rw [z] at hw
        exact ix_kdict value slice pins s σ H _ _ v u Q I rx ry ⟨_, _, .str (Str.ofString v'), rfl, rfl, ⟨es, n, _, D.at_, D.lit, e1, ⟨t, rfl⟩⟩, w.at g (.str _) hw⟩ hs
  · split at hw
    · rename_i ys i e _ _
      cases r2
      obtain ⟨a, vs, rfl, ha, rl⟩ := asS_rp g r1 e
      cases e2 : atI ys i with
      | none => rw [e2] at hw; exact hw.elim
      | some d =>
        rw [e2] at hw
        obtain ⟨z, e3, rz⟩ := atI_rp rl e2
        rcases ha with ha | ha
        · exact ix_list value slice pins s σ H _ _ v u Q I rx ry ⟨a, vs, i, z, rfl, rfl, by rw [C.K]; exact ha, e3, w.at g rz hw⟩ hs
        · exact ix_tup value slice pins s σ H _ _ v u Q I rx ry ⟨a, vs, i, z, rfl, rfl, by rw [C.K]; exact ha, e3, w.at g rz hw⟩ hs
    · rename_i _ _ dy _ _ _ _ _
      split at hw
      · rename_i kvs e
        cases e2 : lookD dy kvs with
        | none => rw [e2] at hw; exact hw.elim
        | some d =>
          rw [e2] at hw
          obtain ⟨a, vs, rfl, ha, rd⟩ := asD_rp g r1 e
          cases (show v = Value.ref a from rx)
          obtain ⟨k, hk⟩ := lookD_key rd e2
          have ey := keyOf_rp C r2 hk
          subst ey
          rcases valV_rp C hk rd with ⟨v', d', e3, e4, rv⟩ | ⟨_, e4⟩
          · rw [e2] at e4; cases e4
            have hu : X.A.units + 1 < cLine := Nat.lt_of_le_of_lt (Nat.add_le_add_left (by decide) _) C.un
            have gd : DGet H a (kV k) (some v') := by
              have := DGet.k (k := k) ha
              rw [e3] at this; exact this
            exact tail_any (dict_typeIs I gd) PySem.F.slot_dict_getitem.lookup (d_getItem hu I gd ry fun w' s3 I3 rw' => ⟨v', H, I3, rw', w.at g rv hw⟩) hs
          · rw [e2] at e4; cases e4
      · exact hw.elim
theorem sl_D : SlR X (fun x lo hi H Q => ∃ dx F M R Qd, Good G R F H M ∧ Rp G F x dx ∧ wSl dx lo hi M Qd ∧ Wish G R F Qd Q) := by
  intro pins s σ H x v vl vu lo hi sl Q I rx hs pl pu h
  obtain ⟨dx, F, M, R, Qd, g, r1, hw, w⟩ := h
  unfold wSl at hw
  split at hw
  · rename_i t
    cases r1
    refine sl_str pins s σ H _ v vl vu lo hi sl Q I rx hs pl pu ⟨_, rfl, by rw [ofString_len, line_eq]; exact hw.1, ?_⟩
    have e : cutS (Str.ofString t) lo hi = Str.ofString (String.ofList (cutD t.toList lo hi)) := by
      refine Str.ext' ?_
      rw [ofString_ofList]
      unfold cutS cutD
      rw [ofString_cps, ofString_len, List.map_take, List.map_drop, String.length_toList]
    rw [e]
    exact w.at g (.str _) hw.2
  · rename_i ys
    cases r1 with
    | tup h1 rl =>
      rename_i a vs
      refine sl_tupA pins s σ H _ v vl vu lo hi sl Q I rx hs pl pu ⟨a, vs, rfl, by rw [C.K]; exact g.ex.t h1, fun e => ?_, fun _ p hp => ?_⟩
      · have e2 : cutD ys lo hi = ys := by
          unfold cutD
          rw [← rl.length, e.1, e.2, List.drop_zero, Nat.sub_zero, rl.length, List.take_length]
        rw [e2] at hw
        exact w.at g (.tup h1 rl) hw
      · exact w.new g hp (rp_new_tup (g.fresh hp).2.1 (cut_rp rl)) hw
  · split at hw
    · rename_i ys e
      obtain ⟨a, vs, rfl, ha, rl⟩ := asL_rp g r1 e
      exact sl_list pins s σ H _ v vl vu lo hi sl Q I rx hs pl pu ⟨a, vs, rfl, by rw [C.K]; exact SqL.of ha, fun p hp => w.nuL g hp (cut_rp rl) hw⟩
    · exact hw.elim
def r1D (G : Glob) (w1 : D → Store → DK → Prop) : List V → Hp → VK → Prop := fun vs H Q => ∃ x d F M R Qd, vs = [x] ∧ Good G R F H M ∧ Rp G F x d ∧ w1 d M Qd ∧ Wish G R F Qd Q
def r2D (G : Glob) (w2 : D → D → Store → DK → Prop) : List V → Hp → VK → Prop := fun vs H Q => ∃ x y d e F M R Qd, vs = [x, y] ∧ Good G R F H M ∧ Rp G F x d ∧ Rp G F y e ∧ w2 d e M Qd ∧ Wish G R F Qd Q
theorem b_len : CallR X (.builtin "len") (r1D G wLen) := by
  intro pins s σ H xs us Q I r h
  obtain ⟨v, x, F, M, R, Qd, rfl, g, r1, hw, w⟩ := h
  unfold wLen at hw
  split at hw
  · cases r1
    refine call_len_str pins s σ H _ us Q I r ⟨_, rfl, by rw [ofString_len, line_eq]; exact hw.1, ?_⟩
    rw [ofString_len]
    exact w.at g (.int _) hw.2
  · split at hw
    · rename_i ys e
      obtain ⟨a, vs, rfl, ha, q⟩ := asS_rp g r1 e
      refine call_len_seq pins s σ H _ us Q I r ⟨a, vs, rfl, by rw [C.K]; exact ha, ?_⟩
      rw [q.length]
      exact w.at g (.int _) hw
    · split at hw
      · rename_i kvs e
        obtain ⟨a, vs, rfl, ha, q⟩ := asD_rp g r1 e
        refine call_lenD pins s σ H _ us Q I r ⟨a, vs, rfl, ha, ?_⟩
        rw [q.length]
        exact w.at g (.int _) hw
      · exact hw.elim
theorem b_abs : CallR X (.builtin "abs") (r1D G wAbs) := by
  intro pins s σ H xs us Q I r h
  obtain ⟨v, x, F, M, R, Qd, rfl, g, r1, hw, w⟩ := h
  unfold wAbs at hw
  split at hw
  · cases r1
    exact call_abs pins s σ H _ us Q I r ⟨_, rfl, w.at g (.int _) hw⟩
  · exact hw.elim
theorem b_int : CallR X (.type "int") (r1D G wInt) := by
  intro pins s σ H xs us Q I r h
  obtain ⟨v, x, F, M, R, Qd, rfl, g, r1, hw, w⟩ := h
  unfold wInt at hw
  split at hw
  · cases r1
    exact call_int1 pins s σ H _ us Q I r (.inl ⟨_, rfl, w.at g (.int _) hw⟩)
  · exact hw.elim
theorem b_list : CallR X (.type "list") (r1D G wList) := by
  intro pins s σ H xs us Q I r h
  obtain ⟨v, x, F, M, R, Qd, rfl, g, r1, hw, w⟩ := h
  unfold wList at hw
  split at hw
  · cases r1 with
    | scr ha =>
      refine call_list_of pins s σ H _ us Q I r ⟨_, _, rfl, .inl (by rw [C.K]; exact g.ex.l ha), fun p hp => ?_⟩
      exact w.nuL g hp (RpL.ints _) hw
  · split at hw
    · rename_i ys e
      obtain ⟨a, vs, rfl, ha, q⟩ := asS_rp g r1 e
      exact call_list_of pins s σ H _ us Q I r ⟨_, _, rfl, by rw [C.K]; exact ha, fun p hp => w.nuL g hp q hw⟩
    · exact hw.elim
theorem keys_rp {F : Hp} : ∀ {vs : List (Key × V)} {ds : List (D × D)}, RpD G F vs ds → RpL G F (vs.map fun kv => kV kv.1) (ds.map (·.1))
  | _, _, .nil => .nil
  | _, _, .cons hk _ r => by
    refine .cons ?_ (keys_rp r)
    rename_i k v kd d vs ds _
    show Rp G F (kV k) kd
    cases kd <;> cases hk
    · exact .int _
    · exact .str _
theorem b_listD : CallR X (.type "list") (r1D G wListD) := by
  intro pins s σ H xs us Q I r h
  obtain ⟨v, x, F, M, R, Qd, rfl, g, r1, hw, w⟩ := h
  unfold wListD at hw
  split at hw
  · rename_i kvs e
    obtain ⟨a, vs, rfl, ha, q⟩ := asD_rp g r1 e
    exact call_list_dK C.calm pins s σ H _ us Q I r ⟨_, _, rfl, ha, fun p hp => w.nuL g hp (keys_rp C q) hw⟩
  · exact hw.elim
theorem keys_str {F : Hp} : ∀ {vs : List (Key × V)} {ds : List (D × D)} {ks : List String}, RpD G F vs ds → ds.map (·.1) = ks.map D.str → vs.map (·.1) = (ks.map Str.ofString).map Sum.inr
  | _, _, [], .nil, _ => rfl
  | _, _, _ :: _, .nil, h => by cases h
  | _, _, [], .cons _ _ _, h => by cases h
  | _, _, k :: ks, .cons (kd := kd) hk _ r, h => by
    rw [List.map_cons, List.map_cons] at h
    injection h with h1 h2
    have h1 : kd = D.str k := h1
    subst h1
    rw [List.map_cons, List.map_cons, List.map_cons, keys_str r h2]
    cases hk
    rfl
theorem map_str_of : ∀ {ys : List Str} {ks : List String}, ys.Perm (ks.map Str.ofString) → ∃ zs : List String, ys = zs.map Str.ofString ∧ zs.Perm ks := fun {ys ks} h => by
  obtain ⟨zs, h1, h2⟩ : ∃ zs : List String, zs.Perm ks ∧ zs.map Str.ofString = ys := by
    have inv : ∀ {l : List Str}, (∀ x ∈ l, ∃ s : String, Str.ofString s = x) → ∃ zs : List String, zs.map Str.ofString = l := fun {l} => by
      induction l with
      | nil => exact fun _ => ⟨[], rfl⟩
      | cons x l ih =>
        intro q
        obtain ⟨s, hs⟩ := q x List.mem_cons_self
        obtain ⟨zs, hz⟩ := ih fun y hy => q y (List.mem_cons_of_mem _ hy)
        exact ⟨s :: zs, by rw [List.map_cons, hs, hz]⟩
    obtain ⟨zs, hz⟩ := inv (l := ys) fun x hx => by
      obtain ⟨s, _, e⟩ := List.mem_map.mp (h.mem_iff.mp hx)
      exact ⟨s, e⟩
    refine ⟨zs, ?_, hz⟩
    rw [← hz] at h
    have back := h.map (fun s : Str => String.ofList (s.cps.toList.map Char.ofNat))
    have rt : ∀ s : String, String.ofList ((Str.ofString s).cps.toList.map Char.ofNat) = s := fun s => by
      rw [ofString_cps, List.map_map]
      have : (s.toList.map (Char.ofNat ∘ Char.toNat)) = s.toList := by
        conv => rhs; rw [← List.map_id s.toList]
        apply List.map_congr_left
        intro c _
        show Char.ofNat c.toNat = c
        exact Char.ofNat_toNat c
      rw [this, String.ofList_toList]
    rw [List.map_map, List.map_map] at back
    have e : ∀ l : List String, l.map ((fun s : Str => String.ofList (s.cps.toList.map Char.ofNat)) ∘ Str.ofString) = l := fun l => by
      conv => rhs; rw [← List.map_id l]
      apply List.map_congr_left
      intro s _
      exact rt s
    rw [e, e] at back
    exact back
  exact ⟨zs, h2.symm, h1⟩
theorem b_sorted : CallR X (.builtin "sorted") (r1D G wSortD) := by
  intro pins s σ H xs us Q I r h
  obtain ⟨v, x, F, M, R, Qd, rfl, g, r1, hw, w⟩ := h
  unfold wSortD at hw
  split at hw
  · rename_i kvs e
    obtain ⟨ks, hk, h64, hq⟩ := hw
    obtain ⟨a, vs, rfl, ha, q⟩ := asD_rp g r1 e
    refine call_sortedD C.calm pins s σ H _ us Q I r ⟨a, vs, ks.map Str.ofString, rfl, .inl ha, keys_str C q hk, by rw [List.length_map]; exact h64, fun ys p hp hs hn => ?_⟩
    obtain ⟨zs, rfl, hz⟩ := map_str_of C hp
    have rl : RpL G F ((zs.map Str.ofString).map V.str) (zs.map D.str) := by
      clear hs hp hz
      induction zs with
      | nil => exact .nil
      | cons z zs ih => exact .cons (.str z) ih
    exact w.new g hn (rp_new_lst (g.fresh hn).2.1 rl) (hq zs hz hs)
  · exact hw.elim
theorem b_tuple : CallR X (.type "tuple") (r1D G wTuple) := by
  intro pins s σ H xs us Q I r h
  obtain ⟨v, x, F, M, R, Qd, rfl, g, r1, hw, w⟩ := h
  unfold wTuple at hw
  split at hw
  · rename_i ys e
    have key : (∃ zs, x = .tup zs) ∨ asL M x = some ys := by
      cases x <;> first | exact .inl ⟨_, rfl⟩ | exact .inr e
    rcases key with ⟨zs, rfl⟩ | e'
    · cases e
      cases r1 with
      | tup ha q => exact call_tuple_of pins s σ H _ us Q I r ⟨_, _, rfl, .inr ⟨by rw [C.K]; exact g.ex.t ha, w.at g (.tup ha q) hw⟩⟩
    · obtain ⟨a, vs, rfl, ha, q⟩ := asL_rp g r1 e'
      exact call_tuple_of pins s σ H _ us Q I r ⟨_, _, rfl, .inl ⟨by rw [C.K]; exact SqL.of ha, fun p hp => w.new g hp (rp_new_tup (g.fresh hp).2.1 q) hw⟩⟩
  · exact hw.elim
theorem b_range2 : CallR X (.type "range") (r2D G wRange2) := by
  intro pins s σ H xs us Q I r h
  obtain ⟨v, u, x, y, F, M, R, Qd, rfl, g, r1, r2, hw, w⟩ := h
  unfold wRange2 at hw
  split at hw
  · cases r1; cases r2
    exact cr_range2 pins s σ H _ us Q I r ⟨_, _, rfl, fun p hp => w.new g hp (.rng upd_same) hw⟩
  · exact hw.elim
theorem b_range1 : CallR X (.type "range") (r1D G wRange1) := by
  intro pins s σ H xs us Q I r h
  obtain ⟨v, x, F, M, R, Qd, rfl, g, r1, hw, w⟩ := h
  unfold wRange1 at hw
  split at hw
  · rename_i j
    cases r1
    obtain ⟨u1, rfl, ri⟩ := vals1 r
    obtain ⟨t, rfl⟩ := ri
    have hf : H s.heap.objs.size = none := I.hok.fresh (Nat.le_refl _)
    refine call_range_1 ⟨.ref s.heap.objs.size, upd H s.heap.objs.size (.rng 0 j), I.laid (t' := s.toks + 2) (fun b o e => Heap.get?_push_of_some _ e) (Nat.le_refl _) ?_, rfl, w.new g hf (.rng upd_same) hw⟩
    exact ⟨_, _, _, Heap.get?_push_size _ rfl⟩
  · exact hw.elim
theorem b_sum : CallR X (.builtin "sum") (r1D G wSum) := by
  intro pins s σ H xs us Q I r h
  obtain ⟨v, x, F, M, R, Qd, rfl, g, r1, hw, w⟩ := h
  obtain ⟨ns, e, hw⟩ := hw
  obtain ⟨a, vs, rfl, ha, q⟩ := asL_rp g r1 e
  rw [q.of_ints] at ha
  exact cr_sum C.calm pins s σ H _ us Q I r ⟨a, ns, rfl, SqL.of ha, w.at g (.int _) hw⟩
theorem b_any : CallR X (.builtin "any") (r1D G wAny) := by
  intro pins s σ H xs us Q I r h
  obtain ⟨v, x, F, M, R, Qd, rfl, g, r1, hw, w⟩ := h
  obtain ⟨ns, e, hw⟩ := hw
  obtain ⟨a, vs, rfl, ha, q⟩ := asL_rp g r1 e
  rw [q.of_bls] at ha
  exact cr_any C.calm pins s σ H _ us Q I r ⟨a, ns, rfl, SqL.of ha, w.at g (.bl _) hw⟩
theorem b_all : CallR X (.builtin "all") (r1D G wAll) := by
  intro pins s σ H xs us Q I r h
  obtain ⟨v, x, F, M, R, Qd, rfl, g, r1, hw, w⟩ := h
  obtain ⟨ns, e, hw⟩ := hw
  obtain ⟨a, vs, rfl, ha, q⟩ := asL_rp g r1 e
  rw [q.of_bls] at ha
  exact cr_all C.calm pins s σ H _ us Q I r ⟨a, ns, rfl, SqL.of ha, w.at g (.bl _) hw⟩
theorem b_min1 : CallR X (.builtin "min") (r1D G wMin1) := by
  intro pins s σ H xs us Q I r h
  obtain ⟨v, x, F, M, R, Qd, rfl, g, r1, hw, w⟩ := h
  obtain ⟨ns, e, hl, hw⟩ := hw
  obtain ⟨a, vs, rfl, ha, q⟩ := asL_rp g r1 e
  rw [q.of_ints] at ha
  exact cr_min C.calm pins s σ H _ us Q I r ⟨a, ns, rfl, SqL.of ha, hl, fun m h1 h2 => w.at g (.int _) (hw m h1 h2)⟩
theorem b_max1 : CallR X (.builtin "max") (r1D G wMax1) := by
  intro pins s σ H xs us Q I r h
  obtain ⟨v, x, F, M, R, Qd, rfl, g, r1, hw, w⟩ := h
  obtain ⟨ns, e, hl, hw⟩ := hw
  obtain ⟨a, vs, rfl, ha, q⟩ := asL_rp g r1 e
  rw [q.of_ints] at ha
  exact cr_max C.calm pins s σ H _ us Q I r ⟨a, ns, rfl, SqL.of ha, hl, fun m h1 h2 => w.at g (.int _) (hw m h1 h2)⟩
theorem b_min2 : CallR X (.builtin "min") (r2D G wMin2) := by
  intro pins s σ H xs us Q I r h
  obtain ⟨v, u, x, y, F, M, R, Qd, rfl, g, r1, r2, hw, w⟩ := h
  unfold wMin2 at hw
  split at hw
  · cases r1; cases r2
    exact call_min2 C.calm pins s σ H _ us Q I r ⟨_, _, rfl, w.at g (.int _) hw⟩
  · exact hw.elim
theorem b_max2 : CallR X (.builtin "max") (r2D G wMax2) := by
  intro pins s σ H xs us Q I r h
  obtain ⟨v, u, x, y, F, M, R, Qd, rfl, g, r1, r2, hw, w⟩ := h
  unfold wMax2 at hw
  split at hw
  · cases r1; cases r2
    exact call_max2 C.calm pins s σ H _ us Q I r ⟨_, _, rfl, w.at g (.int _) hw⟩
  · exact hw.elim
end
end VS

/-! VS, part 7: contexts, what a piece leans on, iterables, methods. -/
namespace VS
open PySem PySem.Spec PyProof.Rows L2

structure Cq where
  G : Glob
  R : Hp
  F0 : Hp
  E : XP
  k : Nat
def excK (C : Cq) : XK := fun cls d H' => ∃ c fs M' F', C.E c fs M' ∧ Ex C.F0 F' ∧ Good C.G C.R F' H' M' ∧ C.G.mg (Str.ofString c) = some cls ∧ (∃ Ca, cls = .ref Ca) ∧
  (match fs, d with | none, none => True | some fs, some da => ∃ xfs, H' da = some (.xd xfs) ∧ RpF C.G F' xfs fs | _, _ => False)
structure Ctx (C : Cq) (X : Cx) : Prop where
  g : CtxG C.G X
  room : Room C.k X.A
  pass : Passes (L2.CX X.prog X.w) X (excK C)
structure SR (C : Cq) (σd : Env) (M : Store) (R F : Hp) (σ : L2.St) (H : Hp) : Prop where
  e : C.E = X0 ∨ R = C.R
  f0 : Ex C.F0 F
  env : EnvR C.G F σd σ
  good : Good C.G R F H M
theorem SR.step {C : Cq} {σd : Env} {M M' : Store} {R F F' : Hp} {σ : L2.St} {H H' : Hp} (s : SR C σd M R F σ H) (e : Ex F F') (g : Good C.G R F' H' M') : SR C σd M' R F' σ H' :=
  ⟨s.e, s.f0.trans e, s.env.mono e, g⟩
def WishN (G : Glob) (R F : Hp) (n : Nat) (Qd : List D → Store → Prop) (Q : List V → Hp → Prop) : Prop := ∀ d M' v F' H', d.length = n → Qd d M' → Ex F F' → Good G R F' H' M' → RpL G F' v d → Q v H'
def PXs.len : PXs → Nat
  | .nil => 0 | .cons _ es => es.len + 1
def rE (C : Cq) (p : PX) : TE := fun σ H Q => ∃ σd M R F Qd, SR C σd M R F σ H ∧ dE C.E p σd M Qd ∧ Wish C.G R F Qd Q
def rEs (C : Cq) (ps : PXs) : TA := fun σ H Q => ∃ σd M R F Qd, SR C σd M R F σ H ∧ dEs C.E ps σd M Qd ∧ WishN C.G R F ps.len Qd Q
def rT (C : Cq) (t : PT) : TT := fun σ H Q => ∃ σd M R F Qd, SR C σd M R F σ H ∧ dT C.E t σd M Qd ∧ WishB C.G R F Qd Q
def rAnd (C : Cq) (p : PXs) : TE := fun σ H Q => ∃ σd M R F Qd, SR C σd M R F σ H ∧ dAnd C.E p σd M Qd ∧ Wish C.G R F Qd Q
def rOr (C : Cq) (p : PXs) : TE := fun σ H Q => ∃ σd M R F Qd, SR C σd M R F σ H ∧ dOr C.E p σd M Qd ∧ Wish C.G R F Qd Q
def rTA (C : Cq) (t : PTs) : TT := fun σ H Q => ∃ σd M R F Qd, SR C σd M R F σ H ∧ dTA C.E t σd M Qd ∧ WishB C.G R F Qd Q
def rTO (C : Cq) (t : PTs) : TT := fun σ H Q => ∃ σd M R F Qd, SR C σd M R F σ H ∧ dTO C.E t σd M Qd ∧ WishB C.G R F Qd Q
def rIf (C : Cq) (t : PIf) : TT := fun σ H Q => ∃ σd M R F Qd, SR C σd M R F σ H ∧ dIf C.E t σd M Qd ∧ WishB C.G R F Qd Q

/-! ### what is walked -/
/-- J yields the items xs while g holds of the store -/
def Walks (G : Glob) (J : It) (xs : List D) (g : Store → Prop) (F0 : Hp) : Prop := ∀ i R F H M, Ex F0 F → Good G R F H M → g M →
  (∀ x, xs[i]? = some x → J.go i H ∧ ∀ v H', J.yld i H v H' → ∃ F', Ex F F' ∧ Good G R F' H' M ∧ Rp G F' v x) ∧ (xs.length ≤ i → J.stop i H)
def WishI (G : Glob) (R F : Hp) (Qd : List D → (Store → Prop) → Store → Prop) (Q : It → Hp → Prop) : Prop :=
  ∀ xs g M' F' H' J, Qd xs g M' → Ex F F' → Good G R F' H' M' → Walks G J xs g F' → xs.length ≤ line → Q J H'
def rI (C : Cq) (t : PIt) : TI := fun σ H Q => ∃ σd M R F Qd, SR C σd M R F σ H ∧ dIt C.E t σd M Qd ∧ WishI C.G R F Qd Q
abbrev PEs (C : Cq) (X : Cx) (p : PX) : Prop := ∀ e, isX X.N X.env.scope p e = true → PE X e (rE C p)
def AllPE (C : Cq) (X : Cx) : PXs → Prop
  | .nil => True
  | .cons p ps => PEs C X p ∧ AllPE C X ps
/-- a form of one's own keeps what it says -/
structure PrF (G : Glob) (k : Nat) (m : Mr) (w : Spec) (n : Nat) : Prop where
  ok : ∀ {C : Cq} {X : Cx}, Ctx C X → C.G = G → C.k = k → ∀ {es : PXs} {e : Expr} {xs : List Expr}, es.len = n → prB e = true → m X.N X.env.scope e = some xs → isXs X.N X.env.scope es xs = true → AllPE C X es → PE X e (rE C (.pr m w es))
structure PgF (G : Glob) (k : Nat) (m : Mr) (t : Gd) (w : Spec) (n : Nat) : Prop where
  ok : ∀ {C : Cq} {X : Cx}, Ctx C X → C.G = G → C.k = k → ∀ {es : PXs} {e : Expr} {xs : List Expr}, es.len = n → prB e = true → m X.N X.env.scope e = some xs → isXs X.N X.env.scope es xs = true → AllPE C X es → PE X e (rE C (.pg m t w es))
structure PiF (G : Glob) (k : Nat) (m : Mr) (w : WI) (n : Nat) : Prop where
  ok : ∀ {C : Cq} {X : Cx}, Ctx C X → C.G = G → C.k = k → ∀ {es : PXs} {e : Expr} {xs : List Expr}, es.len = n → prB e = true → m X.N X.env.scope e = some xs → isXs X.N X.env.scope es xs = true → AllPE C X es → ∀ tg, PI X tg e (rI C (.pr m w es))
/-! ### what a piece leans on -/
structure FnFor (G : Glob) (k : Nat) (f : String) (n : Nat) (sp : Spec) : Prop where
  ex : ∃ (fa : Addr) (fd : FuncData) (names : List Str), FnOk G.prog G.w G.K G.mg G.base (L2.CX G.prog G.w) k fa fd names (toSp G n sp) ∧ G.mg (Str.ofString f) = some (.ref fa) ∧ PySem.W.keepIn G.K (.ref fa) = true ∧ Binds G.K fd names []
structure MethFor (G : Glob) (k : Nat) (cl m : String) (n : Nat) (sp : Spec) : Prop where
  ex : ∃ (C fa : Addr) (fd : FuncData) (names : List Str), G.mg (Str.ofString cl) = some (.ref C) ∧ Cls G.K C ∧ Meth G.K C (Str.ofString m) fa ∧ FnOk G.prog G.w G.K G.mg G.base (L2.CX G.prog G.w) k fa fd names (toSp G n sp) ∧ Binds G.K fd names []
structure GlobF (G : Glob) (x : String) (d : D) : Prop where
  ex : ∃ v u, G.mg (Str.ofString x) = some u ∧ RelV v u ∧ ∀ F, Rp G F v d
structure AttrF (G : Glob) (cl f : String) : Prop where
  ex : ∃ C, G.mg (Str.ofString cl) = some (.ref C) ∧ Cls G.K C ∧ NoAttr G.K C (Str.ofString f)
def noB (G : Glob) (x : String) : Prop := G.mg (Str.ofString x) = none
def fiveTys : List String := ["list", "tuple", "str", "int", "bool"]
def biB : Bi → Bool
  | .str => false | _ => true
def tvB : PX → Bool
  | .and _ => false | .or _ => false | .not _ => false | .ife _ _ _ => false | _ => true
mutual
def okX (G : Glob) (k : Nat) : PX → Prop
  | .v _ => True | .c _ => True | .g x d => GlobF G x d
  | .bin _ a b => okX G k a ∧ okX G k b | .neg a => okX G k a
  | .cmp _ a b => okX G k a ∧ okX G k b | .cmp2 _ _ a b c => okX G k a ∧ okX G k b ∧ okX G k c
  | .not a => okX G k a | .and es => okXs G k es | .or es => okXs G k es | .ife t a b => okT G k t ∧ okX G k a ∧ okX G k b
  | .tup es => okXs G k es | .lst es => okXs G k es | .mlst es => okXs G k es | .mdic => True
  | .ix a b => okX G k a ∧ okX G k b | .sl a _ _ lo hi => okX G k a ∧ okX G k lo ∧ okX G k hi
  | .call f sp es => FnFor G k f es.len sp ∧ okXs G k es
  | .bi b es => noB G (biName b) ∧ biB b = true ∧ okXs G k es
  | .isi a t => noB G "isinstance" ∧ noB G t ∧ t ∈ fiveTys ∧ okX G k a
  | .isi2 a t u => noB G "isinstance" ∧ noB G t ∧ t ∈ fiveTys ∧ noB G u ∧ u ∈ fiveTys ∧ okX G k a
  | .mth _ a es => okX G k a ∧ okXs G k es
  | .meth cl m sp a es => MethFor G k cl m (es.len + 1) sp ∧ okX G k a ∧ okXs G k es
  | .attr cl a f => AttrF G cl f ∧ okX G k a
  | .lc elt _ _ it cnd => okX G k elt ∧ okIt G k it ∧ okIf G k cnd
  | .dc kx vx _ _ it cnd => okX G k kx ∧ okX G k vx ∧ okIt G k it ∧ okIf G k cnd
  | .pr m w es => PrF G k m w es.len ∧ okXs G k es
  | .pg m t w es => PgF G k m t w es.len ∧ okXs G k es
def okXs (G : Glob) (k : Nat) : PXs → Prop
  | .nil => True | .cons e es => okX G k e ∧ okXs G k es
def okT (G : Glob) (k : Nat) : PT → Prop
  | .val a => okX G k a ∧ tvB a = true | .and ts => okTs G k ts | .or ts => okTs G k ts | .not a => okT G k a
def okTs (G : Glob) (k : Nat) : PTs → Prop
  | .nil => True | .cons e es => okT G k e ∧ okTs G k es
def okIt (G : Glob) (k : Nat) : PIt → Prop
  | .ex a => okX G k a | .rng1 a => noB G "range" ∧ okX G k a | .rng2 a b => noB G "range" ∧ okX G k a ∧ okX G k b | .rng3 a b c => noB G "range" ∧ okX G k a ∧ okX G k b ∧ okX G k c
  | .enum _ => False | .zip _ _ => False | .rev _ => False | .pr m w es => PiF G k m w es.len ∧ okXs G k es
def okIf (G : Glob) (k : Nat) : PIf → Prop
  | .nil => True | .one t => okT G k t
end

theorem PE.imp {X : Cx} {e : Expr} {t t' : TE} (h : PE X e t) (i : ∀ σ H Q, t' σ H Q → t σ H Q) : PE X e t' := ⟨fun pins s σ H Q I q => h.run pins s σ H Q I (i σ H Q q)⟩
theorem PT.imp {X : Cx} {e : Expr} {t t' : TT} (h : L2.PT X e t) (i : ∀ σ H Q, t' σ H Q → t σ H Q) : L2.PT X e t' := ⟨fun pins s σ H Q I q => h.run pins s σ H Q I (i σ H Q q)⟩
theorem PTs.imp {X : Cx} {e : List Expr} {t t' : TT} (h : L2.PTs X e t) (i : ∀ σ H Q, t' σ H Q → t σ H Q) : L2.PTs X e t' := ⟨fun pins s σ H Q I q => h.run pins s σ H Q I (i σ H Q q)⟩
theorem PA.imp {X : Cx} {e : List Expr} {t t' : TA} (h : PA X e t) (i : ∀ σ H Q, t' σ H Q → t σ H Q) : PA X e t' := ⟨fun pos pins s σ H Q I q => h.run pos pins s σ H Q I (i σ H Q q)⟩
theorem PI.imp {X : Cx} {tg e : Expr} {t t' : TI} (h : PI X tg e t) (i : ∀ σ H Q, t' σ H Q → t σ H Q) : PI X tg e t' := ⟨fun pins s σ H Q I q => h.run pins s σ H Q I (i σ H Q q)⟩
theorem PS.imp {X : Cx} {e : Stmt} {t t' : TS} (h : PS X e t) (i : ∀ D σ H, t' D σ H → t D σ H) : PS X e t' := ⟨fun pins s σ H D I q => h.run pins s σ H D I (i D σ H q)⟩

/-! ### the walks of lists -/
section
variable {G : Glob} {F : Hp} {a : Addr} {xs : List D} {g : Store → Prop}
theorem walks_list (h : ∀ R F' H M, Ex F F' → Good G R F' H M → g M → ∃ vs, SqL G.K H a vs ∧ RpL G F' vs xs) : Walks G (Itl G.K a) xs g F := fun i R F' H M e gd gm => by
  obtain ⟨vs, h1, h2⟩ := h R F' H M e gd gm
  refine ⟨fun x hx => ?_, fun hi => ⟨vs, h1, by rw [h2.length]; exact hi⟩⟩
  obtain ⟨v, hv, _⟩ := h2.get hx
  refine ⟨⟨vs, v, h1, hv⟩, fun w H' hy => ?_⟩
  obtain ⟨rfl, hw⟩ := hy
  have e1 := hw vs h1
  rw [hv] at e1
  cases e1
  obtain ⟨v2, hv2, r2⟩ := h2.get hx
  rw [hv] at hv2; cases hv2
  exact ⟨F', Ex.refl F', gd, r2⟩
theorem walks_tup (h : ∀ R F' H M, Ex F F' → Good G R F' H M → g M → ∃ vs, SqT G.K H a vs ∧ RpL G F' vs xs) : Walks G (Itt G.K a) xs g F := fun i R F' H M e gd gm => by
  obtain ⟨vs, h1, h2⟩ := h R F' H M e gd gm
  refine ⟨fun x hx => ?_, fun hi => ⟨vs, h1, by rw [h2.length]; exact hi⟩⟩
  obtain ⟨v, hv, r2⟩ := h2.get hx
  refine ⟨⟨vs, v, h1, hv⟩, fun w H' hy => ?_⟩
  obtain ⟨rfl, hw⟩ := hy
  have e1 := hw vs h1
  rw [hv] at e1
  cases e1
  exact ⟨F', Ex.refl F', gd, r2⟩
theorem rngD_at {lo hi : Int} {i : Nat} {x : D} (h : (rngD lo hi)[i]? = some x) : i < (hi - lo).toNat ∧ x = .int (lo + (i : Int)) := by
  unfold rngD at h
  rw [List.getElem?_map] at h
  cases q : (List.range (hi - lo).toNat)[i]? with
  | none => rw [q] at h; cases h
  | some j =>
    rw [q] at h
    have hl := (List.getElem?_eq_some_iff.mp q).1
    rw [List.length_range] at hl
    rw [List.getElem?_range hl] at q
    cases q
    exact ⟨hl, (Option.some.inj h).symm⟩
theorem rngD_len (lo hi : Int) : (rngD lo hi).length = (hi - lo).toNat := by unfold rngD; rw [List.length_map, List.length_range]
theorem walks_rng (lo hi : Int) : Walks G (Itr lo (hi - lo).toNat) (rngD lo hi) g F := fun i R F' H M e gd gm => by
  refine ⟨fun x hx => ?_, fun hi' => by rw [rngD_len] at hi'; exact hi'⟩
  obtain ⟨h1, rfl⟩ := rngD_at hx
  refine ⟨h1, fun w H' hy => ?_⟩
  obtain ⟨rfl, rfl⟩ := hy
  exact ⟨F', Ex.refl F', gd, .int _⟩
theorem chars_at {s : String} {i : Nat} {x : D} (h : (chars s)[i]? = some x) : ∃ c, s.toList[i]? = some c ∧ x = .str (String.singleton c) := by
  unfold chars at h
  rw [List.getElem?_map] at h
  cases q : s.toList[i]? with
  | none => rw [q] at h; cases h
  | some c => rw [q] at h; exact ⟨c, rfl, (Option.some.inj h).symm⟩
end
theorem single_cps' (a : Char) : Str.ofString (String.singleton a) = ⟨#[a.toNat]⟩ := by
  refine Str.ext' ?_
  rw [ofString_cps]
  simp
theorem walks_str {G : Glob} {F : Hp} {g : Store → Prop} (s : String) : Walks G (Its (Str.ofString s)) (chars s) g F := fun i R F' H M e gd gm => by
  have hsz : (Str.ofString s).cps.size = (chars s).length := by
    have : (Str.ofString s).cps.toList.length = (chars s).length := by rw [ofString_cps, chars, List.length_map, List.length_map]
    simpa using this
  refine ⟨fun x hx => ?_, fun hi => ?_⟩
  · obtain ⟨c, h1, rfl⟩ := chars_at hx
    have h2 : (Str.ofString s).cps[i]? = some c.toNat := by
      rw [← Array.getElem?_toList, ofString_cps, List.getElem?_map, h1]; rfl
    refine ⟨?_, fun w H' hy => ?_⟩
    · have := (List.getElem?_eq_some_iff.mp hx).1
      show i < (Str.ofString s).cps.size
      omega
    · obtain ⟨rfl, c', h3, rfl⟩ := hy
      rw [h2] at h3; cases h3
      refine ⟨F', Ex.refl F', gd, ?_⟩
      rw [← single_cps']
      exact .str _
  · show (Str.ofString s).cps.size ≤ i
    omega
section
variable {G : Glob} {X : Cx} (C : CtxG G X)
include C
/-- what a datum yields, walked -/
theorem iter_D {tg : Expr} {pins : List (Addr × Obj)} {σ : L2.St} {H : Hp} {s : Shared} {R : Hp} {F : Hp} {M : Store} {v : V} {u : Value} {d : D} {Qd : List D → (Store → Prop) → Prop} {Q : It → Hp → Prop}
    (I : Inv X pins σ H s) (rv : RelV v u) (gd : Good G R F H M) (r : Rp G F v d) (h : itD d M Qd) (w : ∀ xs g J, Qd xs g → Walks G J xs g F → xs.length ≤ line → Q J H) :
    wpAny (model X.prog X.w) X.A (pyIter u) (PIE X pins σ tg Q) X.xe s := by
  have list_case : ∀ (a : Addr) (vs : List V) (xs : List D) (g : Store → Prop), v = .ref a → SqL G.K H a vs → RpL G F vs xs → Qd xs g → (∀ R F' H M, Ex F F' → Good G R F' H M → g M → ∃ vs, SqL G.K H a vs ∧ RpL G F' vs xs) →
      wpAny (model X.prog X.w) X.A (pyIter u) (PIE X pins σ tg Q) X.xe s := fun a vs xs g e1 hs rl q hw => by
    subst e1
    cases rv
    have hs' : SqL X.K H a vs := by rw [C.K]; exact hs
    obtain ⟨its, rv, p, hz⟩ := I.list hs'
    refine wpAny_pyIter_list p.isList (pi_one (tk := s.toks) I _ (turn_list a _) ⟨_, Heap.get?_push_size _ rfl, rfl, rfl⟩ ?_)
    rw [C.K]
    exact w xs g _ q (walks_list hw) (by rw [← rl.length, ← line_eq]; exact hz)
  unfold itD at h
  split at h
  · rename_i xs
    cases r with
    | lst ha rl => exact list_case _ _ xs _ rfl (SqL.of (gd.ex _ _ ha)) rl h fun R F' H M e g _ => ⟨_, SqL.of (g.ex _ _ (e _ _ ha)), rl.mono e⟩
  · rename_i xs
    cases r with
    | tup ha rl =>
      rename_i a vs
      cases rv
      have hs' : SqT X.K H a vs := by rw [C.K]; exact gd.ex.t ha
      obtain ⟨its, rv, p, hz⟩ := I.tuple hs'
      refine wpAny_pyIter_tuple (show s.heap.IsTuple a its.toArray from p) (pi_one (tk := s.toks) I _ (turn_tuple a _) ⟨_, Heap.get?_push_size _ rfl, rfl, rfl⟩ ?_)
      rw [C.K]
      exact w xs _ _ h (walks_tup fun R F' H M e g _ => ⟨vs, g.ex.t (e.t ha), rl.mono e⟩) (by rw [← rl.length, ← line_eq]; exact hz)
  · rename_i t
    cases r
    obtain ⟨tk, rfl⟩ := rv
    have hl : (chars t).length ≤ line := by rw [chars, List.length_map, String.length_toList]; exact h.1
    have q := w _ _ _ h.2 (walks_str t) hl
    cases ha : (Str.ofString t).cps.all (· < 128)
    · exact wpAny_pyIter_wide ha (pi_one (tk := s.toks) I _ (turn_str _ _ tk "str_iterator" (.inr rfl)) ⟨_, Heap.get?_push_size _ rfl, rfl, rfl⟩ q)
    · exact wpAny_pyIter_ascii ha (pi_one (tk := s.toks) I _ (turn_str _ _ tk "str_ascii_iterator" (.inl rfl)) ⟨_, Heap.get?_push_size _ rfl, rfl, rfl⟩ q)
  · rename_i lo hi
    obtain ⟨⟨b1, b2, b3, b4⟩, hl, q⟩ := h
    cases r with
    | rng ha =>
      rename_i a
      cases rv
      obtain ⟨t1, t2, t3, ho⟩ := (show ObjOk X.prog X.w H s.heap a (.rng lo hi) from I.hok a _ (gd.ex _ _ ha))
      have hr : IsRange s.heap a lo hi 1 t1 t2 t3 := ho
      refine wpAny_pyIter_range hr (small_one b1 b2 b3 b4) (pi_one (tk := s.toks) I _ (turn_range _ lo (hi - lo).toNat) ?_ (w _ _ _ q (walks_rng lo hi) (by rw [rngD_len]; exact hl)))
      have e1 : lo + ((0 : Nat) : Int) * 1 = lo := by simp
      have e2 : (((hi - lo).toNat : Nat) : Int) - ((0 : Nat) : Int) = Builtin.Range.rangeSize lo hi 1 := by rw [rangeSize_one]; split <;> omega
      show IsRangeIter _ _ (lo + ((0 : Nat) : Int) * 1) ((((hi - lo).toNat : Nat) : Int) - ((0 : Nat) : Int)) 1
      rw [e1, e2]
      exact Heap.get?_push_size _ rfl
  · rename_i p
    split at h
    · rename_i xs e
      cases r
      obtain ⟨_, ho, hh, rm⟩ := gd.mt p _ e
      cases rm with
      | lst rl =>
        refine list_case p _ xs _ rfl (SqL.of hh) rl h fun R F' H M e g hm => ?_
        obtain ⟨_, ho', hh', rm'⟩ := g.mt p _ hm
        cases rm' with
        | lst rl' => exact ⟨_, SqL.of hh', rl'⟩
    · exact h.elim
  · exact h.elim
end
end VS

/-! VS, part 8: an expression that matches does what its reading says. -/
namespace VS
open PySem PySem.Spec PyProof.Rows L2

/-! ### facts of the forms -/
theorem bi_shape {sc : Scope} {x : String} {e : Expr} (h : isBi sc x e = true) : ∃ p, e = .Name (Str.ofString x) p ∧ glB sc (Str.ofString x) = true := by
  cases e <;> first | (exact absurd h Bool.false_ne_true) | skip
  rename_i y p
  have h' : (decide (y = Str.ofString x) && glB sc y) = true := h
  simp only [Bool.and_eq_true, decide_eq_true_eq] at h'
  obtain ⟨rfl, h'⟩ := h'
  exact ⟨p, rfl, h'⟩
theorem one_of {α : Type} {f : List α → Bool} (h0 : f [] = false) (h2 : ∀ a b r, f (a :: b :: r) = false) {l : List α} (h : f l = true) : ∃ a, l = [a] := by
  match l, h with
  | [], h => rw [h0] at h; cases h
  | [a], _ => exact ⟨a, rfl⟩
  | a :: b :: r, h => rw [h2] at h; cases h
theorem and_of {a b : Bool} (h : (a && b) = true) : a = true ∧ b = true := by simpa using h
section
variable {N : List Str} {sc : Scope}
theorem cmp_shape {o : COp} {a b : PX} {e : Expr} (h : isX N sc (.cmp o a b) e = true) : ∃ x op y pos, e = .Compare x [op] [y] pos ∧ copB o op = true ∧ isX N sc a x = true ∧ isX N sc b y = true := by
  cases e <;> first | (exact absurd h Bool.false_ne_true) | skip
  rename_i x ops ys pos
  match ops, ys, h with
  | [], _, h => exact absurd h Bool.false_ne_true
  | _ :: _ :: _, _, h => exact absurd h Bool.false_ne_true
  | [_], [], h => exact absurd h Bool.false_ne_true
  | [_], _ :: _ :: _, h => exact absurd h Bool.false_ne_true
  | [op], [y], h =>
    have h' : (copB o op && isX N sc a x && isX N sc b y) = true := h
    obtain ⟨h1, h2⟩ := and_of h'
    obtain ⟨h1, h3⟩ := and_of h1
    exact ⟨x, op, y, pos, rfl, h1, h3, h2⟩
theorem cmp2_shape {o1 o2 : COp} {a b c : PX} {e : Expr} (h : isX N sc (.cmp2 o1 o2 a b c) e = true) : ∃ x p q y z pos, e = .Compare x [p, q] [y, z] pos ∧ copB o1 p = true ∧ copB o2 q = true ∧ isX N sc a x = true ∧ isX N sc b y = true ∧ isX N sc c z = true := by
  cases e <;> first | (exact absurd h Bool.false_ne_true) | skip
  rename_i x ops ys pos
  match ops, ys, h with
  | [], _, h => exact absurd h Bool.false_ne_true
  | [_], _, h => exact absurd h Bool.false_ne_true
  | _ :: _ :: _ :: _, _, h => exact absurd h Bool.false_ne_true
  | [_, _], [], h => exact absurd h Bool.false_ne_true
  | [_, _], [_], h => exact absurd h Bool.false_ne_true
  | [_, _], _ :: _ :: _ :: _, h => exact absurd h Bool.false_ne_true
  | [p, q], [y, z], h =>
    have h' : (copB o1 p && copB o2 q && isX N sc a x && isX N sc b y && isX N sc c z) = true := h
    obtain ⟨h', h5⟩ := and_of h'
    obtain ⟨h', h4⟩ := and_of h'
    obtain ⟨h', h3⟩ := and_of h'
    obtain ⟨h1, h2⟩ := and_of h'
    exact ⟨x, p, q, y, z, pos, rfl, h1, h2, h3, h4, h5⟩
theorem call_shape {f : String} {sp : Spec} {es : PXs} {e : Expr} (h : isX N sc (.call f sp es) e = true) : ∃ p xs pos, e = .Call (.Name (Str.ofString f) p) xs [] pos ∧ glB sc (Str.ofString f) = true ∧ isXs N sc es xs = true := by
  cases e <;> first | (exact absurd h Bool.false_ne_true) | skip
  rename_i fn xs kws pos
  match kws, h with
  | _ :: _, h => exact absurd h Bool.false_ne_true
  | [], h =>
    obtain ⟨h1, h2⟩ := and_of (show (isBi sc f fn && isXs N sc es xs) = true from h)
    obtain ⟨p, rfl, h3⟩ := bi_shape h1
    exact ⟨p, xs, pos, rfl, h3, h2⟩
theorem isi_shape {a : PX} {t : String} {e : Expr} (h : isX N sc (.isi a t) e = true) : ∃ p x z pos, e = .Call (.Name (Str.ofString "isinstance") p) [x, z] [] pos ∧ glB sc (Str.ofString "isinstance") = true ∧ isX N sc a x = true ∧ isBi sc t z = true := by
  cases e <;> first | (exact absurd h Bool.false_ne_true) | skip
  rename_i fn xs kws pos
  match xs, kws, h with
  | [], _, h => exact absurd h Bool.false_ne_true
  | [_], _, h => exact absurd h Bool.false_ne_true
  | _ :: _ :: _ :: _, _, h => exact absurd h Bool.false_ne_true
  | [_, _], _ :: _, h => exact absurd h Bool.false_ne_true
  | [x, z], [], h =>
    obtain ⟨h, h3⟩ := and_of (show (isBi sc "isinstance" fn && isX N sc a x && isBi sc t z) = true from h)
    obtain ⟨h1, h2⟩ := and_of h
    obtain ⟨p, rfl, h4⟩ := bi_shape h1
    exact ⟨p, x, z, pos, rfl, h4, h2, h3⟩
theorem isi2_shape {a : PX} {t u : String} {e : Expr} (h : isX N sc (.isi2 a t u) e = true) : ∃ p x z y j tp pos, e = .Call (.Name (Str.ofString "isinstance") p) [x, .Tuple [z, y] j tp] [] pos ∧ glB sc (Str.ofString "isinstance") = true ∧ isX N sc a x = true ∧ isBi sc t z = true ∧ isBi sc u y = true := by
  cases e <;> first | (exact absurd h Bool.false_ne_true) | skip
  rename_i fn xs kws pos
  match xs, kws, h with
  | [], _, h => exact absurd h Bool.false_ne_true
  | [_], _, h => exact absurd h Bool.false_ne_true
  | [x, z], kws, h =>
    cases z <;> first | (exact absurd h Bool.false_ne_true) | skip
    rename_i es j tp
    match es, kws, h with
    | [], _, h => exact absurd h Bool.false_ne_true
    | [_], _, h => exact absurd h Bool.false_ne_true
    | _ :: _ :: _ :: _, _, h => exact absurd h Bool.false_ne_true
    | [_, _], _ :: _, h => exact absurd h Bool.false_ne_true
    | [z, y], [], h =>
      obtain ⟨h, h5⟩ := and_of (show (isBi sc "isinstance" fn && isX N sc a x && isBi sc t z && isBi sc u y) = true from h)
      obtain ⟨h, h3⟩ := and_of h
      obtain ⟨h1, h2⟩ := and_of h
      obtain ⟨p, rfl, h4⟩ := bi_shape h1
      exact ⟨p, x, z, y, j, tp, pos, rfl, h4, h2, h3, h5⟩
  | x :: z :: w :: r, _, h =>
    cases z <;> first | (exact absurd h Bool.false_ne_true) | skip
    rename_i es j tp
    match es, h with
    | [], h => exact absurd h Bool.false_ne_true
    | [_], h => exact absurd h Bool.false_ne_true
    | _ :: _ :: _ :: _, h => exact absurd h Bool.false_ne_true
    | [_, _], h => exact absurd h Bool.false_ne_true
theorem bi_call_shape {b : Bi} {es : PXs} {e : Expr} (h : isX N sc (.bi b es) e = true) : ∃ p x xs pos, e = .Call (.Name (Str.ofString (biName b)) p) (x :: xs) [] pos ∧ glB sc (Str.ofString (biName b)) = true ∧ isXs N sc es (x :: xs) = true := by
  cases e <;> first | (exact absurd h Bool.false_ne_true) | skip
  rename_i fn xs kws pos
  match kws, xs, h with
  | _ :: _, _, h => exact absurd h Bool.false_ne_true
  | [], [], h =>
    obtain ⟨_, h2⟩ := and_of (show (isBi sc (biName b) fn && isXs N sc es [] && false) = true from h)
    exact absurd h2 Bool.false_ne_true
  | [], x :: xs, h =>
    obtain ⟨h1, _⟩ := and_of (show (isBi sc (biName b) fn && isXs N sc es (x :: xs) && true) = true from h)
    obtain ⟨h1, h2⟩ := and_of h1
    obtain ⟨p, rfl, h3⟩ := bi_shape h1
    exact ⟨p, x, xs, pos, rfl, h3, h2⟩
theorem mth_shape {m : Mt} {a : PX} {es : PXs} {e : Expr} (h : isX N sc (.mth m a es) e = true) : ∃ x apos xs cpos, e = .Call (.Attribute x (Str.ofString (mtName m)) apos) xs [] cpos ∧ (apos.endLine == cpos.line) = true ∧ noSup x = true ∧ isX N sc a x = true ∧ isXs N sc es xs = true ∧ xs.length = mtArgs m := by
  cases e <;> first | (exact absurd h Bool.false_ne_true) | skip
  rename_i fn xs kws pos
  cases fn <;> first | (exact absurd h Bool.false_ne_true) | skip
  rename_i x nm apos
  match kws, h with
  | _ :: _, h => exact absurd h Bool.false_ne_true
  | [], h =>
    obtain ⟨h, h6⟩ := and_of (show ((apos.endLine == pos.line) && noSup x && isX N sc a x && decide (nm = Str.ofString (mtName m)) && isXs N sc es xs && decide (xs.length = mtArgs m)) = true from h)
    obtain ⟨h, h5⟩ := and_of h
    obtain ⟨h, h4⟩ := and_of h
    obtain ⟨h, h3⟩ := and_of h
    obtain ⟨h1, h2⟩ := and_of h
    have e4 := of_decide_eq_true h4
    subst e4
    exact ⟨x, apos, xs, pos, rfl, h1, h2, h3, h5, of_decide_eq_true h6⟩
theorem meth_shape {cl m : String} {sp : Spec} {a : PX} {es : PXs} {e : Expr} (h : isX N sc (.meth cl m sp a es) e = true) : ∃ x apos xs cpos, e = .Call (.Attribute x (Str.ofString m) apos) xs [] cpos ∧ (apos.endLine == cpos.line) = true ∧ xs.length < 28 ∧ noSup x = true ∧ isX N sc a x = true ∧ isXs N sc es xs = true := by
  cases e <;> first | (exact absurd h Bool.false_ne_true) | skip
  rename_i fn xs kws pos
  cases fn <;> first | (exact absurd h Bool.false_ne_true) | skip
  rename_i x nm apos
  match kws, h with
  | _ :: _, h => exact absurd h Bool.false_ne_true
  | [], h =>
    obtain ⟨h, h5⟩ := and_of (show ((apos.endLine == pos.line) && decide (xs.length < 28) && noSup x && isX N sc a x && decide (nm = Str.ofString m) && isXs N sc es xs) = true from h)
    obtain ⟨h, h4⟩ := and_of h
    obtain ⟨h, h3⟩ := and_of h
    obtain ⟨h, h1⟩ := and_of h
    obtain ⟨h6, h7⟩ := and_of h
    have e4 := of_decide_eq_true h4
    subst e4
    exact ⟨x, apos, xs, pos, rfl, h6, of_decide_eq_true h7, h1, h3, h5⟩
theorem attr_shape {cl f : String} {a : PX} {e : Expr} (h : isX N sc (.attr cl a f) e = true) : ∃ x pos, e = .Attribute x (Str.ofString f) pos ∧ noSup x = true ∧ isX N sc a x = true := by
  cases e <;> first | (exact absurd h Bool.false_ne_true) | skip
  rename_i x nm pos
  obtain ⟨h, h4⟩ := and_of (show (noSup x && isX N sc a x && decide (nm = Str.ofString f)) = true from h)
  obtain ⟨h1, h3⟩ := and_of h
  have e4 := of_decide_eq_true h4
  subst e4
  exact ⟨x, pos, rfl, h1, h3⟩
theorem sl_shape {fl fh : Bool} {a lo hi : PX} {e : Expr} (h : isX N sc (.sl a fl fh lo hi) e = true) : ∃ x l u p pos, e = .Subscript x (.Slice l u none p) pos ∧ isX N sc a x = true ∧
    ((fl = true ∧ ∃ y, l = some y ∧ isX N sc lo y = true) ∨ (fl = false ∧ l = none ∧ lo = .c .non)) ∧ ((fh = true ∧ ∃ y, u = some y ∧ isX N sc hi y = true) ∨ (fh = false ∧ u = none ∧ hi = .c .non)) := by
  cases e <;> first | (exact absurd h Bool.false_ne_true) | skip
  rename_i x sl pos
  cases sl <;> first | (exact absurd h Bool.false_ne_true) | skip
  rename_i l u st p
  cases st with
  | some _ => exact absurd h Bool.false_ne_true
  | none =>
    have part : ∀ (f : Bool) (o : Option Expr) (q : PX), partB f o q (isX N sc q) = true →
        ((f = true ∧ ∃ y, o = some y ∧ isX N sc q y = true) ∨ (f = false ∧ o = none ∧ q = .c .non)) := fun f o q hq => by
      cases o with
      | some y =>
        obtain ⟨h1, h2⟩ := and_of (show (f && isX N sc q y) = true from hq)
        exact .inl ⟨h1, y, rfl, h2⟩
      | none =>
        obtain ⟨h1, h2⟩ := and_of (show (!f && nonB q) = true from hq)
        refine .inr ⟨by simpa using h1, rfl, ?_⟩
        unfold nonB at h2
        split at h2
        · rfl
        · cases h2
    obtain ⟨h, h3⟩ := and_of (show (isX N sc a x && partB fl l lo (isX N sc lo) && partB fh u hi (isX N sc hi)) = true from h)
    obtain ⟨h1, h2⟩ := and_of h
    exact ⟨x, l, u, p, pos, rfl, h1, part _ _ _ h2, part _ _ _ h3⟩
end
theorem gl_of {X : Cx} {x : Str} (h : glB X.env.scope x = true) : Gl X x ∧ (x == ("__debug__" : Str)) = false := by
  unfold glB at h
  simp only [Bool.and_eq_true] at h
  obtain ⟨h1, h2⟩ := h
  refine ⟨?_, by simpa using h2⟩
  show X.env.scope.names.lookup x = some .globalImplicit
  split at h1
  · assumption
  · cases h1
/-- no star, no slice -/
def plainB : Expr → Bool
  | .Starred _ _ => false | .Slice _ _ _ _ => false | _ => true
theorem isX_star {N : List Str} {sc : Scope} {p : PX} {a : Expr} {b : Pos} : isX N sc p (.Starred a b) = false := by cases p <;> rfl
theorem isX_slice {N : List Str} {sc : Scope} {p : PX} {a b c : Option Expr} {d : Pos} : isX N sc p (.Slice a b c d) = false := by cases p <;> rfl
theorem isX_plain {N : List Str} {sc : Scope} {p : PX} {e : Expr} (h : isX N sc p e = true) : plainB e = true := by
  cases e <;> first
    | rfl
    | (rw [isX_star] at h; cases h)
    | (rw [isX_slice] at h; cases h)
theorem star_of {e : Expr} {es : List Expr} {env : PySem.Env} (h : plainB e = true) : starEach (e :: es) env = (false, eval e env) :: starEach es env := by
  cases e <;> first | rfl | (cases h; done)
theorem plainIx_of {b : Expr} (h : plainB b = true) : PlainIx b := by
  intro o i
  cases b <;> first | rfl | (cases h; done)

section
variable {C : Cq} {X : Cx} (K : Ctx C X)
abbrev PTt (C : Cq) (X : Cx) (t : PT) : Prop := ∀ e, isT X.N X.env.scope t e = true → L2.PT X e (rT C t)
abbrev PAs (C : Cq) (X : Cx) (ps : PXs) : Prop := ∀ es, isXs X.N X.env.scope ps es = true → PA X es (rEs C ps)
include K
theorem x_v {i : Nat} {e : Expr} (h : isX X.N X.env.scope (.v i) e = true) : PE X e (rE C (.v i)) := by
  cases e <;> first | (exact absurd h Bool.false_ne_true) | skip
  rename_i x pos
  have h : (decide (X.N[i]? = some x) && (match X.env.scope.names.lookup x with | some .local => true | some .cell => true | some .free => true | _ => false) && !(x == ("__debug__" : Str)) && !(x == ("__classdict__" : Str))) = true := h
  simp only [Bool.and_eq_true, decide_eq_true_eq, Bool.not_eq_true'] at h
  obtain ⟨⟨⟨h1, h2⟩, h3⟩, h4⟩ := h
  refine PE.imp (pe_var h1 ?_ h3 h4) fun σ H Q ⟨σd, M, R, F, Qd, s, q, w⟩ => ?_
  · unfold Vis
    split at h2
    · exact .inl (by assumption)
    · exact .inr (.inl (by assumption))
    · exact .inr (.inr (by assumption))
    · cases h2
  · have q' : getS σd i fun d => Qd d M := q
    unfold getS at q'
    split at q'
    · rename_i d e
      obtain ⟨v, e1, r⟩ := s.env.at_ i d e
      exact ⟨v, e1, w.at s.good r q'⟩
    · exact q'.elim
theorem x_c {d : D} {e : Expr} (h : isX X.N X.env.scope (.c d) e = true) : PE X e (rE C (.c d)) := by
  cases e <;> first | (exact absurd h Bool.false_ne_true) | skip
  rename_i k j pos
  have h : cstB d k = true := h
  unfold cstB at h
  split at h
  · exact PE.imp pe_non fun σ H Q ⟨σd, M, R, F, Qd, s, q, w⟩ => w.at s.good .non q
  · have e := beq_iff_eq.mp h
    subst e
    exact PE.imp pe_bl fun σ H Q ⟨σd, M, R, F, Qd, s, q, w⟩ => w.at s.good (.bl _) q
  · have e := of_decide_eq_true h
    subst e
    exact PE.imp pe_int fun σ H Q ⟨σd, M, R, F, Qd, s, q, w⟩ => w.at s.good (.int _) q
  · have e := of_decide_eq_true h
    subst e
    exact PE.imp pe_str fun σ H Q ⟨σd, M, R, F, Qd, s, q, w⟩ => w.at s.good (.str _) q
  · cases h
theorem x_g {x : String} {d : D} {e : Expr} (o : GlobF C.G x d) (h : isX X.N X.env.scope (.g x d) e = true) : PE X e (rE C (.g x d)) := by
  obtain ⟨p, rfl, hg⟩ := bi_shape (show isBi X.env.scope x e = true from h)
  obtain ⟨g1, g2⟩ := gl_of hg
  obtain ⟨v, u, hm, r, hr⟩ := o.ex
  exact PE.imp (pe_glob g1 (by rw [K.g.mg]; exact hm) r g2) fun σ H Q ⟨σd, M, R, F, Qd, s, q, w⟩ => w.at s.good (hr F) q
theorem bop_eq {o : BOp} {op : Operator} (h : bopB o op = true) : op = bopO o := by cases o <;> cases op <;> first | rfl | (cases h; done)
theorem cop_eq {o : COp} {op : CmpOp} (h : copB o op = true) : op = copO o := by cases o <;> cases op <;> first | rfl | (cases h; done)
theorem r_two {a b : PX} {w2 : D → D → Store → DK → Prop} {σ : L2.St} {H : Hp} {Q : VK} (h : ∃ σd M R F Qd, SR C σd M R F σ H ∧ (dE C.E a σd M fun x M1 => dE C.E b σd M1 fun y M2 => w2 x y M2 Qd) ∧ Wish C.G R F Qd Q) :
    tOp (rD C.G w2) (rE C a) (rE C b) σ H Q := by
  obtain ⟨σd, M, R, F, Qd, s, q, w⟩ := h
  refine ⟨σd, M, R, F, _, s, q, fun x M1 v F1 H1 q1 e1 g1 r1 => ?_⟩
  refine ⟨σd, M1, R, F1, _, s.step e1 g1, q1, fun y M2 u F2 H2 q2 e2 g2 r2 => ?_⟩
  exact ⟨x, y, F2, M2, R, Qd, g2, r1.mono e2, r2, q2, w.mono (e1.trans e2)⟩
theorem x_bin {o : BOp} {a b : PX} {e : Expr} (ha : PEs C X a) (hb : PEs C X b) (h : isX X.N X.env.scope (.bin o a b) e = true) : PE X e (rE C (.bin o a b)) := by
  cases e <;> first | (exact absurd h Bool.false_ne_true) | skip
  rename_i x op y pos
  obtain ⟨h, h3⟩ := and_of (show (bopB o op && isX X.N X.env.scope a x && isX X.N X.env.scope b y) = true from h)
  obtain ⟨h1, h2⟩ := and_of h
  have eo := bop_eq K h1
  subst eo
  exact PE.imp (pe_op (op_binD K.g o) (ha _ h2) (hb _ h3)) fun σ H Q q => r_two K q
theorem x_neg {a : PX} {e : Expr} (ha : PEs C X a) (h : isX X.N X.env.scope (.neg a) e = true) : PE X e (rE C (.neg a)) := by
  cases e <;> first | (exact absurd h Bool.false_ne_true) | skip
  rename_i op x pos
  cases op <;> first | (exact absurd h Bool.false_ne_true) | skip
  refine PE.imp (pe_un (un_negD K.g) (ha _ h)) fun σ H Q ⟨σd, M, R, F, Qd, s, q, w⟩ => ?_
  exact ⟨σd, M, R, F, _, s, q, fun x M1 v F1 H1 q1 e1 g1 r1 => ⟨x, F1, M1, R, Qd, g1, r1, q1, w.mono e1⟩⟩
theorem behind_of {o : COp} {b : Expr} {p : PX} (h : isX X.N X.env.scope p b = true) : behindInMarks (copO o) b = false := by
  cases b <;> first
    | rfl
    | (exfalso; cases p <;> exact absurd h Bool.false_ne_true)
theorem x_cmp {o : COp} {a b : PX} {e : Expr} (ha : PEs C X a) (hb : PEs C X b) (h : isX X.N X.env.scope (.cmp o a b) e = true) : PE X e (rE C (.cmp o a b)) := by
  obtain ⟨x, op, y, pos, rfl, h1, h2, h3⟩ := cmp_shape h
  have eo := cop_eq K h1
  subst eo
  exact PE.imp (pe_cmpR (op_cmpD K.g o) (ha _ h2) (hb _ h3) (behind_of K h3)) fun σ H Q q => r_two K q
theorem wEqB_imp {x y : D} {P P' : Bool → Prop} (h : wEqB x y P) (i : ∀ b, P b → P' b) : wEqB x y P' := by
  unfold wEqB at h ⊢
  split at h <;> first | exact i _ h | exact ⟨h.1, h.2.1, i _ h.2.2⟩
theorem wInB_imp {x y : D} {M : Store} {P P' : Bool → Prop} (h : wInB x y M P) (i : ∀ b, P b → P' b) : wInB x y M P' := by
  unfold wInB at h ⊢
  split at h
  · obtain ⟨a, e, h⟩ := h
    exact ⟨a, e, i _ h⟩
  · exact i _ h
  · split at h
    · exact ⟨h.1, h.2.1, i _ h.2.2⟩
    · split at h
      · exact ⟨h.1, i _ h.2⟩
      · exact h
theorem wCmp_imp {o : COp} {x y : D} {M : Store} {P P' : DK} (h : wCmp o x y M P) (i : ∀ b, P (.bl b) M → P' (.bl b) M) : wCmp o x y M P' := by
  cases o
  · exact wEqB_imp K (P := fun b => P (.bl b) M) (P' := fun b => P' (.bl b) M) h fun b => i b
  · exact wEqB_imp K (P := fun b => P (.bl (!b)) M) (P' := fun b => P' (.bl (!b)) M) h fun b => i _
  case in_ => exact wInB_imp K (P := fun b => P (.bl b) M) (P' := fun b => P' (.bl b) M) h fun b => i b
  case nin => exact wInB_imp K (P := fun b => P (.bl (!b)) M) (P' := fun b => P' (.bl (!b)) M) h fun b => i _
  all_goals (simp only [wCmp, wCmpI] at h ⊢; split at h <;> first | exact i _ h | exact h)
theorem t_cmp {o : COp} {a b : PX} {e : Expr} (ha : PEs C X a) (hb : PEs C X b) (h : isX X.N X.env.scope (.cmp o a b) e = true) : L2.PT X e (rT C (.val (.cmp o a b))) := by
  obtain ⟨x, op, y, pos, rfl, h1, h2, h3⟩ := cmp_shape h
  have eo := cop_eq K h1
  subst eo
  refine PT.imp (pt_cmpR (op_cmpD K.g o) (ha _ h2) (hb _ h3) (behind_of K h3)) fun σ H Q ⟨σd, M, R, F, Qd, s, q, w⟩ => ?_
  show ∃ σd M R F Qd, _
  refine ⟨σd, M, R, F, _, s, q, fun x M1 v F1 H1 q1 e1 g1 r1 => ?_⟩
  refine ⟨σd, M1, R, F1, _, s.step e1 g1, q1, fun y M2 u F2 H2 q2 e2 g2 r2 => ?_⟩
  refine ⟨x, y, F2, M2, R, fun d M' => M' = M2 ∧ ∃ b, d = .bl b ∧ Qd b M2, g2, r1.mono e2, r2, wCmp_imp K q2 fun b q => ⟨rfl, b, rfl, q⟩, fun d M' v F' H' q' e' g' r' => ?_⟩
  obtain ⟨rfl, b, rfl, q'⟩ := q'
  cases r'
  exact ⟨b, rfl, w b _ F' H' q' ((e1.trans e2).trans e') g'⟩
theorem x_cmp2 {o1 o2 : COp} {a b c : PX} {e : Expr} (ha : PEs C X a) (hb : PEs C X b) (hc : PEs C X c) (h : isX X.N X.env.scope (.cmp2 o1 o2 a b c) e = true) : PE X e (rE C (.cmp2 o1 o2 a b c)) := by
  obtain ⟨x, p, q, y, z, pos, rfl, h1, h2, h3, h4, h5⟩ := cmp2_shape h
  have eo := cop_eq K h1
  subst eo
  have eo := cop_eq K h2
  subst eo
  have hm : lastMarks [copO o1, copO o2] [y, z] = false := behind_of K h5
  refine PE.imp (pe_chain (op_cmpD K.g o1) (op_cmpD K.g o2) (ha _ h3) (hb _ h4) (hc _ h5) (hm := hm)) fun σ H Q ⟨σd, M, R, F, Qd, s, q, w⟩ => ?_
  refine ⟨σd, M, R, F, _, s, q, fun x M1 v F1 H1 q1 e1 g1 r1 => ?_⟩
  refine ⟨σd, M1, R, F1, _, s.step e1 g1, q1, fun y M2 u F2 H2 q2 e2 g2 r2 => ?_⟩
  refine ⟨x, y, F2, M2, R, fun d M' => M' = M2 ∧ ∃ b, d = .bl b ∧ (match b with | true => dE C.E c σd M2 fun w' M4 => wCmp o2 y w' M4 Qd | false => Qd (.bl false) M2), g2, r1.mono e2, r2, wCmp_imp K q2 fun b q => ⟨rfl, b, rfl, by cases b <;> exact q⟩, fun d M' v3 F' H' q' e' g' r' => ?_⟩
  obtain ⟨rfl, b, rfl, q'⟩ := q'
  cases r'
  refine ⟨b, rfl, ?_⟩
  cases b with
  | false => exact w _ _ _ F' H' q' ((e1.trans e2).trans e') g' (.bl _)
  | true =>
    rw [if_pos rfl]
    refine ⟨σd, _, R, F', _, s.step ((e1.trans e2).trans e') g', q', fun z M4 t F4 H4 q4 e4 g4 r4 => ?_⟩
    exact ⟨y, z, F4, M4, R, Qd, g4, r2.mono (e'.trans e4), r4, q4, w.mono (((e1.trans e2).trans e').trans e4)⟩
theorem t_cmp2 {o1 o2 : COp} {a b c : PX} {e : Expr} (ha : PEs C X a) (hb : PEs C X b) (hc : PEs C X c) (h : isX X.N X.env.scope (.cmp2 o1 o2 a b c) e = true) : L2.PT X e (rT C (.val (.cmp2 o1 o2 a b c))) := by
  obtain ⟨x, p, q, y, z, pos, rfl, h1, h2, h3, h4, h5⟩ := cmp2_shape h
  have eo := cop_eq K h1
  subst eo
  have eo := cop_eq K h2
  subst eo
  have hm : lastMarks [copO o1, copO o2] [y, z] = false := behind_of K h5
  refine PT.imp (pt_chain (op_cmpD K.g o1) (op_cmpD K.g o2) (ha _ h3) (hb _ h4) (hc _ h5) (hm := hm)) fun σ H Q ⟨σd, M, R, F, Qd, s, q, w⟩ => ?_
  show ∃ σd M R F Qd, _
  refine ⟨σd, M, R, F, _, s, q, fun x M1 v F1 H1 q1 e1 g1 r1 => ?_⟩
  refine ⟨σd, M1, R, F1, _, s.step e1 g1, q1, fun y M2 u F2 H2 q2 e2 g2 r2 => ?_⟩
  refine ⟨x, y, F2, M2, R, fun d M' => M' = M2 ∧ ∃ b, d = .bl b ∧ (match b with | true => dE C.E c σd M2 fun w' M4 => wCmp o2 y w' M4 fun x M1 => wTru x M1 fun b => Qd b M1 | false => Qd false M2), g2, r1.mono e2, r2, wCmp_imp K q2 fun b q => ⟨rfl, b, rfl, by cases b <;> exact q⟩, fun d M' v3 F' H' q' e' g' r' => ?_⟩
  obtain ⟨rfl, b, rfl, q'⟩ := q'
  cases r'
  refine ⟨b, rfl, ?_⟩
  cases b with
  | false => exact ⟨false, rfl, w false _ F' H' q' ((e1.trans e2).trans e') g'⟩
  | true =>
    rw [if_pos rfl]
    refine ⟨σd, _, R, F', _, s.step ((e1.trans e2).trans e') g', q', fun z M4 t F4 H4 q4 e4 g4 r4 => ?_⟩
    refine ⟨y, z, F4, M4, R, fun d M' => M' = M4 ∧ ∃ b, d = .bl b ∧ Qd b M4, g4, r2.mono (e'.trans e4), r4, wCmp_imp K q4 fun b q => ⟨rfl, b, rfl, q⟩, fun d M' v' F'' H'' q'' e'' g'' r'' => ?_⟩
    obtain ⟨rfl, b2, rfl, q''⟩ := q''
    cases r''
    exact ⟨b2, rfl, w b2 _ F'' H'' q'' ((((e1.trans e2).trans e').trans e4).trans e'') g''⟩
theorem x_not {a : PX} {e : Expr} (ha : PEs C X a) (h : isX X.N X.env.scope (.not a) e = true) : PE X e (rE C (.not a)) := by
  cases e <;> first | (exact absurd h Bool.false_ne_true) | skip
  rename_i op x pos
  cases op <;> first | (exact absurd h Bool.false_ne_true) | skip
  refine PE.imp (pe_notT (ha _ h)) fun σ H Q ⟨σd, M, R, F, Qd, s, q, w⟩ => ?_
  refine ⟨σd, M, R, F, _, s, q, fun x M1 v F1 H1 q1 e1 g1 r1 => ?_⟩
  obtain ⟨k, h1, h2⟩ := tru_of g1 r1 q1
  exact ⟨k, by rw [K.g.K]; exact h1, w _ _ _ F1 H1 h2 e1 g1 (.bl _)⟩
theorem x_ife {t : PT} {a b : PX} {e : Expr} (ht : PTt C X t) (ha : PEs C X a) (hb : PEs C X b) (h : isX X.N X.env.scope (.ife t a b) e = true) : PE X e (rE C (.ife t a b)) := by
  cases e <;> first | (exact absurd h Bool.false_ne_true) | skip
  rename_i x y z pos
  obtain ⟨h, h3⟩ := and_of (show (isT X.N X.env.scope t x && isX X.N X.env.scope a y && isX X.N X.env.scope b z) = true from h)
  obtain ⟨h1, h2⟩ := and_of h
  refine PE.imp (pe_ifExp (ht _ h1) (ha _ h2) (hb _ h3)) fun σ H Q ⟨σd, M, R, F, Qd, s, q, w⟩ => ?_
  refine ⟨σd, M, R, F, _, s, q, fun c M1 F1 H1 q1 e1 g1 => ?_⟩
  cases c with
  | true =>
    rw [if_pos rfl]
    exact ⟨σd, M1, R, F1, _, s.step e1 g1, q1, w.mono e1⟩
  | false =>
    rw [if_neg Bool.false_ne_true]
    exact ⟨σd, M1, R, F1, _, s.step e1 g1, q1, w.mono e1⟩
theorem len_of {es : PXs} : ∀ {xs : List Expr}, isXs X.N X.env.scope es xs = true → es.len = xs.length := by
  induction es using PXs.rec (motive_1 := fun _ => True) (motive_3 := fun _ => True) (motive_4 := fun _ => True) (motive_5 := fun _ => True) (motive_6 := fun _ => True) with
  | nil =>
    intro xs h
    cases xs with
    | nil => rfl
    | cons _ _ => exact absurd h Bool.false_ne_true
  | cons e es _ ih =>
    intro xs h
    cases xs with
    | nil => exact absurd h Bool.false_ne_true
    | cons x xs =>
      obtain ⟨_, h2⟩ := and_of (show (isX X.N X.env.scope e x && isXs X.N X.env.scope es xs) = true from h)
      show es.len + 1 = xs.length + 1
      rw [ih h2]
  | _ => trivial
theorem small_line {n : Nat} (h : n ≤ 1000) : n ≤ sizeLine := by rw [line_eq]; exact Nat.le_trans h (by decide)
theorem x_tup {es : PXs} {e : Expr} (ha : PAs C X es) (h : isX X.N X.env.scope (.tup es) e = true) : PE X e (rE C (.tup es)) := by
  cases e <;> first | (exact absurd h Bool.false_ne_true) | skip
  rename_i xs j pos
  obtain ⟨h1, h2⟩ := and_of (show (isXs X.N X.env.scope es xs && decide (xs.length ≤ 1000)) = true from h)
  refine PE.imp (pe_tup (ha _ h1)) fun σ H Q ⟨σd, M, R, F, Qd, s, q, w⟩ => ?_
  refine ⟨σd, M, R, F, _, s, q, fun ds M1 vs F1 H1 hn q1 e1 g1 r1 => ⟨?_, fun p hp => (w.mono e1).new g1 hp (rp_new_tup (g1.fresh hp).2.1 r1) q1⟩⟩
  rw [r1.length, hn, len_of K h1]
  exact small_line K (of_decide_eq_true h2)
theorem x_lst {es : PXs} {e : Expr} (ha : PAs C X es) (h : isX X.N X.env.scope (.lst es) e = true) : PE X e (rE C (.lst es)) := by
  cases e <;> first | (exact absurd h Bool.false_ne_true) | skip
  rename_i xs pos
  obtain ⟨h1, h2⟩ := and_of (show (isXs X.N X.env.scope es xs && decide (xs.length ≤ 1000)) = true from h)
  refine PE.imp (pe_lst (ha _ h1)) fun σ H Q ⟨σd, M, R, F, Qd, s, q, w⟩ => ?_
  refine ⟨σd, M, R, F, _, s, q, fun ds M1 vs F1 H1 hn q1 e1 g1 r1 => ⟨?_, fun p hp => (w.mono e1).new g1 hp (rp_new_lst (g1.fresh hp).2.1 r1) q1⟩⟩
  rw [r1.length, hn, len_of K h1]
  exact small_line K (of_decide_eq_true h2)
theorem x_mlst {es : PXs} {e : Expr} (ha : PAs C X es) (h : isX X.N X.env.scope (.mlst es) e = true) : PE X e (rE C (.mlst es)) := by
  cases e <;> first | (exact absurd h Bool.false_ne_true) | skip
  rename_i xs pos
  obtain ⟨h1, h2⟩ := and_of (show (isXs X.N X.env.scope es xs && decide (xs.length ≤ 1000)) = true from h)
  refine PE.imp (pe_lst (ha _ h1)) fun σ H Q ⟨σd, M, R, F, Qd, s, q, w⟩ => ?_
  refine ⟨σd, M, R, F, _, s, q, fun ds M1 vs F1 H1 hn q1 e1 g1 r1 => ⟨?_, fun p hp => (w.mono e1).newM g1 hp (.lst r1) (q1 p (g1.fresh hp).1)⟩⟩
  rw [r1.length, hn, len_of K h1]
  exact small_line K (of_decide_eq_true h2)
theorem x_mdic {e : Expr} (h : isX X.N X.env.scope .mdic e = true) : PE X e (rE C .mdic) := by
  cases e <;> first | (exact absurd h Bool.false_ne_true) | skip
  rename_i ks vs pos
  match ks, vs, h with
  | _ :: _, _, h => exact absurd h Bool.false_ne_true
  | [], _ :: _, h => exact absurd h Bool.false_ne_true
  | [], [], _ =>
    refine PE.imp pe_dnewK fun σ H Q ⟨σd, M, R, F, Qd, s, q, w⟩ => ?_
    exact fun p hp => w.newM s.good hp (.dic .nil) (q p (s.good.fresh hp).1)
theorem x_ix {a b : PX} {e : Expr} (ha : PEs C X a) (hb : PEs C X b) (h : isX X.N X.env.scope (.ix a b) e = true) : PE X e (rE C (.ix a b)) := by
  cases e <;> first | (exact absurd h Bool.false_ne_true) | skip
  rename_i x y pos
  obtain ⟨h1, h2⟩ := and_of (show (isX X.N X.env.scope a x && isX X.N X.env.scope b y) = true from h)
  exact PE.imp (pe_ix (ix_D K.g) (ha _ h1) (hb _ h2) (plainIx_of (isX_plain h2))) fun σ H Q q => r_two K q
theorem x_sl {a lo hi : PX} {fl fh : Bool} {e : Expr} (ha : PEs C X a) (hl : PEs C X lo) (hh : PEs C X hi) (h : isX X.N X.env.scope (.sl a fl fh lo hi) e = true) : PE X e (rE C (.sl a fl fh lo hi)) := by
  obtain ⟨x, l, u, p, pos, rfl, h1, h2, h3⟩ := sl_shape h
  have part : ∀ (f : Bool) (o : Option Expr) (q : PX), PEs C X q → ((f = true ∧ ∃ y, o = some y ∧ isX X.N X.env.scope q y = true) ∨ (f = false ∧ o = none ∧ q = .c .non)) →
      PO X o (fun σ H Q => ∃ σd M R F Qd, SR C σd M R F σ H ∧ dE C.E q σd M Qd ∧ ∀ d M' F' H', Qd d M' → Ex F F' → Good C.G R F' H' M' → ∃ i, optI f d = some i ∧ Q i H') := fun f o q hq hf => by
    rcases hf with ⟨rfl, y, rfl, hy⟩ | ⟨rfl, rfl, rfl⟩
    · refine ⟨fun pins s σ H Q I hw => (po_some (hq y hy)).run pins s σ H Q I ?_⟩
      obtain ⟨σd, M, R, F, Qd, sr, q1, w⟩ := hw
      refine ⟨σd, M, R, F, _, sr, q1, fun d M' v F' H' q' e' g' r' => ?_⟩
      obtain ⟨i, e1, q2⟩ := w d M' F' H' q' e' g'
      unfold optI at e1
      split at e1
      · cases r'; cases e1
        exact ⟨_, rfl, q2⟩
      · rename_i e2
        cases e2
      · cases e1
    · refine ⟨fun pins s σ H Q I hw => po_none.run pins s σ H Q I ?_⟩
      obtain ⟨σd, M, R, F, Qd, sr, q1, w⟩ := hw
      obtain ⟨i, e1, q2⟩ := w .non M F H q1 (Ex.refl F) sr.good
      cases e1
      exact q2
  refine PE.imp (pe_slice (sl_D K.g) (ha _ h1) (part fl l lo hl h2) (part fh u hi hh h3)) fun σ H Q ⟨σd, M, R, F, Qd, s, q, w⟩ => ?_
  refine ⟨σd, M, R, F, _, s, q, fun x M1 v F1 H1 q1 e1 g1 r1 => ?_⟩
  refine ⟨σd, M1, R, F1, _, s.step e1 g1, q1, fun l' M2 F2 H2 q2 e2 g2 => ?_⟩
  split at q2
  · rename_i lo' el
    refine ⟨lo', el, σd, M2, R, F2, _, (s.step e1 g1).step e2 g2, q2, fun h' M3 F3 H3 q3 e3 g3 => ?_⟩
    split at q3
    · rename_i hi' eh
      exact ⟨hi', eh, x, F3, M3, R, Qd, g3, r1.mono (e2.trans e3), q3, w.mono ((e1.trans e2).trans e3)⟩
    · exact q3.elim
  · exact q2.elim
/-! ### lists of arguments, and, or -/
theorem a_nil : PAs C X .nil := fun es h => by
  cases es with
  | cons _ _ => exact absurd h Bool.false_ne_true
  | nil => exact PA.imp pa_nil fun σ H Q ⟨σd, M, R, F, Qd, s, q, w⟩ => w [] M [] F H rfl q (Ex.refl F) s.good .nil
theorem a_cons {p : PX} {ps : PXs} (hp : PEs C X p) (hs : PAs C X ps) : PAs C X (.cons p ps) := fun es h => by
  cases es with
  | nil => exact absurd h Bool.false_ne_true
  | cons x xs =>
    obtain ⟨h1, h2⟩ := and_of (show (isX X.N X.env.scope p x && isXs X.N X.env.scope ps xs) = true from h)
    refine PA.imp (pa_cons (hp _ h1) (hs _ h2) (star_of (isX_plain h1))) fun σ H Q ⟨σd, M, R, F, Qd, s, q, w⟩ => ?_
    refine ⟨σd, M, R, F, _, s, q, fun d M1 v F1 H1 q1 e1 g1 r1 => ?_⟩
    refine ⟨σd, M1, R, F1, _, s.step e1 g1, q1, fun ds M2 vs F2 H2 hn q2 e2 g2 r2 => ?_⟩
    exact w (d :: ds) M2 (v :: vs) F2 H2 (congrArg (· + 1) hn) q2 (e1.trans e2) g2 (.cons (r1.mono e2) r2)
theorem and_one {p : PX} {pos : Pos} (hp : PEs C X p) : ∀ xs, isXs X.N X.env.scope (.cons p .nil) xs = true → PE X (.BoolOp .And xs pos) (rAnd C (.cons p .nil)) := fun xs h => by
  match xs, h with
  | [], h => exact absurd h Bool.false_ne_true
  | [x], h => exact pe_one (hp _ (and_of (show (isX X.N X.env.scope p x && true) = true from h)).1)
  | x :: y :: r, h => exact absurd (and_of (show (isX X.N X.env.scope p x && false) = true from h)).2 Bool.false_ne_true
theorem and_more {p p2 : PX} {ps : PXs} {pos : Pos} (hp : PEs C X p) (hs : ∀ xs, isXs X.N X.env.scope (.cons p2 ps) xs = true → PE X (.BoolOp .And xs pos) (rAnd C (.cons p2 ps))) :
    ∀ xs, isXs X.N X.env.scope (.cons p (.cons p2 ps)) xs = true → PE X (.BoolOp .And xs pos) (rAnd C (.cons p (.cons p2 ps))) := fun xs h => by
  match xs, h with
  | [], h => exact absurd h Bool.false_ne_true
  | [x], h => exact absurd (and_of (show (isX X.N X.env.scope p x && false) = true from h)).2 Bool.false_ne_true
  | x :: y :: r, h =>
    obtain ⟨h1, h2⟩ := and_of (show (isX X.N X.env.scope p x && isXs X.N X.env.scope (.cons p2 ps) (y :: r)) = true from h)
    refine PE.imp (pe_and (hp _ h1) (hs _ h2)) fun σ H Q ⟨σd, M, R, F, Qd, s, q, w⟩ => ?_
    refine ⟨σd, M, R, F, _, s, q, fun x M1 v F1 H1 q1 e1 g1 r1 => ?_⟩
    split at q1
    · cases r1
      refine ⟨true, rfl, ?_⟩
      rw [if_pos rfl]
      exact ⟨σd, M1, R, F1, _, s.step e1 g1, q1, w.mono e1⟩
    · cases r1
      refine ⟨false, rfl, ?_⟩
      rw [if_neg Bool.false_ne_true]
      exact w _ _ _ F1 H1 q1 e1 g1 (.bl _)
    · exact q1.elim
theorem or_one {p : PX} {pos : Pos} (hp : PEs C X p) : ∀ xs, isXs X.N X.env.scope (.cons p .nil) xs = true → PE X (.BoolOp .Or xs pos) (rOr C (.cons p .nil)) := fun xs h => by
  match xs, h with
  | [], h => exact absurd h Bool.false_ne_true
  | [x], h => exact pe_one (hp _ (and_of (show (isX X.N X.env.scope p x && true) = true from h)).1)
  | x :: y :: r, h => exact absurd (and_of (show (isX X.N X.env.scope p x && false) = true from h)).2 Bool.false_ne_true
theorem or_more {p p2 : PX} {ps : PXs} {pos : Pos} (hp : PEs C X p) (hs : ∀ xs, isXs X.N X.env.scope (.cons p2 ps) xs = true → PE X (.BoolOp .Or xs pos) (rOr C (.cons p2 ps))) :
    ∀ xs, isXs X.N X.env.scope (.cons p (.cons p2 ps)) xs = true → PE X (.BoolOp .Or xs pos) (rOr C (.cons p (.cons p2 ps))) := fun xs h => by
  match xs, h with
  | [], h => exact absurd h Bool.false_ne_true
  | [x], h => exact absurd (and_of (show (isX X.N X.env.scope p x && false) = true from h)).2 Bool.false_ne_true
  | x :: y :: r, h =>
    obtain ⟨h1, h2⟩ := and_of (show (isX X.N X.env.scope p x && isXs X.N X.env.scope (.cons p2 ps) (y :: r)) = true from h)
    refine PE.imp (pe_or (hp _ h1) (hs _ h2)) fun σ H Q ⟨σd, M, R, F, Qd, s, q, w⟩ => ?_
    refine ⟨σd, M, R, F, _, s, q, fun x M1 v F1 H1 q1 e1 g1 r1 => ?_⟩
    split at q1
    · cases r1
      refine ⟨true, rfl, ?_⟩
      rw [if_pos rfl]
      exact w _ _ _ F1 H1 q1 e1 g1 (.bl _)
    · cases r1
      refine ⟨false, rfl, ?_⟩
      rw [if_neg Bool.false_ne_true]
      exact ⟨σd, M1, R, F1, _, s.step e1 g1, q1, w.mono e1⟩
    · exact q1.elim
/-! ### tests -/
def isCmp : PX → Bool
  | .cmp _ _ _ => true | .cmp2 _ _ _ _ _ => true | .and _ => true | .or _ => true | .not _ => true | .ife _ _ _ => true | _ => false
def simpleB : Expr → Bool
  | .BoolOp _ _ _ => false | .UnaryOp .Not _ _ => false | .Compare _ _ _ _ => false | .IfExp _ _ _ _ => false | _ => true
theorem simple_true {e : Expr} (h : simpleB e = true) (env : PySem.Env) : ∀ whole, isTrue e env whole = (do let v ← whole; standAt e.pos; holding [v] (truthy v)) := by
  intro whole
  cases e <;> first
    | rfl
    | exact absurd h Bool.false_ne_true
    | (rename_i op x pos
       cases op <;> first | rfl | exact absurd h Bool.false_ne_true)
theorem simple_of {p : PX} {e : Expr} (hp : isCmp p = false) (h : isX X.N X.env.scope p e = true) : simpleB e = true := by
  cases e <;> first
    | rfl
    | (exfalso; cases p <;> first | (exact absurd h Bool.false_ne_true) | (cases hp; done))
    | (rename_i op x pos
       cases op <;> first
         | rfl
         | (exfalso; cases p <;> first | (exact absurd h Bool.false_ne_true) | (cases hp; done)))
theorem t_val {p : PX} {e : Expr} (hp : PEs C X p) (hc : isCmp p = false) (h : isX X.N X.env.scope p e = true) : L2.PT X e (rT C (.val p)) := by
  refine PT.imp (pt_truth (hp _ h) (simple_true K (simple_of K hc h) _)) fun σ H Q ⟨σd, M, R, F, Qd, s, q, w⟩ => ?_
  refine ⟨σd, M, R, F, _, s, q, fun x M1 v F1 H1 q1 e1 g1 r1 => ?_⟩
  obtain ⟨k, h1, h2⟩ := tru_of g1 r1 q1
  exact ⟨k, by rw [K.g.K]; exact h1, w _ _ F1 H1 h2 e1 g1⟩
theorem t_not {t : PT} {e : Expr} (ht : PTt C X t) (h : isT X.N X.env.scope (.not t) e = true) : L2.PT X e (rT C (.not t)) := by
  cases e <;> first | (exact absurd h Bool.false_ne_true) | skip
  rename_i op x pos
  cases op <;> first | (exact absurd h Bool.false_ne_true) | skip
  refine PT.imp (pt_not (ht _ h)) fun σ H Q ⟨σd, M, R, F, Qd, s, q, w⟩ => ?_
  exact ⟨σd, M, R, F, _, s, q, fun c M1 F1 H1 q1 e1 g1 => w _ _ F1 H1 q1 e1 g1⟩
end
end VS

/-! VS, part 9: calls, methods, fields, comprehensions; every expression. -/
namespace VS
open PySem PySem.Spec PyProof.Rows L2
/-- xs.extend(t), t a tuple -/
theorem ext_tup {l b : Addr} {us ws : Array Value} {c c2 : Nat} {od : Option Addr} {osl : Array (Option Value)} (h0 : ¬(!us.isEmpty && Builtin.List.listTooLong (us.size + ws.size)) = true) (h1 : us.size ≤ sizeLine) (h2 : us.size + ws.size ≤ sizeLine + 1) :
    Meets (Builtin.«list.extend» ⟨[.ref l, .ref b], []⟩) (fun _ R s =>
      s.heap.get? l = some { cls := .type "list", dict := none, data := .seq us c, slots := #[] } ∧
      s.heap.get? b = some { cls := .type "tuple", dict := od, data := .seq ws c2, slots := osl } ∧
      R (.ok (.ret Value.none)) { s with heap := s.heap.update l (Obj.mapSeq fun x => x ++ ws), toks := s.toks }) := by
  refine .of_wp fun prog w A R s h => ?_
  obtain ⟨hp, g, d, tk, os⟩ := s
  obtain ⟨hl, hb, h⟩ := h
  have e1 := AutoSeq1.idx_int
  have e2 := AutoSeq1.sub_tuple_tuple
  have e3 := AutoSeq1.sub_list_list
  have e4 := AutoSeq1.sub_tuple_list
  have e5 := AutoSeq1.sub_list_tuple
  have hz : (us ++ ws).size ≤ sizeLine + 1 := by
    rw [Array.size_append]
    exact h2
  wp_walk using (wpAny_updateSeq hl rfl (hz := h1) (_hz' := hz)), AutoSeq1.wpAny_loadPart' hl, AutoSeq1.wpAny_loadPart' hb
  exact ⟨_, rfl, h⟩
theorem mt_extT {X : Cx} : MtM X "list.extend" (fun x vs H Q => ∃ l b xs zs, x = .ref l ∧ vs = [.ref b] ∧ H l = some (.lst xs) ∧ SqT X.K H b zs ∧ xs.length + zs.length ≤ sizeLine ∧ Q .non (upd H l (.lst (xs ++ zs)))) := by
  intro pins s σ H x vs v us Q I rx rv h
  obtain ⟨l, b, xs, zs, rfl, rfl, hl, hb, hz, q⟩ := h
  cases rx
  obtain ⟨u, rfl, ru⟩ := rv.one
  cases ru
  obtain ⟨z, its, n, r, hn, e⟩ := I.lstM hl
  obtain ⟨its2, r2, ⟨⟨oc, od, dt, osl⟩, o1, o2, n2, o3⟩, z2⟩ := I.tuple hb
  simp only at o2 o3
  subst o2 o3
  have l1 := r.length
  have l2 := r2.length
  have hsz : its.toArray.size + its2.toArray.size ≤ sizeLine := by
    rw [List.size_toArray, List.size_toArray]
    omega
  have hlong : ¬ (!its.toArray.isEmpty && Builtin.List.listTooLong (its.toArray.size + its2.toArray.size)) = true := by
    rw [notLongL hsz, Bool.and_false]
    decide
  refine call_meets PySem.F.slot_list_extend ⟨_, e, rfl⟩ PySem.F.entry_list_extend (PySem.F.args_list_extend_2 _ _) (ext_tup hlong (by rw [List.size_toArray]; omega) (by omega)) ⟨e, o1, ?_⟩
  exact ⟨.non, _, I.lset (its' := its ++ its2) hl e (by simp) (r.append r2) (by rw [List.length_append]; omega), rfl, q⟩
theorem base_of {o : Expr} (h : noSup o = true) (attr : Str) (env : PySem.Env) : attributeBase o attr env (eval o env) = eval o env := by
  cases o <;> first
    | rfl
    | (rename_i f xs kws pos
       cases f <;> first
         | rfl
         | (match xs, kws, h with
            | [], [], h => exact absurd h Bool.false_ne_true
            | _ :: _, _, _ => rfl
            | [], _ :: _, _ => rfl))
theorem lookF_rp {G : Glob} {F : Hp} (f : String) : ∀ {vs : List (Str × V)} {fs : List (String × D)}, RpF G F vs fs →
    (∃ v d, vs.lookup (Str.ofString f) = some v ∧ lookF f fs = some d ∧ Rp G F v d) ∨ (vs.lookup (Str.ofString f) = none ∧ lookF f fs = none)
  | _, _, .nil => .inr ⟨rfl, rfl⟩
  | _, _, .cons (f := g) hr r => by
    unfold lookF
    by_cases e : g = f
    · subst e
      rw [if_pos rfl]
      exact .inl ⟨_, _, by rw [List.lookup_cons]; simp, rfl, hr⟩
    · rw [if_neg e]
      have e2 : (Str.ofString f == Str.ofString g) = false := by
        rw [beq_eq_false_iff_ne]
        exact fun z => e (ofString_inj.mp z).symm
      rw [List.lookup_cons, e2]
      exact lookF_rp f r
theorem boot_five {t : String} (h : t ∈ fiveTys) : bootBuiltins (Str.ofString t) = some (.type t) ∧ (Str.ofString t) ≠ "__name__" := by
  have : t = "list" ∨ t = "tuple" ∨ t = "str" ∨ t = "int" ∨ t = "bool" := by simpa [fiveTys] using h
  rcases this with rfl | rfl | rfl | rfl | rfl
  all_goals exact ⟨by decide +kernel, by decide +kernel⟩
theorem kit_of_ty {k t : String} {b : Bool} (hk : k ∈ ["NoneType", "bool", "int", "str", "tuple", "list"]) (h : isTyK k t = some b) : kitB k t = some b := by
  have hk : k = "NoneType" ∨ k = "bool" ∨ k = "int" ∨ k = "str" ∨ k = "tuple" ∨ k = "list" := by simpa using hk
  unfold isTyK at h
  split at h
  · rename_i e; subst e; cases h
    rcases hk with rfl | rfl | rfl | rfl | rfl | rfl <;> decide +kernel
  split at h
  · rename_i e; subst e; cases h
    rcases hk with rfl | rfl | rfl | rfl | rfl | rfl <;> decide +kernel
  split at h
  · rename_i e; subst e; cases h
    rcases hk with rfl | rfl | rfl | rfl | rfl | rfl <;> decide +kernel
  split at h
  · rename_i e; subst e; cases h
    rcases hk with rfl | rfl | rfl | rfl | rfl | rfl <;> decide +kernel
  split at h
  · rename_i e; subst e; cases h
    rcases hk with rfl | rfl | rfl | rfl | rfl | rfl <;> decide +kernel
  · cases h
def kindD (M : Store) : D → String
  | .non => "NoneType" | .bl _ => "bool" | .int _ => "int" | .str _ => "str" | .tup _ => "tuple" | .lst _ => "list"
  | .ptr p => (match M p with | some (.lst _) => "list" | _ => "") | _ => ""
def MtD (X : Cx) (G : Glob) (id : String) (w : D → List D → Store → DK → Prop) : Prop :=
  MtR X id fun x vs H Q => ∃ dx ds F M R Qd, Good G R F H M ∧ Rp G F x dx ∧ RpL G F vs ds ∧ w dx ds M Qd ∧ Wish G R F Qd Q
section
variable {G : Glob} {X : Cx} (C : CtxG G X)
include C
theorem asPtr {M : Store} {R F H : Hp} {p : Addr} {xs : List D} (g : Good G R F H M) (e : M p = some (.lst xs)) : ∃ vs, H p = some (.lst vs) ∧ RpL G F vs xs := by
  obtain ⟨_, ho, hh, rm⟩ := g.mt p _ e
  cases rm with
  | lst rl => exact ⟨_, hh, rl⟩
theorem m_append : MtD X G "list.append" (fun x ds M Q => wMt .append x ds M Q) := by
  intro pins s σ H x vs v us Q I rx rv h
  obtain ⟨dx, ds, F, M, R, Qd, g, r1, rl, hw, w⟩ := h
  match ds, rl, hw with
  | [y], rl, hw =>
    replace hw : wAppend dx y M Qd := hw
    unfold wAppend at hw
    split at hw
    · rename_i p _
      split at hw
      · rename_i xs e
        cases r1
        obtain ⟨ws, hh, rw'⟩ := asPtr C g e
        cases rl with
        | cons ry rn =>
          cases rn
          refine mt_append pins s σ H _ _ v us Q I rx rv ⟨p, ws, _, rfl, rfl, hh, by rw [rw'.length, line_eq]; exact hw.1, ?_⟩
          exact w _ _ _ F _ hw.2 (Ex.refl F) (g.write e (.lst (rw'.append (.cons ry .nil)))) .non
      · exact hw.elim
    · exact hw.elim
  | [], _, hw => exact hw.elim
  | [_, _], _, hw => exact hw.elim
  | _ :: _ :: _ :: _, _, hw => exact hw.elim
theorem m_extend : MtD X G "list.extend" (fun x ds M Q => wMt .extend x ds M Q) := by
  intro pins s σ H x vs v us Q I rx rv h
  obtain ⟨dx, ds, F, M, R, Qd, g, r1, rl, hw, w⟩ := h
  match ds, rl, hw with
  | [y], rl, hw =>
    replace hw : wExtend dx y M Qd := hw
    unfold wExtend at hw
    split at hw
    · rename_i p _
      split at hw
      · rename_i xs e
        split at hw
        · rename_i ys e2
          cases r1
          obtain ⟨ws, hh, rw'⟩ := asPtr C g e
          cases rl with
          | cons ry rn =>
            cases rn
            have key : (∃ zs, y = .tup zs) ∨ asL M y = some ys := by
              cases y <;> first | exact .inl ⟨_, rfl⟩ | exact .inr e2
            rcases key with ⟨zs, rfl⟩ | e3
            · cases e2
              cases ry with
              | tup hb rz =>
                refine mt_extT pins s σ H _ _ v us Q I rx rv ⟨p, _, ws, _, rfl, rfl, hh, by rw [C.K]; exact g.ex.t hb, by rw [rw'.length, rz.length, line_eq]; exact hw.1, ?_⟩
                exact w _ _ _ F _ hw.2 (Ex.refl F) (g.write e (.lst (rw'.append rz))) .non
            · obtain ⟨b, zs, rfl, hb, rz⟩ := asL_rp g ry e3
              refine mt_extend pins s σ H _ _ v us Q I rx rv ⟨p, b, ws, zs, rfl, rfl, hh, hb, by rw [rw'.length, rz.length, line_eq]; exact hw.1, ?_⟩
              exact w _ _ _ F _ hw.2 (Ex.refl F) (g.write e (.lst (rw'.append rz))) .non
        · exact hw.elim
      · exact hw.elim
    · exact hw.elim
  | [], _, hw => exact hw.elim
  | [_, _], _, hw => exact hw.elim
  | _ :: _ :: _ :: _, _, hw => exact hw.elim
theorem m_pop : MtD X G "list.pop" (fun x ds M Q => wMt .pop x ds M Q) := by
  intro pins s σ H x vs v us Q I rx rv h
  obtain ⟨dx, ds, F, M, R, Qd, g, r1, rl, hw, w⟩ := h
  match ds, rl, hw with
  | [], rl, hw =>
    replace hw : wPop dx M Qd := hw
    unfold wPop at hw
    split at hw
    · rename_i p _
      split at hw
      · rename_i xs e
        split at hw
        · rename_i d e2
          cases r1
          obtain ⟨ws, hh, rw'⟩ := asPtr C g e
          cases rl
          obtain ⟨z, e3, rz⟩ := rw'.get e2
          refine mt_pop pins s σ H _ _ v us Q I rx rv ⟨p, ws, z, rfl, rfl, hh, by rw [rw'.length]; exact e3, ?_⟩
          exact w _ _ _ F _ hw (Ex.refl F) (g.write e (.lst rw'.dropLast)) rz
        · exact hw.elim
      · exact hw.elim
    · exact hw.elim
  | [_], _, hw => exact hw.elim
  | [_, _], _, hw => exact hw.elim
  | _ :: _ :: _ :: _, _, hw => exact hw.elim
theorem m_index : MtD X G "list.index" (fun x ds M Q => wMt .index x ds M Q) := by
  intro pins s σ H x vs v us Q I rx rv h
  obtain ⟨dx, ds, F, M, R, Qd, g, r1, rl, hw, w⟩ := h
  match ds, rl, hw with
  | [y], rl, hw =>
    replace hw : wIndex dx y M Qd := hw
    unfold wIndex at hw
    split at hw
    · rename_i xs e
      obtain ⟨s1, s2, j, z, e1, e2, e3, q⟩ := hw
      obtain ⟨a, ws, rfl, hh, rw'⟩ := asL_rp g r1 e
      cases rl with
      | cons ry rn =>
        cases rn
        have dl : DpAll X.K H ws (pyL xs) := by
          rw [C.K]
          refine dpL_of (rw'.mono g.ex) ?_
          have := SeqAt.canLay_of_shaped s2
          simpa [PyData.canLay0] using this
        have d1 := dp_at g ry s1
        rw [← C.K] at d1
        refine mt_indexD C.un pins s σ H _ _ v us Q I rx rv ⟨a, _, py y, pyL xs, j, py z, rfl, rfl, .lst (SqL.of hh) dl, d1, s2, s1, ?_, e2, fun m z' hm hz => ?_, w.at g (.int _) q⟩
        · rw [pyL_map, List.getElem?_map, e1]; rfl
        · rw [pyL_map, List.getElem?_map] at hz
          cases q2 : xs[m]? with
          | none => rw [q2] at hz; cases hz
          | some z2 =>
            rw [q2] at hz
            cases hz
            exact e3 m z2 hm q2
    · exact hw.elim
  | [], _, hw => exact hw.elim
  | [_, _], _, hw => exact hw.elim
  | _ :: _ :: _ :: _, _, hw => exact hw.elim
theorem m_get1 : MtD X G "dict.get" (fun x ds M Q => wMt .get1 x ds M Q) := by
  intro pins s σ H x vs v us Q I rx rv h
  obtain ⟨dx, ds, F, M, R, Qd, g, r1, rl, hw, w⟩ := h
  match ds, rl, hw with
  | [y], rl, hw =>
    replace hw : wGet1 dx y M Qd := hw
    unfold wGet1 at hw
    split at hw
    · rename_i kvs e
      obtain ⟨hk, q⟩ := hw
      obtain ⟨k, hk⟩ := Option.isSome_iff_exists.mp hk
      obtain ⟨a, ws, rfl, hh, rd⟩ := asD_rp g r1 e
      cases rl with
      | cons ry rn =>
        cases rn
        have ey := keyOf_rp C ry hk
        subst ey
        cases rx
        cases rv with
        | cons rk rn =>
          cases rn
          have hu : X.A.units + 1 < cLine := Nat.lt_of_le_of_lt (Nat.add_le_add_left (by decide) _) C.un
          refine d_get1 hu I (DGet.k (k := k) hh) rk fun w' s' I' rw' => ⟨_, H, I', rw', ?_⟩
          rcases valV_rp C hk rd with ⟨v', d', e3, e4, rv'⟩ | ⟨e3, e4⟩
          · rw [e3]; rw [e4] at q
            exact w.at g rv' q
          · rw [e3]; rw [e4] at q
            exact w.at g .non q
    · exact hw.elim
  | [], _, hw => exact hw.elim
  | [_, _], _, hw => exact hw.elim
  | _ :: _ :: _ :: _, _, hw => exact hw.elim
theorem m_get2 : MtD X G "dict.get" (fun x ds M Q => wMt .get2 x ds M Q) := by
  intro pins s σ H x vs v us Q I rx rv h
  obtain ⟨dx, ds, F, M, R, Qd, g, r1, rl, hw, w⟩ := h
  match ds, rl, hw with
  | [y, z], rl, hw =>
    replace hw : wGet2 dx y z M Qd := hw
    unfold wGet2 at hw
    split at hw
    · rename_i kvs e
      obtain ⟨hk, q⟩ := hw
      obtain ⟨k, hk⟩ := Option.isSome_iff_exists.mp hk
      obtain ⟨a, ws, rfl, hh, rd⟩ := asD_rp g r1 e
      cases rl with
      | cons ry rn =>
        cases rn with
        | cons rz rn =>
          cases rn
          have ey := keyOf_rp C ry hk
          subst ey
          cases rx
          cases rv with
          | cons rk rn =>
            cases rn with
            | cons rk2 rn =>
              cases rn
              have hu : X.A.units + 1 < cLine := Nat.lt_of_le_of_lt (Nat.add_le_add_left (by decide) _) C.un
              refine d_get2 hu I (DGet.k (k := k) hh) rk rk2 fun w' s' I' rw' => ⟨_, H, I', rw', ?_⟩
              rcases valV_rp C hk rd with ⟨v', d', e3, e4, rv'⟩ | ⟨e3, e4⟩
              · rw [e3]; rw [e4] at q
                exact w.at g rv' q
              · rw [e3]; rw [e4] at q
                exact w.at g rz q
    · exact hw.elim
  | [], _, hw => exact hw.elim
  | [_], _, hw => exact hw.elim
  | _ :: _ :: _ :: _, _, hw => exact hw.elim
theorem ty_kind {d : D} {M : Store} {R F H : Hp} {v : V} {t : String} {b : Bool} (g : Good G R F H M) (r : Rp G F v d) (h : isTyD M d t = some b) : kitB (kindD M d) t = some b ∧ TyX X.K H v (.type (kindD M d)) := by
  cases d with
  | non => cases r; exact ⟨kit_of_ty (by simp [kindD]) h, .base .non⟩
  | bl _ => cases r; exact ⟨kit_of_ty (by simp [kindD]) h, .base (.bl _)⟩
  | int _ => cases r; exact ⟨kit_of_ty (by simp [kindD]) h, .base (.int _)⟩
  | str _ => cases r; exact ⟨kit_of_ty (by simp [kindD]) h, .base (.str _)⟩
  | tup xs =>
    refine ⟨kit_of_ty (by simp [kindD]) h, ?_⟩
    cases r with
    | tup ha _ =>
      rcases g.ex.t ha with (h1 | ⟨o, h1⟩) | ⟨o, its, n, h1, h2, _⟩
      · exact .base (.tup h1)
      · exact .fTuple h1
      · exact .kTuple (by rw [C.K]; exact h1) h2
  | lst xs =>
    refine ⟨kit_of_ty (by simp [kindD]) h, ?_⟩
    cases r with
    | lst ha _ => exact .base (.lst (g.ex _ _ ha))
  | ptr p =>
    have h' : (match M p with | some (.lst _) => isTyK "list" t | _ => none) = some b := h
    split at h'
    · rename_i xs e
      have ek : kindD M (.ptr p) = "list" := by simp [kindD, e]
      rw [ek]
      obtain ⟨_, ho, hh, rm⟩ := g.mt p _ e
      cases r
      cases rm with
      | lst _ => exact ⟨kit_of_ty (by simp) h', .base (.lst hh)⟩
    · cases h'
  | _ => cases h
theorem ty_list {d : D} {M : Store} {R F H : Hp} {v : V} (g : Good G R F H M) (r : Rp G F v d) (h : (asL M d).isSome = true) : tyV X.K "list" v H := by
  obtain ⟨xs, e⟩ := Option.isSome_iff_exists.mp h
  obtain ⟨a, vs, rfl, ha, _⟩ := asL_rp g r e
  exact .inl ⟨rfl, _, SqL.of ha⟩
theorem ty_dict {d : D} {M : Store} {R F H : Hp} {v : V} (g : Good G R F H M) (r : Rp G F v d) (h : (asD M d).isSome = true) : tyV X.K "dict" v H := by
  obtain ⟨xs, e⟩ := Option.isSome_iff_exists.mp h
  obtain ⟨a, vs, rfl, ha, _⟩ := asD_rp g r e
  exact .inr (.inr (.inl ⟨rfl, .inl ⟨_, ha⟩⟩))
end
section
variable {C : Cq} {X : Cx} (K : Ctx C X)
include K
theorem any_false {es : List Expr} {ps : PXs} {pos : Pos} : isXs X.N X.env.scope ps es = true → (backTo pos (starEach es X.env)).any (·.1) = false := by
  induction ps using PXs.rec (motive_1 := fun _ => True) (motive_3 := fun _ => True) (motive_4 := fun _ => True) (motive_5 := fun _ => True) (motive_6 := fun _ => True) generalizing es with
  | nil =>
    intro h
    cases es with
    | nil => rfl
    | cons _ _ => exact absurd h Bool.false_ne_true
  | cons p ps _ ih =>
    intro h
    cases es with
    | nil => exact absurd h Bool.false_ne_true
    | cons x xs =>
      obtain ⟨h1, h2⟩ := and_of (show (isX X.N X.env.scope p x && isXs X.N X.env.scope ps xs) = true from h)
      have e := ih h2
      rw [star_of (isX_plain h1)]
      unfold backTo at e ⊢
      rw [List.map_cons, List.any_cons, e]
      rfl
  | _ => trivial
theorem all_plain {es : List Expr} {ps : PXs} {pos : Pos} : isXs X.N X.env.scope ps es = true → (backTo pos (starEach es X.env)).all (fun x => !x.1) = true := fun h => by
  have e := any_false K (pos := pos) h
  rw [List.any_eq_false] at e
  rw [List.all_eq_true]
  intro x hx
  simpa using e x hx
theorem wishX_of {σd : Env} {M : Store} {R F : Hp} {σ : L2.St} {H : Hp} (s : SR C σd M R F σ H) : WishX C.G R F C.E (excK C) := by
  intro c fs M' F' H' Ca h e g hm
  have gR : Good C.G C.R F' H' M' := by
    rcases s.e with z | z
    · rw [z] at h; exact h.elim
    · rw [← z]; exact g
  cases fs with
  | none => exact ⟨c, none, M', F', h, s.f0.trans e, gR, hm, ⟨Ca, rfl⟩, trivial⟩
  | some fs => exact fun d xfs hd hr => ⟨c, some fs, M', F', h, s.f0.trans e, gR, hm, ⟨Ca, rfl⟩, xfs, hd, hr⟩
theorem x_call {f : String} {sp : Spec} {es : PXs} {e : Expr} (o : FnFor C.G C.k f es.len sp) (ha : PAs C X es) (h : isX X.N X.env.scope (.call f sp es) e = true) : PE X e (rE C (.call f sp es)) := by
  obtain ⟨p, xs, pos, rfl, hg, h2⟩ := call_shape h
  obtain ⟨g1, g2⟩ := gl_of hg
  obtain ⟨fa, fd, names, F0, hm, hk, hb⟩ := o.ex
  have F1 : FnOk X.prog X.w X.K X.mg X.base (L2.CX X.prog X.w) C.k fa fd names (toSp C.G es.len sp) := by
    rw [K.g.prog, K.g.w, K.g.K, K.g.mg, K.g.base]; exact F0
  have go : ∀ σ H Q, rE C (.call f sp es) σ H Q → tCall (toSp C.G es.len sp) [] (excK C) (rEs C es) σ H Q := fun σ H Q ⟨σd, M, R, F, Qd, s, q, w⟩ => by
    refine ⟨σd, M, R, F, _, s, q, fun ds M1 vs F1 H1 hn q1 e1 g1 r1 => ?_⟩
    show toSp C.G es.len sp (vs ++ []) H1 Q (excK C)
    rw [List.append_nil]
    exact ⟨ds, F1, M1, R, Qd, C.E, hn, g1, r1, q1, w.mono e1, wishX_of K (s.step e1 g1)⟩
  match xs, h2 with
  | [], h2 =>
    have hes : es = .nil := by
      cases es with
      | nil => rfl
      | cons _ _ => exact absurd h2 Bool.false_ne_true
    subst hes
    refine PE.imp (pe_call0 F1 K.room g1 (by rw [K.g.mg]; exact hm) (by rw [K.g.K]; exact hk) (by rw [K.g.K]; exact hb) .nil K.pass g2) fun σ H Q ⟨σd, M, R, F, Qd, s, q, w⟩ => ?_
    show toSp C.G 0 sp ([] ++ []) H Q (excK C)
    exact ⟨[], F, M, R, Qd, C.E, rfl, s.good, .nil, q, w, wishX_of K s⟩
  | x :: xs, h2 =>
    have h3 : plainB x = true := by
      cases es with
      | nil => exact absurd h2 Bool.false_ne_true
      | cons q qs => exact isX_plain (and_of (show (isX X.N X.env.scope q x && isXs X.N X.env.scope qs xs) = true from h2)).1
    have h4 : (backTo pos (starEach xs X.env)).any (·.1) = false := by
      cases es with
      | nil => exact absurd h2 Bool.false_ne_true
      | cons q qs => exact any_false K (and_of (show (isX X.N X.env.scope q x && isXs X.N X.env.scope qs xs) = true from h2)).2
    exact PE.imp (pe_call F1 K.room g1 (by rw [K.g.mg]; exact hm) (by rw [K.g.K]; exact hk) (by rw [K.g.K]; exact hb) .nil K.pass (ha _ h2) g2 (star_of h3) h4) go
theorem call_form {o : Expr} {m : Str} {apos pos : Pos} {xs : List Expr} (hs : noSup o = true) (hl : (apos.endLine == pos.line) = true) (hn : xs.length < 28) (hp : (backTo pos (starEach xs X.env)).all (fun x => !x.1) = true) :
    eval (.Call (.Attribute o m apos) xs [] pos) X.env = (do
      let ov ← eval o X.env
      standAt apos.atName
      let (f, first) ← holding [ov] (getMethod ov m (do return (← importBound o X.env).getD true))
      callWith pos f first (backTo pos (starEach xs X.env)) (backToKw pos (keywordEach [] X.env))) := by
  have e1 : eval (.Call (.Attribute o m apos) xs [] pos) X.env = (do
      let ov ← attributeBase o m X.env (eval o X.env)
      standAt apos.atName
      methodCall o m apos pos X.env ov (xs.length + ([] : List Keyword).length) (backTo pos (starEach xs X.env)) (backToKw pos (keywordEach [] X.env))) := rfl
  rw [e1, base_of hs]
  have hf : methodCallForm (xs.length + ([] : List Keyword).length) (backTo pos (starEach xs X.env)) (backToKw pos (keywordEach [] X.env)) = true := by
    unfold methodCallForm
    rw [hp]
    show (true && true && decide (xs.length + 0 + (if ([] : List (Option Str × Sem Value)).isEmpty = true then 0 else 1) < 30)) = true
    simp
    omega
  have hq : methodCallPos true o X.env apos pos = pure pos := by
    unfold methodCallPos
    rw [hl]
    rfl
  congr 1
  funext ov
  congr 1
  funext _
  unfold methodCall
  rw [hf, hq]
  simp only [pure_bind]
  rfl
theorem x_meth {cl m : String} {sp : Spec} {a : PX} {es : PXs} {e : Expr} (o : MethFor C.G C.k cl m (es.len + 1) sp) (ho : PEs C X a) (ha : PAs C X es) (h : isX X.N X.env.scope (.meth cl m sp a es) e = true) : PE X e (rE C (.meth cl m sp a es)) := by
  obtain ⟨x, apos, xs, pos, rfl, hl, hn, h1, h2, h3⟩ := meth_shape h
  obtain ⟨Ca, fa, fd, names, hm, cl', me, F0, hb⟩ := o.ex
  have F1 : FnOk X.prog X.w X.K X.mg X.base (L2.CX X.prog X.w) C.k fa fd names (toSp C.G (es.len + 1) sp) := by
    rw [K.g.prog, K.g.w, K.g.K, K.g.mg, K.g.base]; exact F0
  have cl2 : Cls X.K Ca := by rw [K.g.K]; exact cl'
  have me2 : Meth X.K Ca (Str.ofString m) fa := by rw [K.g.K]; exact me
  have hb2 : Binds X.K fd names [] := by rw [K.g.K]; exact hb
  have look : ∀ {F : Hp} {vs : List (Str × V)} {fs : List (String × D)}, RpF C.G F vs fs → lookF m fs = none → vs.lookup (Str.ofString m) = none := fun {F vs fs} r hl => by
    rcases lookF_rp m r with ⟨v, d, _, e2, _⟩ | ⟨e1, _⟩
    · rw [hl] at e2; cases e2
    · exact e1
  have go : ∀ σ H Q, rE C (.meth cl m sp a es) σ H Q → tMeth Ca (Str.ofString m) (toSp C.G (es.len + 1) sp) [] (excK C) (rE C a) (rEs C es) σ H Q := fun σ H Q ⟨σd, M, R, F, Qd, s, q, w⟩ => by
    refine ⟨σd, M, R, F, _, s, q, fun d M1 v F1 H1 q1 e1 g1 r1 => ?_⟩
    split at q1
    · rename_i c fs ei
      obtain ⟨rfl, hl, q1⟩ := q1
      obtain ⟨b, C', dx, vs, rfl, hH, hc, rf⟩ := asI_rp g1 r1 ei
      rw [hm] at hc
      cases hc
      refine ⟨b, dx, vs, rfl, hH, look rf hl, σd, M1, R, F1, _, s.step e1 g1, q1, fun ds M2 us F2 H2 hn q2 e2 g2 r2 => ?_⟩
      show toSp C.G (es.len + 1) sp (V.ref b :: (us ++ [])) H2 Q (excK C)
      rw [List.append_nil]
      exact ⟨d :: ds, F2, M2, R, Qd, C.E, congrArg (· + 1) hn, g2, .cons (r1.mono e2) r2, q2, w.mono (e1.trans e2), wishX_of K ((s.step e1 g1).step e2 g2)⟩
    · exact q1.elim
  match xs, h3 with
  | [], h3 =>
    have hes : es = .nil := by
      cases es with
      | nil => rfl
      | cons _ _ => exact absurd h3 Bool.false_ne_true
    subst hes
    refine PE.imp (pe_meth0 (ho _ h2) cl2 me2 F1 K.room hb2 .nil K.pass (call_form K h1 hl hn rfl)) fun σ H Q q => ?_
    obtain ⟨σd, M, R, F, Qd, s, q, w⟩ := go σ H Q q
    refine ⟨σd, M, R, F, Qd, s, q, fun d M1 v F1 H1 q1 e1 g1 r1 => ?_⟩
    obtain ⟨b, dx, vs, e2, e3, e4, σd', M', R', F', Qd', s', q', w'⟩ := w d M1 v F1 H1 q1 e1 g1 r1
    exact ⟨b, dx, vs, e2, e3, e4, w' [] M' [] F' H1 rfl q' (Ex.refl F') s'.good .nil⟩
  | x :: xs, h3 =>
    have h4 : plainB x = true ∧ (backTo pos (starEach xs X.env)).any (·.1) = false := by
      cases es with
      | nil => exact absurd h3 Bool.false_ne_true
      | cons q qs =>
        obtain ⟨h3, h4⟩ := and_of (show (isX X.N X.env.scope q x && isXs X.N X.env.scope qs xs) = true from h3)
        exact ⟨isX_plain h3, any_false K h4⟩
    exact PE.imp (pe_meth (ho _ h2) cl2 me2 F1 K.room hb2 .nil K.pass (ha _ h3) (star_of h4.1) h4.2 (call_form K h1 hl hn (all_plain K h3))) go
theorem x_attr {cl f : String} {a : PX} {e : Expr} (o : AttrF C.G cl f) (ho : PEs C X a) (h : isX X.N X.env.scope (.attr cl a f) e = true) : PE X e (rE C (.attr cl a f)) := by
  obtain ⟨x, pos, rfl, h1, h2⟩ := attr_shape h
  obtain ⟨Ca, hm, cl', na⟩ := o.ex
  have look : ∀ {F : Hp} {vs : List (Str × V)} {fs : List (String × D)} {d : D}, RpF C.G F vs fs → lookF f fs = some d → ∃ v, vs.lookup (Str.ofString f) = some v ∧ Rp C.G F v d := fun {F vs fs d} r hl => by
    rcases lookF_rp f r with ⟨v, d', e1, e2, e3⟩ | ⟨_, e2⟩
    · rw [hl] at e2; cases e2; exact ⟨v, e1, e3⟩
    · rw [hl] at e2; cases e2
  refine PE.imp (pe_fld (ho _ h2) (base_of h1 _ _)) fun σ H Q ⟨σd, M, R, F, Qd, s, q, w⟩ => ?_
  refine ⟨σd, M, R, F, _, s, q, fun d M1 v F1 H1 q1 e1 g1 r1 => ?_⟩
  split at q1
  · rename_i c fs ei
    obtain ⟨rfl, q1⟩ := q1
    obtain ⟨b, C', dx, vs, rfl, hH, hc, rf⟩ := asI_rp g1 r1 ei
    rw [hm] at hc
    cases hc
    split at q1
    · rename_i d2 el
      obtain ⟨v2, e3, r3⟩ := look rf el
      exact ⟨b, Ca, dx, vs, v2, rfl, hH, by rw [K.g.K]; exact cl', by rw [K.g.K]; exact na, e3, w _ _ _ F1 H1 q1 e1 g1 r3⟩
    · exact q1.elim
  · exact q1.elim
theorem x_bi {b : Bi} {es : PXs} {e : Expr} (ok : biB b = true) (o : noB C.G (biName b)) (ha : PAs C X es) (h : isX X.N X.env.scope (.bi b es) e = true) : PE X e (rE C (.bi b es)) := by
  obtain ⟨p, x, xs, pos, rfl, hg, h2⟩ := bi_call_shape h
  obtain ⟨g1, g2⟩ := gl_of hg
  have hm : X.mg (Str.ofString (biName b)) = none := by rw [K.g.mg]; exact o
  have h3 : plainB x = true ∧ (backTo pos (starEach xs X.env)).any (·.1) = false := by
    cases es with
    | nil => exact absurd h2 Bool.false_ne_true
    | cons q qs =>
      obtain ⟨h3, h4⟩ := and_of (show (isX X.N X.env.scope q x && isXs X.N X.env.scope qs xs) = true from h2)
      exact ⟨isX_plain h3, any_false K h4⟩
  have go1 : ∀ (w1 : D → Store → DK → Prop), (∀ d M Q, wB1 b d M Q → w1 d M Q) → (∀ d e M Q, ¬ wB2 b d e M Q) → ∀ σ H Q, rE C (.bi b es) σ H Q → tCB (r1D C.G w1) (rEs C es) σ H Q := fun w1 i1 i2 σ H Q ⟨σd, M, R, F, Qd, s, q, w⟩ => by
    refine ⟨σd, M, R, F, _, s, q, fun ds M1 vs F1 H1 hn q1 e1 g1 r1 => ?_⟩
    match ds, r1, q1 with
    | [d], r1, q1 =>
      cases r1 with
      | cons r rn =>
        cases rn
        exact ⟨_, d, F1, M1, R, Qd, rfl, g1, r, i1 _ _ _ q1, w.mono e1⟩
    | [d, d2], _, q1 => exact absurd q1 (i2 _ _ _ _)
    | [], _, q1 => exact q1.elim
    | _ :: _ :: _ :: _, _, q1 => exact q1.elim
  have go2 : ∀ (w1 : D → D → Store → DK → Prop), (∀ d e M Q, wB2 b d e M Q → w1 d e M Q) → (∀ d M Q, ¬ wB1 b d M Q) → ∀ σ H Q, rE C (.bi b es) σ H Q → tCB (r2D C.G w1) (rEs C es) σ H Q := fun w1 i1 i2 σ H Q ⟨σd, M, R, F, Qd, s, q, w⟩ => by
    refine ⟨σd, M, R, F, _, s, q, fun ds M1 vs F1 H1 hn q1 e1 g1 r1 => ?_⟩
    match ds, r1, q1 with
    | [d], _, q1 => exact absurd q1 (i2 _ _ _)
    | [d, d2], r1, q1 =>
      cases r1 with
      | cons r rn =>
        cases rn with
        | cons r' rn =>
          cases rn
          exact ⟨_, _, d, d2, F1, M1, R, Qd, rfl, g1, r, r', i1 _ _ _ _ q1, w.mono e1⟩
    | [], _, q1 => exact q1.elim
    | _ :: _ :: _ :: _, _, q1 => exact q1.elim
  have A := ha _ h2
  have S := star_of (es := xs) (env := X.env) h3.1
  cases b
  case len => exact PE.imp (pe_callB (b_len K.g) g1 hm PySem.boot_len A (by decide) g2 S h3.2) (go1 _ (fun _ _ _ h => h) fun _ _ _ _ h => h)
  case abs => exact PE.imp (pe_callB (b_abs K.g) g1 hm boot_abs A (by decide) g2 S h3.2) (go1 _ (fun _ _ _ h => h) fun _ _ _ _ h => h)
  case min2 => exact PE.imp (pe_callB (b_min2 K.g) g1 hm (by decide +kernel) A (by decide) g2 S h3.2) (go2 _ (fun _ _ _ _ h => h) fun _ _ _ h => h)
  case max2 => exact PE.imp (pe_callB (b_max2 K.g) g1 hm (by decide +kernel) A (by decide) g2 S h3.2) (go2 _ (fun _ _ _ _ h => h) fun _ _ _ h => h)
  case int => exact PE.imp (pe_callTy (b_int K.g) g1 hm (by decide +kernel) A (by decide) g2 S h3.2) (go1 _ (fun _ _ _ h => h) fun _ _ _ _ h => h)
  case list => exact PE.imp (pe_callTy (b_list K.g) g1 hm (by decide +kernel) A (by decide) g2 S h3.2) (go1 _ (fun _ _ _ h => h) fun _ _ _ _ h => h)
  case tuple => exact PE.imp (pe_callTy (b_tuple K.g) g1 hm (by decide +kernel) A (by decide) g2 S h3.2) (go1 _ (fun _ _ _ h => h) fun _ _ _ _ h => h)
  case range1 => exact PE.imp (pe_callTy (b_range1 K.g) g1 hm (by decide +kernel) A (by decide) g2 S h3.2) (go1 _ (fun _ _ _ h => h) fun _ _ _ _ h => h)
  case range2 => exact PE.imp (pe_callTy (b_range2 K.g) g1 hm (by decide +kernel) A (by decide) g2 S h3.2) (go2 _ (fun _ _ _ _ h => h) fun _ _ _ h => h)
  case sum => exact PE.imp (pe_callB (b_sum K.g) g1 hm (by decide +kernel) A (by decide) g2 S h3.2) (go1 _ (fun _ _ _ h => h) fun _ _ _ _ h => h)
  case any => exact PE.imp (pe_callB (b_any K.g) g1 hm (by decide +kernel) A (by decide) g2 S h3.2) (go1 _ (fun _ _ _ h => h) fun _ _ _ _ h => h)
  case all => exact PE.imp (pe_callB (b_all K.g) g1 hm (by decide +kernel) A (by decide) g2 S h3.2) (go1 _ (fun _ _ _ h => h) fun _ _ _ _ h => h)
  case min1 => exact PE.imp (pe_callB (b_min1 K.g) g1 hm (by decide +kernel) A (by decide) g2 S h3.2) (go1 _ (fun _ _ _ h => h) fun _ _ _ _ h => h)
  case max1 => exact PE.imp (pe_callB (b_max1 K.g) g1 hm (by decide +kernel) A (by decide) g2 S h3.2) (go1 _ (fun _ _ _ h => h) fun _ _ _ _ h => h)
  case sorted => exact PE.imp (pe_callB (b_sorted K.g) g1 hm (by decide +kernel) A (by decide) g2 S h3.2) (go1 _ (fun _ _ _ h => h) fun _ _ _ _ h => h)
  case listD => exact PE.imp (pe_callTy (b_listD K.g) g1 hm (by decide +kernel) A (by decide) g2 S h3.2) (go1 _ (fun _ _ _ h => h) fun _ _ _ _ h => h)
  all_goals exact absurd ok Bool.false_ne_true
theorem one_arg {es : PXs} {xs : List Expr} {x : Expr} (h : isXs X.N X.env.scope es (x :: xs) = true) : plainB x = true ∧ ∀ pos, (backTo pos (starEach xs X.env)).any (·.1) = false := by
  cases es with
  | nil => exact absurd h Bool.false_ne_true
  | cons q qs =>
    obtain ⟨h3, h4⟩ := and_of (show (isX X.N X.env.scope q x && isXs X.N X.env.scope qs xs) = true from h)
    exact ⟨isX_plain h3, fun pos => any_false K h4⟩
theorem few_of {es : PXs} {xs : List Expr} {pos : Pos} (h : isXs X.N X.env.scope es xs = true) (hn : xs.length < 28) :
    ((backTo pos (starEach xs X.env)).all (fun x => !x.1) && (backToKw pos (keywordEach [] X.env)).all (fun x => x.1.isSome)
      && decide (xs.length + ([] : List Keyword).length + (if ([] : List Keyword).isEmpty then 0 else 1) < 30)) = true := by
  rw [all_plain K h]
  show (true && true && decide (xs.length + 0 + (if ([] : List Keyword).isEmpty = true then 0 else 1) < 30)) = true
  simp
  omega
theorem x_mth {m : Mt} {a : PX} {es : PXs} {e : Expr} (ho : PEs C X a) (ha : PAs C X es) (h : isX X.N X.env.scope (.mth m a es) e = true) : PE X e (rE C (.mth m a es)) := by
  obtain ⟨x, apos, xs, pos, rfl, hl, h1, h2, h3, h4⟩ := mth_shape h
  have go : ∀ T, (∀ (d : D) (M : Store) (R F H : Hp) (v : V), Good C.G R F H M → Rp C.G F v d → mtTy m d M = true → tyV X.K T v H) →
      ∀ σ H Q, rE C (.mth m a es) σ H Q → tBM X.K T (fun x vs H Q => ∃ dx ds F M R Qd, Good C.G R F H M ∧ Rp C.G F x dx ∧ RpL C.G F vs ds ∧ wMt m dx ds M Qd ∧ Wish C.G R F Qd Q) (rE C a) (rEs C es) σ H Q :=
    fun T ty σ H Q ⟨σd, M, R, F, Qd, s, q, w⟩ => by
      refine ⟨σd, M, R, F, _, s, q, fun d M1 v F1 H1 q1 e1 g1 r1 => ⟨ty d M1 R F1 H1 v g1 r1 q1.1, σd, M1, R, F1, _, s.step e1 g1, q1.2, fun ds M2 us F2 H2 hn q2 e2 g2 r2 => ?_⟩⟩
      exact ⟨d, ds, F2, M2, R, Qd, g2, r1.mono e2, r2, q2, w.mono (e1.trans e2)⟩
  have tl : ∀ (d : D) (M : Store) (R F H : Hp) (v : V), Good C.G R F H M → Rp C.G F v d → (asL M d).isSome = true → tyV X.K "list" v H := fun d M R F H v g r h => ty_list K.g g r h
  have td : ∀ (d : D) (M : Store) (R F H : Hp) (v : V), Good C.G R F H M → Rp C.G F v d → (asD M d).isSome = true → tyV X.K "dict" v H := fun d M R F H v g r h => ty_dict K.g g r h
  cases m
  case append =>
    match xs, h4, h3 with
    | [y], _, h3 =>
      obtain ⟨p1, p2⟩ := one_arg K h3
      exact PE.imp (pe_bm PySem.F.plainAttrs_list PySem.F.slot_list_append PySem.F.type_list_append (m_append K.g) (ho _ h2) (ha _ h3) (base_of h1 _ _) (few_of K h3 (by simp)) hl (star_of p1) (p2 _)) (go "list" tl)
  case extend =>
    match xs, h4, h3 with
    | [y], _, h3 =>
      obtain ⟨p1, p2⟩ := one_arg K h3
      exact PE.imp (pe_bm PySem.F.plainAttrs_list PySem.F.slot_list_extend PySem.F.type_list_extend (m_extend K.g) (ho _ h2) (ha _ h3) (base_of h1 _ _) (few_of K h3 (by simp)) hl (star_of p1) (p2 _)) (go "list" tl)
  case index =>
    match xs, h4, h3 with
    | [y], _, h3 =>
      obtain ⟨p1, p2⟩ := one_arg K h3
      exact PE.imp (pe_bm PySem.F.plainAttrs_list PySem.F.slot_list_index PySem.F.type_list_index (m_index K.g) (ho _ h2) (ha _ h3) (base_of h1 _ _) (few_of K h3 (by simp)) hl (star_of p1) (p2 _)) (go "list" tl)
  case get1 =>
    match xs, h4, h3 with
    | [y], _, h3 =>
      obtain ⟨p1, p2⟩ := one_arg K h3
      exact PE.imp (pe_bm PySem.F.plainAttrs_dict PySem.F.slot_dict_get PySem.F.type_dict_get (m_get1 K.g) (ho _ h2) (ha _ h3) (base_of h1 _ _) (few_of K h3 (by simp)) hl (star_of p1) (p2 _)) (go "dict" td)
  case get2 =>
    match xs, h4, h3 with
    | [y, z], _, h3 =>
      obtain ⟨p1, p2⟩ := one_arg K h3
      exact PE.imp (pe_bm PySem.F.plainAttrs_dict PySem.F.slot_dict_get PySem.F.type_dict_get (m_get2 K.g) (ho _ h2) (ha _ h3) (base_of h1 _ _) (few_of K h3 (by simp)) hl (star_of p1) (p2 _)) (go "dict" td)
  case pop =>
    match xs, h4, h3 with
    | [], _, h3 =>
      have hes : es = .nil := by
        cases es with
        | nil => rfl
        | cons _ _ => exact absurd h3 Bool.false_ne_true
      subst hes
      refine PE.imp (pe_bm0 PySem.F.plainAttrs_list PySem.F.slot_list_pop PySem.F.type_list_pop (m_pop K.g) (ho _ h2) (base_of h1 _ _) hl) fun σ H Q q => ?_
      obtain ⟨σd, M, R, F, Qd, s, q, w⟩ := go "list" tl σ H Q q
      refine ⟨σd, M, R, F, Qd, s, q, fun d M1 v F1 H1 q1 e1 g1 r1 => ?_⟩
      obtain ⟨t1, σd', M', R', F', Qd', s', q', w'⟩ := w d M1 v F1 H1 q1 e1 g1 r1
      exact ⟨t1, w' [] M' [] F' H1 rfl q' (Ex.refl F') s'.good .nil⟩
theorem cls_pe {y : String} {z : Expr} (o1 : noB C.G y) (o2 : y ∈ fiveTys) (hz : isBi X.env.scope y z = true) : PE X z (tC (.ty y)) ∧ plainB z = true := by
  obtain ⟨p, rfl, hg⟩ := bi_shape hz
  obtain ⟨g1, g2⟩ := gl_of hg
  exact ⟨pe_bltn g1 (by rw [K.g.mg]; exact o1) (boot_five o2).1 rfl (boot_five o2).2 g2, rfl⟩
theorem x_isi {a : PX} {t : String} {e : Expr} (o : noB C.G "isinstance") (o1 : noB C.G t) (o2 : t ∈ fiveTys) (ho : PEs C X a) (h : isX X.N X.env.scope (.isi a t) e = true) : PE X e (rE C (.isi a t)) := by
  obtain ⟨p, x, z, pos, rfl, hg, h1, h2⟩ := isi_shape h
  obtain ⟨g1, g2⟩ := gl_of hg
  have hm : X.mg (Str.ofString "isinstance") = none := by rw [K.g.mg]; exact o
  obtain ⟨c1, c2⟩ := cls_pe K o1 o2 h2
  have S2 : starEach [z] X.env = (false, eval z X.env) :: starEach [] X.env := star_of c2
  refine PE.imp (pe_callB call_isi g1 hm boot_isinstance (pa_cons (ho _ h1) (pa_cons c1 pa_nil S2) (star_of (isX_plain h1))) (by decide) g2 (star_of (isX_plain h1)) (by rw [S2]; rfl)) fun σ H Q ⟨σd, M, R, F, Qd, s, q, w⟩ => ?_
  refine ⟨σd, M, R, F, _, s, q, fun d M1 v F1 H1 q1 e1 g1 r1 => ?_⟩
  split at q1
  · rename_i b eb
    obtain ⟨hk, ty⟩ := ty_kind K.g g1 r1 eb
    exact ⟨v, .ty t, _, _, b, rfl, .ty t, ty, kit_ty hk, w _ _ _ F1 H1 q1 e1 g1 (.bl _)⟩
  · exact q1.elim
theorem x_isi2 {a : PX} {t u : String} {e : Expr} (o : noB C.G "isinstance") (o1 : noB C.G t) (o2 : t ∈ fiveTys) (o3 : noB C.G u) (o4 : u ∈ fiveTys) (ho : PEs C X a) (h : isX X.N X.env.scope (.isi2 a t u) e = true) : PE X e (rE C (.isi2 a t u)) := by
  obtain ⟨p, x, z, y, j, tp, pos, rfl, hg, h1, h2, h3⟩ := isi2_shape h
  obtain ⟨g1, g2⟩ := gl_of hg
  have hm : X.mg (Str.ofString "isinstance") = none := by rw [K.g.mg]; exact o
  obtain ⟨c1, c2⟩ := cls_pe K o1 o2 h2
  obtain ⟨c3, c4⟩ := cls_pe K o3 o4 h3
  have S4 : starEach [y] X.env = (false, eval y X.env) :: starEach [] X.env := star_of c4
  refine PE.imp (pe_callB call_isiT g1 hm boot_isinstance (pa_cons (ho _ h1) (pa_cons (pe_tup (pa_cons c1 (pa_cons c3 pa_nil S4) (star_of c2))) pa_nil rfl) (star_of (isX_plain h1))) (by decide) g2 (star_of (isX_plain h1)) rfl) fun σ H Q ⟨σd, M, R, F, Qd, s, q, w⟩ => ?_
  refine ⟨σd, M, R, F, _, s, q, fun d M1 v F1 H1 q1 e1 g1 r1 => ?_⟩
  split at q1
  · rename_i b b' eb eb'
    refine ⟨by show 2 ≤ sizeLine; rw [line_eq]; decide, fun p hp => ?_⟩
    obtain ⟨g2, e2⟩ := g1.new (o := .tup [.ty t, .ty u]) hp
    have r2 := r1.mono e2
    obtain ⟨hk, ty⟩ := ty_kind K.g g2 r2 eb
    obtain ⟨hk', _⟩ := ty_kind K.g g2 r2 eb'
    refine ⟨v, p, [.ty t, .ty u], _, [.type t, .type u], b || b', rfl, upd_same, .cons (.ty t) (.cons (.ty u) .nil), ty, ?_, w _ _ _ _ _ q1 (e1.trans e2) g2 (.bl _)⟩
    refine kitAny_cons (kit_ty hk) (fun hb => ?_) (fun hb => by rw [hb]; rfl)
    rw [hb]
    exact kitAny_cons (kit_ty hk') (fun hb' => by rw [hb']; exact kitAny_nil) (fun hb' => by rw [hb']; rfl)
  · exact q1.elim
end
end VS

/-! VS, part 10: targets, comprehensions, what is walked; every expression. -/
namespace VS
open PySem PySem.Spec PyProof.Rows L2
theorem any_rd0 {G : Glob} {F : Hp} {kd : D} {k : Key} (hk : keyOf kd = some k) : ∀ {vs : List (Key × V)} {ds : List (D × D)}, RpD G F vs ds → (vs.any fun kv => decide (kv.1 = k)) = ds.any fun e => decide (keyOf e.1 = keyOf kd)
  | _, _, .nil => rfl
  | _, _, .cons h1 _ rs => by
    rw [List.any_cons, List.any_cons, any_rd0 hk rs, h1, hk]
    congr 1
    exact decide_eq_decide.mpr ⟨fun e => congrArg some e, fun e => Option.some.inj e⟩
theorem app_rd0 {G : Glob} {F : Hp} {kd d : D} {k : Key} {v : V} (hk : keyOf kd = some k) (r : Rp G F v d) : ∀ {vs : List (Key × V)} {ds : List (D × D)}, RpD G F vs ds → RpD G F (vs ++ [(k, v)]) (ds ++ [(kd, d)])
  | _, _, .nil => .cons hk r .nil
  | _, _, .cons h1 r1 rs => .cons h1 r1 (app_rd0 hk r rs)
theorem map_rd0 {G : Glob} {F : Hp} {kd d : D} {k : Key} {v : V} (hk : keyOf kd = some k) (r : Rp G F v d) : ∀ {vs : List (Key × V)} {ds : List (D × D)}, RpD G F vs ds → RpD G F (vs.map fun kv => if kv.1 = k then (kv.1, v) else kv) (ds.map fun e => if keyOf e.1 = keyOf kd then (e.1, d) else e)
  | _, _, .nil => .nil
  | _, _, .cons (k := k') (kd := kd') h1 r1 rs => by
    rw [List.map_cons, List.map_cons]
    by_cases e : k' = k
    · have e2 : keyOf kd' = keyOf kd := by rw [h1, hk, e]
      rw [if_pos (show (k', _).1 = k from e), if_pos (show keyOf (kd', _).1 = keyOf kd from e2)]
      exact .cons h1 r (map_rd0 hk r rs)
    · have e2 : ¬ keyOf kd' = keyOf kd := by rw [h1, hk]; exact fun z => e (Option.some.inj z)
      rw [if_neg (show ¬ (k', _).1 = k from e), if_neg (show ¬ keyOf (kd', _).1 = keyOf kd from e2)]
      exact .cons h1 r1 (map_rd0 hk r rs)
theorem put_rd0 {G : Glob} {F : Hp} {kd d : D} {k : Key} {v : V} (hk : keyOf kd = some k) (r : Rp G F v d) {vs : List (Key × V)} {ds : List (D × D)} (rd : RpD G F vs ds) : RpD G F (putK vs k v) (putD kd d ds) := by
  unfold putK putD
  rw [any_rd0 hk rd]
  split
  · exact map_rd0 hk r rd
  · exact app_rd0 hk r rd
def Tgs.len : Tgs → Nat
  | .nil => 0 | .cons _ ts => ts.len + 1
mutual
def tgRd (K : PySem.W.Frag) : Tg → TG
  | .nm i => gName i
  | .tp ts => gTup K ts.len (tgsRd K ts)
def tgsRd (K : PySem.W.Frag) : Tgs → TGs
  | .nil => gNil
  | .cons t ts => gCons (tgRd K t) (tgsRd K ts)
end
theorem wipe_set {σ : L2.St} {i : Nat} {x : V} : ∀ {vs : List Nat}, i ∈ vs → L2.wipe (σ.set i (some x)) vs = L2.wipe σ vs
  | v :: vs, h => by
    unfold L2.wipe
    by_cases e : i ∈ vs
    · rw [wipe_set e]
    · have ev : i = v := by
        rcases List.mem_cons.mp h with z | z
        · exact z
        · exact absurd z e
      subst ev
      have : ∀ (us : List Nat), i ∉ us → L2.wipe (σ.set i (some x)) us = (L2.wipe σ us).set i (some x) := fun us hu => by
        induction us with
        | nil => rfl
        | cons u us ih =>
          simp only [List.mem_cons, not_or] at hu
          unfold L2.wipe
          rw [ih hu.2, List.set_comm _ _ hu.1]
      rw [this vs e, List.set_set]
theorem rp_tup {G : Glob} {F : Hp} {v : V} {ds : List D} (r : Rp G F v (.tup ds)) : ∃ a vs, v = .ref a ∧ SqT G.K F a vs ∧ RpL G F vs ds := by
  cases r with
  | tup ha rl => exact ⟨_, _, rfl, ha, rl⟩
theorem rl_cons {G : Glob} {F : Hp} {vs : List V} {d : D} {ds : List D} (r : RpL G F vs (d :: ds)) : ∃ u us, vs = u :: us ∧ Rp G F u d ∧ RpL G F us ds := by
  cases r with
  | cons r rl => exact ⟨_, _, rfl, r, rl⟩
theorem wipe_wipe (σ : L2.St) : ∀ vs : List Nat, L2.wipe (L2.wipe σ vs) vs = L2.wipe σ vs := fun vs => by
  have key : ∀ (us : List Nat) (τ : L2.St), (∀ u ∈ us, u < τ.length → τ[u]? = some none) → L2.wipe τ us = τ := fun us τ h => by
    induction us with
    | nil => rfl
    | cons u us ih =>
      unfold L2.wipe
      rw [ih fun w hw => h w (List.mem_cons_of_mem _ hw)]
      by_cases hu : u < τ.length
      · have e := h u List.mem_cons_self hu
        have e2 : τ[u] = none := by
          rw [List.getElem?_eq_getElem hu] at e
          exact Option.some.inj e
        rw [← e2, List.set_getElem_self]
      · exact List.set_eq_of_length_le (by omega)
  refine key vs _ fun u hu hl => ?_
  cases q : (L2.wipe σ vs)[u]? with
  | none =>
    rw [List.getElem?_eq_getElem hl] at q
    cases q
  | some o =>
    cases o with
    | none => rfl
    | some x => exact absurd hu (wipe_some q).2
mutual
theorem gTg_ex : ∀ (t : Tg) {d : D} {σ : Env} {P : Env → Prop}, gTg t d σ P → ∃ σ', P σ'
  | .nm i, d, σ, P, h => ⟨_, h⟩
  | .tp ts, d, σ, P, h => by
    cases d with
    | tup ds => exact gTgs_ex ts (show gTgs ts ds σ P from h)
    | _ => exact (show False from h).elim
theorem gTgs_ex : ∀ (t : Tgs) {d : List D} {σ : Env} {P : Env → Prop}, gTgs t d σ P → ∃ σ', P σ'
  | .nil, d, σ, P, h => by
    cases d with
    | nil => exact ⟨σ, h⟩
    | cons _ _ => exact (show False from h).elim
  | .cons t ts, d, σ, P, h => by
    cases d with
    | nil => exact (show False from h).elim
    | cons d ds =>
      obtain ⟨σ', h'⟩ := gTg_ex t (show gTg t d σ (fun σ' => gTgs ts ds σ' P) from h)
      exact gTgs_ex ts h'
end
theorem gTgs_len : ∀ (t : Tgs) {d : List D} {σd : Env} {Q : Env → Prop}, gTgs t d σd Q → d.length = t.len
  | .nil, d, σ, P, h => by
    cases d with
    | nil => rfl
    | cons _ _ => exact (show False from h).elim
  | .cons t ts, d, σ, P, h => by
    cases d with
    | nil => exact (show False from h).elim
    | cons d ds =>
      obtain ⟨σ', h'⟩ := gTg_ex t (show gTg t d σ (fun σ' => gTgs ts ds σ' P) from h)
      exact congrArg (· + 1) (gTgs_len ts h')
mutual
theorem tg_mono {K : PySem.W.Frag} : ∀ (t : Tg) {v : V} {σ : L2.St} {H : Hp} {Q Q' : L2.St → Hp → Prop}, tgRd K t v σ H Q → (∀ σ H, Q σ H → Q' σ H) → tgRd K t v σ H Q'
  | .nm i, v, σ, H, Q, Q', h, i' => i' _ _ h
  | .tp ts, v, σ, H, Q, Q', h, i' => by
    obtain ⟨a, xs, e1, e2, e3, e4⟩ := h
    exact ⟨a, xs, e1, e2, e3, tgs_mono ts e4 i'⟩
theorem tgs_mono {K : PySem.W.Frag} : ∀ (t : Tgs) {v : List V} {σ : L2.St} {H : Hp} {Q Q' : L2.St → Hp → Prop}, tgsRd K t v σ H Q → (∀ σ H, Q σ H → Q' σ H) → tgsRd K t v σ H Q'
  | .nil, v, σ, H, Q, Q', h, i' => ⟨h.1, i' _ _ h.2⟩
  | .cons t ts, v, σ, H, Q, Q', h, i' => by
    obtain ⟨x, r, e1, e2⟩ := h
    exact ⟨x, r, e1, tg_mono t e2 fun σ H q => tgs_mono ts q i'⟩
end
mutual
theorem tg_sem {G : Glob} {R F H : Hp} {M : Store} {K : PySem.W.Frag} (hK : K = G.K) (g : Good G R F H M) : ∀ (t : Tg) {d : D} {v : V} {σd : Env} {σ : L2.St} {Q : Env → Prop}, Rp G F v d → EnvR G F σd σ → gTg t d σd Q →
    tgRd K t v σ H (fun σ' H' => H' = H ∧ (∀ vs, tgIn vs t = true → L2.wipe σ' vs = L2.wipe σ vs) ∧ ∃ σd', EnvR G F σd' σ' ∧ Q σd')
  | .nm i, d, v, σd, σ, Q, r, e, h => ⟨rfl, fun vs hv => wipe_set (of_decide_eq_true hv), _, e.set i r, h⟩
  | .tp ts, d, v, σd, σ, Q, r, e, h => by
    cases d with
    | tup ds =>
      obtain ⟨a, vs, rfl, ha, rl⟩ := rp_tup r
      have h' : gTgs ts ds σd Q := h
      refine ⟨a, vs, rfl, by rw [hK]; exact g.ex.t ha, ?_, tgs_sem hK g ts rl e h'⟩
      rw [rl.length]
      exact gTgs_len ts h'
    | _ => exact (show False from h).elim
theorem tgs_sem {G : Glob} {R F H : Hp} {M : Store} {K : PySem.W.Frag} (hK : K = G.K) (g : Good G R F H M) : ∀ (t : Tgs) {d : List D} {v : List V} {σd : Env} {σ : L2.St} {Q : Env → Prop}, RpL G F v d → EnvR G F σd σ → gTgs t d σd Q →
    tgsRd K t v σ H (fun σ' H' => H' = H ∧ (∀ vs, tgsIn vs t = true → L2.wipe σ' vs = L2.wipe σ vs) ∧ ∃ σd', EnvR G F σd' σ' ∧ Q σd')
  | .nil, d, v, σd, σ, Q, r, e, h => by
    cases d with
    | nil =>
      cases r
      exact ⟨rfl, rfl, fun _ _ => rfl, σd, e, h⟩
    | cons _ _ => exact (show False from h).elim
  | .cons t ts, d, v, σd, σ, Q, r, e, h => by
    cases d with
    | nil => exact (show False from h).elim
    | cons d ds =>
      obtain ⟨v, vs, rfl, r, rl⟩ := rl_cons r
      · refine ⟨v, vs, rfl, ?_⟩
        have h' : gTg t d σd (fun σ' => gTgs ts ds σ' Q) := h
        have k := tg_sem hK g t (v := v) r e h'
        refine tg_mono t k ?_
        intro σ' H' ⟨e1, e2, σd', e3, e4⟩
        subst e1
        refine tgs_mono ts (tgs_sem hK g ts rl e3 e4) ?_
        intro σ2 H2 ⟨f1, f2, σd2, f3, f4⟩
        refine ⟨f1, fun us hu => ?_, σd2, f3, f4⟩
        obtain ⟨u1, u2⟩ := and_of (show (tgIn us t && tgsIn us ts) = true from hu)
        rw [f2 us u2, e2 us u1]
end
/-! ### what matches a target -/
section
variable {X : Cx}
theorem assign_star {N : List Str} {sc : Scope} {fnb : Str → Bool} {t : Tg} {e : Expr} (h : isTg N sc fnb t e = true) (es : List Expr) (env : PySem.Env) : assignEach (e :: es) env = (false, assign e env) :: assignEach es env := by
  cases e <;> first
    | rfl
    | (exfalso; cases t <;> exact absurd h Bool.false_ne_true)
theorem assign_all {N : List Str} {sc : Scope} {fnb : Str → Bool} : ∀ {ts : Tgs} {es : List Expr}, isTgs N sc fnb ts es = true → ∀ env, (assignEach es env).length = ts.len ∧ (assignEach es env).findIdx? (·.1) = none
  | .nil, es, h, env => by
    cases es with
    | nil => exact ⟨rfl, rfl⟩
    | cons _ _ => exact absurd h Bool.false_ne_true
  | .cons t ts, es, h, env => by
    cases es with
    | nil => exact absurd h Bool.false_ne_true
    | cons e es =>
      obtain ⟨h1, h2⟩ := and_of (show (isTg N sc fnb t e && isTgs N sc fnb ts es) = true from h)
      obtain ⟨i1, i2⟩ := assign_all h2 env
      rw [assign_star h1]
      refine ⟨congrArg (· + 1) i1, ?_⟩
      rw [List.findIdx?_cons, i2]
      rfl
mutual
theorem tg_pg (hc : X.calm = true) (hN : X.N.Nodup) {fnb : Str → Bool} (hf : ∀ x, fnb x = true → X.fn x = true) : ∀ (t : Tg) {e : Expr}, isTg X.N X.env.scope fnb t e = true → PG X e (tgRd X.K t)
  | .nm i, e, h => by
    cases e <;> first | (exact absurd h Bool.false_ne_true) | skip
    rename_i x pos
    obtain ⟨h1, h2⟩ := and_of (show (decide (X.N[i]? = some x) && (match X.env.scope.names.lookup x with | some .local => true | some .cell => fnb x | _ => false)) = true from h)
    have h1 := of_decide_eq_true h1
    split at h2
    · rename_i e1
      exact pg_name hN h1 (.inl e1) (.inr e1)
    · rename_i e1
      exact pg_name hN h1 (.inr e1) (.inl (hf x h2))
    · cases h2
  | .tp ts, e, h => by
    cases e <;> first | (exact absurd h Bool.false_ne_true) | skip
    rename_i es k pos
    have h' : isTgs X.N X.env.scope fnb ts es = true := h
    obtain ⟨a1, a2⟩ := assign_all h' X.env
    exact pg_tup hc (tgs_pg hc hN hf ts h') a1 a2
theorem tgs_pg (hc : X.calm = true) (hN : X.N.Nodup) {fnb : Str → Bool} (hf : ∀ x, fnb x = true → X.fn x = true) : ∀ (t : Tgs) {e : List Expr}, isTgs X.N X.env.scope fnb t e = true → PGs X e (tgsRd X.K t)
  | .nil, es, h => by
    cases es with
    | nil => exact pgs_nil
    | cons _ _ => exact absurd h Bool.false_ne_true
  | .cons t ts, es, h => by
    cases es with
    | nil => exact absurd h Bool.false_ne_true
    | cons e es =>
      obtain ⟨h1, h2⟩ := and_of (show (isTg X.N X.env.scope fnb t e && isTgs X.N X.env.scope fnb ts es) = true from h)
      exact pgs_cons (tg_pg hc hN hf t h1) (tgs_pg hc hN hf ts h2) (by rw [assign_star h1]; rfl)
end
end
/-! ### iterables -/
section
variable {C : Cq} {X : Cx} (K : Ctx C X)
include K
abbrev PIs (C : Cq) (X : Cx) (t : PIt) : Prop := ∀ tg e, isIt X.N X.env.scope t e = true → PI X tg e (rI C t)
theorem i_ex {a : PX} (ha : PEs C X a) : PIs C X (.ex a) := fun tg e h => by
  refine ⟨fun pins s σ H Q I hw => ?_⟩
  obtain ⟨σd, M, R, F, Qd, sr, q, w⟩ := hw
  refine thn ((ha e h).run pins s σ H (fun v H1 => ∃ d M1 F1, Ex F F1 ∧ Good C.G R F1 H1 M1 ∧ Rp C.G F1 v d ∧ itD d M1 fun xs g => Qd xs g M1) I ⟨σd, M, R, F, _, sr, q, fun d M1 v F1 H1 q1 e1 g1 r1 => ⟨d, M1, F1, e1, g1, r1, q1⟩⟩) fun u s1 ⟨v, H1, I1, rv, d, M1, F1, e1, g1, r1, q1⟩ => ?_
  exact iter_D K.g I1 rv g1 r1 q1 fun xs g J q2 wk hl => w xs g M1 F1 H1 J q2 e1 g1 wk hl
theorem fold_of {t : PIt} {e : Expr} (h : isIt X.N X.env.scope t e = true) (env : PySem.Env) : ∀ x, foldedSetIterable e env x = pure x := by
  intro x
  cases e <;> first
    | rfl
    | (exfalso
       cases t <;> first
         | (exact absurd h Bool.false_ne_true)
         | (rename_i p; cases p <;> exact absurd h Bool.false_ne_true))
theorem i_rng1 {a : PX} (o : noB C.G "range") (ha : PEs C X a) : PIs C X (.rng1 a) := fun tg e h => by
  cases e <;> first | (exact absurd h Bool.false_ne_true) | skip
  rename_i fn xs kws pos
  match xs, kws, h with
  | [], _, h => exact absurd h Bool.false_ne_true
  | _ :: _ :: _, _, h => exact absurd h Bool.false_ne_true
  | [_], _ :: _, h => exact absurd h Bool.false_ne_true
  | [x], [], h =>
    obtain ⟨h1, h2⟩ := and_of (show (isBi X.env.scope "range" fn && isX X.N X.env.scope a x) = true from h)
    obtain ⟨p, rfl, hg⟩ := bi_shape h1
    obtain ⟨g1, _⟩ := gl_of hg
    have S : starEach [x] X.env = [(false, eval x X.env)] := star_of (es := []) (isX_plain h2)
    refine PI.imp (pi_range1 g1 (by rw [K.g.mg]; exact o) (pa_cons (ha _ h2) pa_nil S) S) fun σ H Q ⟨σd, M, R, F, Qd, s, q, w⟩ => ?_
    refine ⟨σd, M, R, F, _, s, q, fun d M1 v F1 H1 q1 e1 g1 r1 => ?_⟩
    cases d <;> first | exact (show False from q1).elim | skip
    rename_i j
    obtain ⟨⟨b1, b2⟩, b3, q1⟩ := q1
    cases r1
    refine ⟨j, rfl, b1, b2, ?_⟩
    have wk := walks_rng (G := C.G) (F := F1) (g := fun _ => True) 0 j
    rw [Int.sub_zero] at wk
    exact w _ _ _ F1 H1 _ q1 e1 g1 wk (by rw [rngD_len, Int.sub_zero]; exact b3)
theorem i_rng2 {a b : PX} (o : noB C.G "range") (ha : PEs C X a) (hb : PEs C X b) : PIs C X (.rng2 a b) := fun tg e h => by
  cases e <;> first | (exact absurd h Bool.false_ne_true) | skip
  rename_i fn xs kws pos
  match xs, kws, h with
  | [], _, h => exact absurd h Bool.false_ne_true
  | [_], _, h => exact absurd h Bool.false_ne_true
  | _ :: _ :: _ :: _, _, h => exact absurd h Bool.false_ne_true
  | [_, _], _ :: _, h => exact absurd h Bool.false_ne_true
  | [x, y], [], h =>
    obtain ⟨h, h3⟩ := and_of (show (isBi X.env.scope "range" fn && isX X.N X.env.scope a x && isX X.N X.env.scope b y) = true from h)
    obtain ⟨h1, h2⟩ := and_of h
    obtain ⟨p, rfl, hg⟩ := bi_shape h1
    obtain ⟨g1, _⟩ := gl_of hg
    have S2 : starEach [y] X.env = [(false, eval y X.env)] := star_of (es := []) (isX_plain h3)
    have S : starEach [x, y] X.env = [(false, eval x X.env), (false, eval y X.env)] := by rw [star_of (isX_plain h2), S2]
    refine PI.imp (pi_range2 g1 (by rw [K.g.mg]; exact o) (pa_cons (ha _ h2) (pa_cons (hb _ h3) pa_nil S2) (by rw [S, S2])) S S2) fun σ H Q ⟨σd, M, R, F, Qd, s, q, w⟩ => ?_
    refine ⟨σd, M, R, F, _, s, q, fun d M1 v F1 H1 q1 e1 g1 r1 => ?_⟩
    refine ⟨σd, M1, R, F1, _, s.step e1 g1, q1, fun d2 M2 v2 F2 H2 q2 e2 g2 r2 => ?_⟩
    cases d <;> first | exact (show False from q2).elim | skip
    cases d2 <;> first | exact (show False from q2).elim | skip
    rename_i i j
    obtain ⟨bb, b3, q2⟩ := q2
    cases r1; cases r2
    exact ⟨i, j, rfl, bb, w _ _ _ F2 H2 _ q2 (e1.trans e2) g2 (walks_rng i j) (by rw [rngD_len]; exact b3)⟩
theorem walks_rngc {G : Glob} {F : Hp} {g : Store → Prop} (lo c : Int) (n : Nat) : Walks G (Itc lo c n) ((List.range n).map fun (t : Nat) => D.int (lo + (t : Int) * c)) g F := fun i R F' H M e gd gm => by
  refine ⟨fun x hx => ?_, fun hi => by rw [List.length_map, List.length_range] at hi; exact hi⟩
  rw [List.getElem?_map] at hx
  cases q : (List.range n)[i]? with
  | none => rw [q] at hx; cases hx
  | some j =>
    rw [q] at hx
    have hl := (List.getElem?_eq_some_iff.mp q).1
    rw [List.length_range] at hl
    rw [List.getElem?_range hl] at q
    cases q
    cases hx
    refine ⟨hl, fun w H' hy => ?_⟩
    obtain ⟨rfl, rfl⟩ := hy
    exact ⟨F', Ex.refl F', gd, .int _⟩
theorem i_rng3 {a b c : PX} (o : noB C.G "range") (ha : PEs C X a) (hb : PEs C X b) (hc : PEs C X c) : PIs C X (.rng3 a b c) := fun tg e h => by
  cases e <;> first | (exact absurd h Bool.false_ne_true) | skip
  rename_i fn xs kws pos
  match xs, kws, h with
  | [], _, h => exact absurd h Bool.false_ne_true
  | [_], _, h => exact absurd h Bool.false_ne_true
  | [_, _], _, h => exact absurd h Bool.false_ne_true
  | _ :: _ :: _ :: _ :: _, _, h => exact absurd h Bool.false_ne_true
  | [_, _, _], _ :: _, h => exact absurd h Bool.false_ne_true
  | [x, y, z], [], h =>
    obtain ⟨h, h4⟩ := and_of (show (isBi X.env.scope "range" fn && isX X.N X.env.scope a x && isX X.N X.env.scope b y && isX X.N X.env.scope c z) = true from h)
    obtain ⟨h, h3⟩ := and_of h
    obtain ⟨h1, h2⟩ := and_of h
    obtain ⟨p, rfl, hg⟩ := bi_shape h1
    obtain ⟨g1, _⟩ := gl_of hg
    have S1 := star_of (es := [y, z]) (env := X.env) (isX_plain h2)
    have S2 := star_of (es := [z]) (env := X.env) (isX_plain h3)
    have S3 := star_of (es := []) (env := X.env) (isX_plain h4)
    refine PI.imp (pi_range3 g1 (by rw [K.g.mg]; exact o) (pa_cons (ha _ h2) (pa_cons (hb _ h3) (pa_cons (hc _ h4) pa_nil S3) S2) S1) S1 (by rw [S2, S3]; rfl)) fun σ H Q ⟨σd, M, R, F, Qd, s, q, w⟩ => ?_
    refine ⟨σd, M, R, F, _, s, q, fun d M1 v F1 H1 q1 e1 g1 r1 => ?_⟩
    refine ⟨σd, M1, R, F1, _, s.step e1 g1, q1, fun d2 M2 v2 F2 H2 q2 e2 g2 r2 => ?_⟩
    refine ⟨σd, M2, R, F2, _, (s.step e1 g1).step e2 g2, q2, fun d3 M3 v3 F3 H3 q3 e3 g3 r3 => ?_⟩
    cases d <;> first | exact (show False from q3).elim | skip
    cases d2 <;> first | exact (show False from q3).elim | skip
    cases d3 <;> first | exact (show False from q3).elim | skip
    rename_i i j k
    obtain ⟨n, rg, hn, q3⟩ := q3
    cases r1; cases r2; cases r3
    exact ⟨i, j, k, n, rfl, rg, w _ _ _ F3 H3 _ q3 ((e1.trans e2).trans e3) g3 (walks_rngc K i k n) (by rw [List.length_map, List.length_range]; exact hn)⟩
/-! ### comprehensions -/
abbrev PFs (C : Cq) (X : Cx) (t : PIf) : Prop := ∀ es, isIf X.N X.env.scope t es = true → L2.PTs X es (rIf C t)
theorem f_nil : PFs C X .nil := fun es h => by
  cases es with
  | cons _ _ => exact absurd h Bool.false_ne_true
  | nil => exact PTs.imp pts_nil fun σ H Q ⟨σd, M, R, F, Qd, s, q, w⟩ => w true M F H q (Ex.refl F) s.good
theorem f_one {t : PT} (ht : PTt C X t) : PFs C X (.one t) := fun es h => by
  match es, h with
  | [], h => exact absurd h Bool.false_ne_true
  | _ :: _ :: _, h => exact absurd h Bool.false_ne_true
  | [e], h => exact pts_one (ht e h)
theorem blk_ctx (s : Shared) (H : Hp) (scope : Scope) (cl : List (Str × Addr)) (Ca : Addr) (fp : List Addr) : Ctx { C with E := X0 } (X.blk s H scope (compEnvC scope cl Ca X.env) fp) where
  g := ⟨K.g.prog, K.g.w, K.g.K, K.g.mg, K.g.base, K.g.calm, K.g.nd, K.g.un⟩
  room := K.room
  pass := fun _ _ _ _ _ _ _ h => by
    obtain ⟨_, _, _, _, _, _, _, _, _, _, _, _, z⟩ := h
    obtain ⟨_, _, _, _, z, _⟩ := z
    exact z.elim
theorem lcGo_mem {g : Store → Prop} {f : D → Store → (Option D → Store → Prop) → Prop} {xs acc : List D} {M : Store} {Q : DK} (h : lcGo g f xs acc M Q) : g M := by
  cases xs with
  | nil => exact h.1
  | cons _ _ => exact h.1
theorem lc_imp {elt : PX} {own : List (String × Nat)} {tg : Tg} {it : PIt} {cnd : PIf} (h2 : tgIn (own.map (·.2)) tg = true) (σ : L2.St) (H : Hp) (Q : VK) (hh : rE C (.lc elt own tg it cnd) σ H Q) :
    tLc (rI C it) (tgRd X.K tg) (rIf { C with E := X0 } cnd) (rE { C with E := X0 } elt) (own.map (·.2)) σ H Q := by
  obtain ⟨σd, M, R, F, Qd, s, q, w⟩ := hh
  refine ⟨σd, M, R, F, _, s, q, fun xs g M1 F1 H1 J q1 e1 g1 wk hl => ?_⟩
  intro Da hD
  obtain ⟨fm, ff, fr⟩ := g1.fresh hD
  have s1 := s.step e1 g1
  refine ⟨fun i m H' => m = xs.length - i ∧ i ≤ xs.length ∧ ∃ M' F' acc vs, Ex F1 F' ∧ Good C.G (upd R Da (.lst vs)) F' H' M' ∧ RpL C.G F' vs acc ∧ acc.length ≤ i ∧
    lcGo g (fun x M k => gTg tg x (wipeD σd (own.map (·.2))) fun σ' => dIf X0 cnd σ' M fun b M' => match b with | true => dE X0 elt σ' M' fun y M'' => k (some y) M'' | false => k none M') (xs.drop i) acc M' Qd,
    ⟨xs.length, by simp, Nat.zero_le _, M1, F1, [], [], Ex.refl F1, g1.aside hD, .nil, Nat.le_refl _, q1⟩, ?_⟩
  rintro j m H' ⟨rfl, hj, M', F', acc, vs, ex, gd, rl, ha, go⟩
  have gm := lcGo_mem K go
  obtain ⟨w1, w2⟩ := wk j _ F' H' M' ex gd gm
  by_cases hjl : j < xs.length
  · right
    obtain ⟨y, hy⟩ : ∃ y, xs[j]? = some y := ⟨xs[j], List.getElem?_eq_getElem hjl⟩
    have hd : xs.drop j = y :: xs.drop (j + 1) := by
      rw [List.drop_eq_getElem_cons hjl]
      have := (List.getElem?_eq_some_iff.mp hy).2
      rw [this]
    rw [hd] at go
    obtain ⟨w3, w4⟩ := w1 y hy
    refine ⟨w3, fun H2 => ∃ M' F' acc vs, Ex F1 F' ∧ Good C.G (upd R Da (.lst vs)) F' H2 M' ∧ RpL C.G F' vs acc ∧ acc.length ≤ j + 1 ∧
      lcGo g (fun x M k => gTg tg x (wipeD σd (own.map (·.2))) fun σ' => dIf X0 cnd σ' M fun b M' => match b with | true => dE X0 elt σ' M' fun y M'' => k (some y) M'' | false => k none M') (xs.drop (j + 1)) acc M' Qd,
      fun H2 n => ⟨xs.length - (j + 1), by omega, rfl, by omega, n⟩, fun v H2 hyl => ?_⟩
    obtain ⟨F2, ex2, gd2, r2⟩ := w4 v H2 hyl
    have env2 : EnvR C.G F2 (wipeD σd (own.map (·.2))) (L2.wipe σ (own.map (·.2))) := (s1.env.mono (ex.trans ex2)).wipe _
    refine tg_mono tg (tg_sem K.g.K gd2 tg r2 env2 go.2) ?_
    intro σ2 H3 ⟨e3, wp, σd2, env3, q3⟩
    subst e3
    refine ⟨(wp _ h2).trans (wipe_wipe _ _), ?_⟩
    have sr : SR { C with E := X0 } σd2 M' (upd R Da (.lst vs)) F2 σ2 H3 := ⟨.inl rfl, s1.f0.trans (ex.trans ex2), env3, gd2⟩
    refine ⟨σd2, M', _, F2, _, sr, q3, fun b M4 F4 H4 q4 e4 g4 => ?_⟩
    cases b with
    | false =>
      rw [if_neg Bool.false_ne_true]
      exact ⟨M4, F4, acc, vs, (ex.trans ex2).trans e4, g4, (rl.mono (ex2.trans e4)), by omega, q4⟩
    | true =>
      rw [if_pos rfl]
      refine ⟨σd2, M4, _, F4, _, sr.step e4 g4, q4, fun z M5 v5 F5 H5 q5 e5 g5 r5 => ?_⟩
      have rl5 := rl.mono ((ex2.trans e4).trans e5)
      refine ⟨vs, (g5.rs Da _ upd_same).2.2, by rw [rl5.length, line_eq]; omega, M5, F5, acc ++ [z], vs ++ [v5], ((ex.trans ex2).trans e4).trans e5, ?_, rl5.append (.cons r5 .nil), by rw [List.length_append]; show acc.length + 1 ≤ j + 1; omega, q5⟩
      have := g5.aside2 (u := .lst (vs ++ [v5]))
      exact this
  · left
    have hj2 : j = xs.length := by omega
    have hd : xs.drop j = [] := List.drop_eq_nil_of_le (by omega)
    rw [hd] at go
    refine ⟨w2 (by omega), ?_⟩
    rcases go.2 with hq | hq
    · obtain ⟨g3, e3⟩ := gd.back fr
      exact w _ M' _ _ H' hq ((e1.trans ex).trans e3) g3 (.lst upd_same (rl.mono e3))
    · obtain ⟨g3, hn⟩ := gd.backM fr (.lst rl)
      exact w _ _ _ _ H' (hq Da hn) (e1.trans ex) g3 (.ptr Da)
theorem x_lc {elt : PX} {own : List (String × Nat)} {tg : Tg} {it : PIt} {cnd : PIf} {e : Expr} (hi : PIs C X it)
    (he : ∀ X', Ctx { C with E := X0 } X' → PEs { C with E := X0 } X' elt) (hf : ∀ X', Ctx { C with E := X0 } X' → PFs { C with E := X0 } X' cnd)
    (h : isX X.N X.env.scope (.lc elt own tg it cnd) e = true) : PE X e (rE C (.lc elt own tg it cnd)) := by
  cases e <;> first | (exact absurd h Bool.false_ne_true) | skip
  rename_i x gens scope pos
  match gens, h with
  | [], h => exact absurd h Bool.false_ne_true
  | ⟨_, _, _, .negSucc _⟩ :: _ :: _, h => exact absurd h Bool.false_ne_true
  | ⟨_, _, _, .ofNat 0⟩ :: _ :: _, h => exact absurd h Bool.false_ne_true
  | ⟨_, _, _, .ofNat (_ + 1)⟩ :: _ :: _, h => exact absurd h Bool.false_ne_true
  | [⟨t, i, ifs, .negSucc _⟩], h => exact absurd h Bool.false_ne_true
  | [⟨t, i, ifs, .ofNat (_ + 1)⟩], h => exact absurd h Bool.false_ne_true
  | [⟨t, i, ifs, .ofNat 0⟩], h =>
    obtain ⟨h, h6⟩ := and_of (show (blkB X.N X.env.scope scope own && tgIn (own.map (·.2)) tg && isIt X.N X.env.scope it i && isTg X.N (relS scope X.env.scope) (fun x => scope.names.lookup x == some .cell) tg t && isIf X.N (relS scope X.env.scope) cnd ifs && isX X.N (relS scope X.env.scope) elt x) = true from h)
    obtain ⟨h, h5⟩ := and_of h
    obtain ⟨h, h4⟩ := and_of h
    obtain ⟨h, h3⟩ := and_of h
    obtain ⟨h1, h2⟩ := and_of h
    have ok : BlkOk X.N X.env.scope scope (own.map fun p => (Str.ofString p.1, p.2)) := blkOk_by h1
    have eo : (own.map fun p => (Str.ofString p.1, p.2)).map (·.2) = own.map (·.2) := by rw [List.map_map]; rfl
    refine PE.imp (pe_lc (g := tgRd X.K tg) K.g.calm K.g.nd (hi t i h3) ok
      (fun s H Ca cl fp => tg_pg (X := X.blk s H scope (compEnvC scope cl Ca X.env) fp) K.g.calm K.g.nd (fnb := fun x => scope.names.lookup x == some .cell) (fun _ z => z) tg h4)
      (fun s H Ca cl fp => hf _ (blk_ctx K s H scope cl Ca fp) ifs h5)
      (fun s H Ca cl fp => he _ (blk_ctx K s H scope cl Ca fp) x h6) (fold_of K h3 _)) fun σ H Q q => ?_
    rw [eo]
    exact lc_imp K h2 σ H Q q
theorem dcGo_mem {g : Store → Prop} {f : D → Store → (Option (D × D) → Store → Prop) → Prop} {xs : List D} {acc : List (D × D)} {M : Store} {Q : DK} (h : dcGo g f xs acc M Q) : g M := by
  cases xs with
  | nil => exact h.1
  | cons _ _ => exact h.1
theorem dc_imp {kx vx : PX} {own : List (String × Nat)} {tg : Tg} {it : PIt} {cnd : PIf} (h2 : tgIn (own.map (·.2)) tg = true) (σ : L2.St) (H : Hp) (Q : VK) (hh : rE C (.dc kx vx own tg it cnd) σ H Q) :
    tDc (rI C it) (tgRd X.K tg) (rIf { C with E := X0 } cnd) (rE { C with E := X0 } kx) (rE { C with E := X0 } vx) (own.map (·.2)) σ H Q := by
  obtain ⟨σd, M, R, F, Qd, s, q, w⟩ := hh
  refine ⟨σd, M, R, F, _, s, q, fun xs g M1 F1 H1 J q1 e1 g1 wk hl => ?_⟩
  intro Da hD
  obtain ⟨fm, ff, fr⟩ := g1.fresh hD
  have s1 := s.step e1 g1
  refine ⟨fun i m H' => m = xs.length - i ∧ i ≤ xs.length ∧ ∃ M' F' acc vs, Ex F1 F' ∧ Good C.G (upd R Da (.dK vs)) F' H' M' ∧ RpD C.G F' vs acc ∧
    dcGo g (fun x M k => gTg tg x (wipeD σd (own.map (·.2))) fun σ' => dIf X0 cnd σ' M fun b M' => match b with | true => dE X0 kx σ' M' fun y M2 => dE X0 vx σ' M2 fun z M3 => k (some (y, z)) M3 | false => k none M') (xs.drop i) acc M' Qd,
    ⟨xs.length, by simp, Nat.zero_le _, M1, F1, [], [], Ex.refl F1, g1.aside hD, .nil, q1⟩, ?_⟩
  rintro j m H' ⟨rfl, hj, M', F', acc, vs, ex, gd, rl, go⟩
  have gm := dcGo_mem K go
  obtain ⟨w1, w2⟩ := wk j _ F' H' M' ex gd gm
  by_cases hjl : j < xs.length
  · right
    obtain ⟨y, hy⟩ : ∃ y, xs[j]? = some y := ⟨xs[j], List.getElem?_eq_getElem hjl⟩
    have hd : xs.drop j = y :: xs.drop (j + 1) := by
      rw [List.drop_eq_getElem_cons hjl]
      have := (List.getElem?_eq_some_iff.mp hy).2
      rw [this]
    rw [hd] at go
    obtain ⟨w3, w4⟩ := w1 y hy
    refine ⟨w3, fun H2 => ∃ M' F' acc vs, Ex F1 F' ∧ Good C.G (upd R Da (.dK vs)) F' H2 M' ∧ RpD C.G F' vs acc ∧
      dcGo g (fun x M k => gTg tg x (wipeD σd (own.map (·.2))) fun σ' => dIf X0 cnd σ' M fun b M' => match b with | true => dE X0 kx σ' M' fun y M2 => dE X0 vx σ' M2 fun z M3 => k (some (y, z)) M3 | false => k none M') (xs.drop (j + 1)) acc M' Qd,
      fun H2 n => ⟨xs.length - (j + 1), by omega, rfl, by omega, n⟩, fun v H2 hyl => ?_⟩
    obtain ⟨F2, ex2, gd2, r2⟩ := w4 v H2 hyl
    have env2 : EnvR C.G F2 (wipeD σd (own.map (·.2))) (L2.wipe σ (own.map (·.2))) := (s1.env.mono (ex.trans ex2)).wipe _
    refine tg_mono tg (tg_sem K.g.K gd2 tg r2 env2 go.2) ?_
    intro σ2 H3 ⟨e3, wp, σd2, env3, q3⟩
    subst e3
    refine ⟨(wp _ h2).trans (wipe_wipe _ _), ?_⟩
    have sr : SR { C with E := X0 } σd2 M' (upd R Da (.dK vs)) F2 σ2 H3 := ⟨.inl rfl, s1.f0.trans (ex.trans ex2), env3, gd2⟩
    refine ⟨σd2, M', _, F2, _, sr, q3, fun b M4 F4 H4 q4 e4 g4 => ?_⟩
    cases b with
    | false =>
      rw [if_neg Bool.false_ne_true]
      exact ⟨M4, F4, acc, vs, (ex.trans ex2).trans e4, g4, (rl.mono (ex2.trans e4)), q4⟩
    | true =>
      rw [if_pos rfl]
      have sr4 := sr.step e4 g4
      refine ⟨σd2, M4, _, F4, _, sr4, q4, fun ky M5 v5 F5 H5 q5 e5 g5 r5 => ?_⟩
      have sr5 := sr4.step e5 g5
      refine ⟨σd2, M5, _, F5, _, sr5, q5, fun z M6 v6 F6 H6 q6 e6 g6 r6 => ?_⟩
      obtain ⟨hk, hlen, q6⟩ := q6
      obtain ⟨k, hk⟩ := Option.isSome_iff_exists.mp hk
      have rl6 := rl.mono (((ex2.trans e4).trans e5).trans e6)
      refine ⟨vs, k, keyOf_rp K.g r5 hk, (g6.rs Da _ upd_same).2.2, by rw [rl6.length, line_eq]; exact hlen, M6, F6, putD ky z acc, putK vs k v6, (((ex.trans ex2).trans e4).trans e5).trans e6, ?_, put_rd0 hk r6 rl6, q6⟩
      have := g6.aside2 (u := .dK (putK vs k v6))
      exact this
  · left
    have hj2 : j = xs.length := by omega
    have hd : xs.drop j = [] := List.drop_eq_nil_of_le (by omega)
    rw [hd] at go
    refine ⟨w2 (by omega), ?_⟩
    rcases go.2 with hq | hq
    · obtain ⟨g3, e3⟩ := gd.back fr
      exact w _ M' _ _ H' hq ((e1.trans ex).trans e3) g3 (.dic upd_same (rl.mono e3))
    · obtain ⟨g3, hn⟩ := gd.backM fr (.dic rl)
      exact w _ _ _ _ H' (hq Da hn) (e1.trans ex) g3 (.ptr Da)
theorem x_dc {kx vx : PX} {own : List (String × Nat)} {tg : Tg} {it : PIt} {cnd : PIf} {e : Expr} (hi : PIs C X it)
    (hk : ∀ X', Ctx { C with E := X0 } X' → PEs { C with E := X0 } X' kx) (he : ∀ X', Ctx { C with E := X0 } X' → PEs { C with E := X0 } X' vx) (hf : ∀ X', Ctx { C with E := X0 } X' → PFs { C with E := X0 } X' cnd)
    (h : isX X.N X.env.scope (.dc kx vx own tg it cnd) e = true) : PE X e (rE C (.dc kx vx own tg it cnd)) := by
  cases e <;> first | (exact absurd h Bool.false_ne_true) | skip
  rename_i x y gens scope pos
  match gens, h with
  | [], h => exact absurd h Bool.false_ne_true
  | ⟨_, _, _, .negSucc _⟩ :: _ :: _, h => exact absurd h Bool.false_ne_true
  | ⟨_, _, _, .ofNat 0⟩ :: _ :: _, h => exact absurd h Bool.false_ne_true
  | ⟨_, _, _, .ofNat (_ + 1)⟩ :: _ :: _, h => exact absurd h Bool.false_ne_true
  | [⟨t, i, ifs, .negSucc _⟩], h => exact absurd h Bool.false_ne_true
  | [⟨t, i, ifs, .ofNat (_ + 1)⟩], h => exact absurd h Bool.false_ne_true
  | [⟨t, i, ifs, .ofNat 0⟩], h =>
    obtain ⟨h, h7⟩ := and_of (show (blkB X.N X.env.scope scope own && tgIn (own.map (·.2)) tg && isIt X.N X.env.scope it i && isTg X.N (relS scope X.env.scope) (fun x => scope.names.lookup x == some .cell) tg t && isIf X.N (relS scope X.env.scope) cnd ifs && isX X.N (relS scope X.env.scope) kx x && isX X.N (relS scope X.env.scope) vx y) = true from h)
    obtain ⟨h, h6⟩ := and_of h
    obtain ⟨h, h5⟩ := and_of h
    obtain ⟨h, h4⟩ := and_of h
    obtain ⟨h, h3⟩ := and_of h
    obtain ⟨h1, h2⟩ := and_of h
    have ok : BlkOk X.N X.env.scope scope (own.map fun p => (Str.ofString p.1, p.2)) := blkOk_by h1
    have eo : (own.map fun p => (Str.ofString p.1, p.2)).map (·.2) = own.map (·.2) := by rw [List.map_map]; rfl
    refine PE.imp (pe_dc (g := tgRd X.K tg) K.g.calm K.g.nd (hi t i h3) ok
      (fun s H Ca cl fp => tg_pg (X := X.blk s H scope (compEnvC scope cl Ca X.env) fp) K.g.calm K.g.nd (fnb := fun x => scope.names.lookup x == some .cell) (fun _ z => z) tg h4)
      (fun s H Ca cl fp => hf _ (blk_ctx K s H scope cl Ca fp) ifs h5)
      (fun s H Ca cl fp => hk _ (blk_ctx K s H scope cl Ca fp) x h6)
      (fun s H Ca cl fp => he _ (blk_ctx K s H scope cl Ca fp) y h7) (fold_of K h3 _)) fun σ H Q q => ?_
    rw [eo]
    exact dc_imp K h2 σ H Q q
end
end VS

/-! VS, part 11: every expression. -/
namespace VS
open PySem PySem.Spec PyProof.Rows L2
section
variable {C : Cq} {X : Cx} (K : Ctx C X)
include K
theorem ta_one {p : PT} {pos : Pos} (hp : PTt C X p) : ∀ xs, isTs X.N X.env.scope (.cons p .nil) xs = true → PW X (.BoolOp .And xs pos) (rTA C (.cons p .nil)) := fun xs h => by
  match xs, h with
  | [], h => exact absurd h Bool.false_ne_true
  | [x], h => exact pw_and1 (hp _ (and_of (show (isT X.N X.env.scope p x && true) = true from h)).1)
  | x :: y :: r, h => exact absurd (and_of (show (isT X.N X.env.scope p x && false) = true from h)).2 Bool.false_ne_true
theorem PW.imp {X : Cx} {e : Expr} {t t' : TT} (h : PW X e t) (i : ∀ σ H Q, t' σ H Q → t σ H Q) : PW X e t' := ⟨fun wh pins s σ H Q I q => h.run wh pins s σ H Q I (i σ H Q q)⟩
theorem ta_more {p p2 : PT} {ps : PTs} {pos : Pos} (hp : PTt C X p) (hs : ∀ xs, isTs X.N X.env.scope (.cons p2 ps) xs = true → PW X (.BoolOp .And xs pos) (rTA C (.cons p2 ps))) :
    ∀ xs, isTs X.N X.env.scope (.cons p (.cons p2 ps)) xs = true → PW X (.BoolOp .And xs pos) (rTA C (.cons p (.cons p2 ps))) := fun xs h => by
  match xs, h with
  | [], h => exact absurd h Bool.false_ne_true
  | [x], h => exact absurd (and_of (show (isT X.N X.env.scope p x && false) = true from h)).2 Bool.false_ne_true
  | x :: y :: r, h =>
    obtain ⟨h1, h2⟩ := and_of (show (isT X.N X.env.scope p x && isTs X.N X.env.scope (.cons p2 ps) (y :: r)) = true from h)
    refine PW.imp K (pw_and (hp _ h1) (hs _ h2)) fun σ H Q ⟨σd, M, R, F, Qd, s, q, w⟩ => ?_
    refine ⟨σd, M, R, F, _, s, q, fun c M1 F1 H1 q1 e1 g1 => ?_⟩
    cases c with
    | true =>
      rw [if_pos rfl]
      exact ⟨σd, M1, R, F1, _, s.step e1 g1, q1, fun d M' F' H' q' e' g' => w d M' F' H' q' (e1.trans e') g'⟩
    | false =>
      rw [if_neg Bool.false_ne_true]
      exact w _ _ F1 H1 q1 e1 g1
theorem to_one {p : PT} {pos : Pos} (hp : PTt C X p) : ∀ xs, isTs X.N X.env.scope (.cons p .nil) xs = true → PW X (.BoolOp .Or xs pos) (rTO C (.cons p .nil)) := fun xs h => by
  match xs, h with
  | [], h => exact absurd h Bool.false_ne_true
  | [x], h => exact pw_or1 (hp _ (and_of (show (isT X.N X.env.scope p x && true) = true from h)).1)
  | x :: y :: r, h => exact absurd (and_of (show (isT X.N X.env.scope p x && false) = true from h)).2 Bool.false_ne_true
theorem to_more {p p2 : PT} {ps : PTs} {pos : Pos} (hp : PTt C X p) (hs : ∀ xs, isTs X.N X.env.scope (.cons p2 ps) xs = true → PW X (.BoolOp .Or xs pos) (rTO C (.cons p2 ps))) :
    ∀ xs, isTs X.N X.env.scope (.cons p (.cons p2 ps)) xs = true → PW X (.BoolOp .Or xs pos) (rTO C (.cons p (.cons p2 ps))) := fun xs h => by
  match xs, h with
  | [], h => exact absurd h Bool.false_ne_true
  | [x], h => exact absurd (and_of (show (isT X.N X.env.scope p x && false) = true from h)).2 Bool.false_ne_true
  | x :: y :: r, h =>
    obtain ⟨h1, h2⟩ := and_of (show (isT X.N X.env.scope p x && isTs X.N X.env.scope (.cons p2 ps) (y :: r)) = true from h)
    refine PW.imp K (pw_or (hp _ h1) (hs _ h2)) fun σ H Q ⟨σd, M, R, F, Qd, s, q, w⟩ => ?_
    refine ⟨σd, M, R, F, _, s, q, fun c M1 F1 H1 q1 e1 g1 => ?_⟩
    cases c with
    | true =>
      rw [if_pos rfl]
      exact w _ _ F1 H1 q1 e1 g1
    | false =>
      rw [if_neg Bool.false_ne_true]
      exact ⟨σd, M1, R, F1, _, s.step e1 g1, q1, fun d M' F' H' q' e' g' => w d M' F' H' q' (e1.trans e') g'⟩
theorem and_shape {es : PXs} {e : Expr} (h : isX X.N X.env.scope (.and es) e = true) : ∃ xs pos, e = .BoolOp .And xs pos ∧ isXs X.N X.env.scope es xs = true := by
  cases e <;> first | (exact absurd h Bool.false_ne_true) | skip
  rename_i op xs pos
  cases op with
  | Or => exact absurd h Bool.false_ne_true
  | And =>
    match xs, h with
    | [], h => exact absurd h Bool.false_ne_true
    | x :: xs, h => exact ⟨_, _, rfl, h⟩
theorem or_shape {es : PXs} {e : Expr} (h : isX X.N X.env.scope (.or es) e = true) : ∃ xs pos, e = .BoolOp .Or xs pos ∧ isXs X.N X.env.scope es xs = true := by
  cases e <;> first | (exact absurd h Bool.false_ne_true) | skip
  rename_i op xs pos
  cases op with
  | And => exact absurd h Bool.false_ne_true
  | Or =>
    match xs, h with
    | [], h => exact absurd h Bool.false_ne_true
    | x :: xs, h => exact ⟨_, _, rfl, h⟩
theorem tand_shape {es : PTs} {e : Expr} (h : isT X.N X.env.scope (.and es) e = true) : ∃ xs pos, e = .BoolOp .And xs pos ∧ isTs X.N X.env.scope es xs = true := by
  cases e <;> first | (exact absurd h Bool.false_ne_true) | skip
  rename_i op xs pos
  cases op with
  | Or => exact absurd h Bool.false_ne_true
  | And =>
    match xs, h with
    | [], h => exact absurd h Bool.false_ne_true
    | x :: xs, h => exact ⟨_, _, rfl, h⟩
theorem tor_shape {es : PTs} {e : Expr} (h : isT X.N X.env.scope (.or es) e = true) : ∃ xs pos, e = .BoolOp .Or xs pos ∧ isTs X.N X.env.scope es xs = true := by
  cases e <;> first | (exact absurd h Bool.false_ne_true) | skip
  rename_i op xs pos
  cases op with
  | And => exact absurd h Bool.false_ne_true
  | Or =>
    match xs, h with
    | [], h => exact absurd h Bool.false_ne_true
    | x :: xs, h => exact ⟨_, _, rfl, h⟩
end
mutual
theorem sX : ∀ (p : PX) {C : Cq} {X : Cx}, Ctx C X → okX C.G C.k p → PEs C X p
  | .v _, _, _, K, _ => fun _ h => x_v K h
  | .c _, _, _, K, _ => fun _ h => x_c K h
  | .g _ _, _, _, K, o => fun _ h => x_g K o h
  | .bin _ a b, _, _, K, o => fun _ h => x_bin K (sX a K o.1) (sX b K o.2) h
  | .neg a, _, _, K, o => fun _ h => x_neg K (sX a K o) h
  | .cmp _ a b, _, _, K, o => fun _ h => x_cmp K (sX a K o.1) (sX b K o.2) h
  | .cmp2 _ _ a b c, _, _, K, o => fun _ h => x_cmp2 K (sX a K o.1) (sX b K o.2.1) (sX c K o.2.2) h
  | .not a, _, _, K, o => fun _ h => x_not K (sX a K o) h
  | .and es, _, _, K, o => fun _ h => by
    obtain ⟨xs, pos, rfl, h'⟩ := and_shape K h
    exact sAnd es K o xs pos h'
  | .or es, _, _, K, o => fun _ h => by
    obtain ⟨xs, pos, rfl, h'⟩ := or_shape K h
    exact sOr es K o xs pos h'
  | .ife t a b, _, _, K, o => fun _ h => x_ife K (sT t K o.1) (sX a K o.2.1) (sX b K o.2.2) h
  | .tup es, _, _, K, o => fun _ h => x_tup K (sXs es K o) h
  | .lst es, _, _, K, o => fun _ h => x_lst K (sXs es K o) h
  | .mlst es, _, _, K, o => fun _ h => x_mlst K (sXs es K o) h
  | .mdic, _, _, K, _ => fun _ h => x_mdic K h
  | .ix a b, _, _, K, o => fun _ h => x_ix K (sX a K o.1) (sX b K o.2) h
  | .sl a _ _ lo hi, _, _, K, o => fun _ h => x_sl K (sX a K o.1) (sX lo K o.2.1) (sX hi K o.2.2) h
  | .call _ _ es, _, _, K, o => fun _ h => x_call K o.1 (sXs es K o.2) h
  | .bi _ es, _, _, K, o => fun _ h => x_bi K o.2.1 o.1 (sXs es K o.2.2) h
  | .isi a _, _, _, K, o => fun _ h => x_isi K o.1 o.2.1 o.2.2.1 (sX a K o.2.2.2) h
  | .isi2 a _ _, _, _, K, o => fun _ h => x_isi2 K o.1 o.2.1 o.2.2.1 o.2.2.2.1 o.2.2.2.2.1 (sX a K o.2.2.2.2.2) h
  | .mth _ a es, _, _, K, o => fun _ h => x_mth K (sX a K o.1) (sXs es K o.2) h
  | .meth _ _ _ a es, _, _, K, o => fun _ h => x_meth K o.1 (sX a K o.2.1) (sXs es K o.2.2) h
  | .attr _ a _, _, _, K, o => fun _ h => x_attr K o.1 (sX a K o.2) h
  | .lc elt _ _ it cnd, _, _, K, o => fun _ h => x_lc K (sIt it K o.2.1) (fun _ K' => sX elt K' o.1) (fun _ K' => sIf cnd K' o.2.2) h
  | .dc kx vx _ _ it cnd, _, _, K, o => fun _ h => x_dc K (sIt it K o.2.2.1) (fun _ K' => sX kx K' o.1) (fun _ K' => sX vx K' o.2.1) (fun _ K' => sIf cnd K' o.2.2.2) h
  | .pr m w es, _, _, K, o => fun e h => by
    obtain ⟨h1, h2⟩ := and_of (show (prB e && (match m _ _ e with | some xs => isXs _ _ es xs | none => false)) = true from h)
    split at h2
    · rename_i xs hx
      exact o.1.ok K rfl rfl rfl h1 hx h2 (sAll es K o.2)
    · cases h2
  | .pg m t w es, _, _, K, o => fun e h => by
    obtain ⟨h1, h2⟩ := and_of (show (prB e && (match m _ _ e with | some xs => isXs _ _ es xs | none => false)) = true from h)
    split at h2
    · rename_i xs hx
      exact o.1.ok K rfl rfl rfl h1 hx h2 (sAll es K o.2)
    · cases h2
theorem sAll : ∀ (p : PXs) {C : Cq} {X : Cx}, Ctx C X → okXs C.G C.k p → AllPE C X p
  | .nil, _, _, K, _ => trivial
  | .cons p ps, _, _, K, o => ⟨sX p K o.1, sAll ps K o.2⟩
theorem sXs : ∀ (p : PXs) {C : Cq} {X : Cx}, Ctx C X → okXs C.G C.k p → PAs C X p
  | .nil, _, _, K, _ => a_nil K
  | .cons p ps, _, _, K, o => a_cons K (sX p K o.1) (sXs ps K o.2)
theorem sAnd : ∀ (es : PXs) {C : Cq} {X : Cx}, Ctx C X → okXs C.G C.k es → ∀ xs pos, isXs X.N X.env.scope es xs = true → PE X (.BoolOp .And xs pos) (rAnd C es)
  | .nil, _, _, _, _ => fun _ _ _ => ⟨fun _ _ _ _ _ _ ⟨_, _, _, _, _, _, q, _⟩ => q.elim⟩
  | .cons p .nil, _, _, K, o => fun xs _ h => and_one K (sX p K o.1) xs h
  | .cons p (.cons p2 ps), _, _, K, o => fun xs pos h => and_more K (sX p K o.1) (fun xs h => sAnd (.cons p2 ps) K o.2 xs pos h) xs h
theorem sOr : ∀ (es : PXs) {C : Cq} {X : Cx}, Ctx C X → okXs C.G C.k es → ∀ xs pos, isXs X.N X.env.scope es xs = true → PE X (.BoolOp .Or xs pos) (rOr C es)
  | .nil, _, _, _, _ => fun _ _ _ => ⟨fun _ _ _ _ _ _ ⟨_, _, _, _, _, _, q, _⟩ => q.elim⟩
  | .cons p .nil, _, _, K, o => fun xs _ h => or_one K (sX p K o.1) xs h
  | .cons p (.cons p2 ps), _, _, K, o => fun xs pos h => or_more K (sX p K o.1) (fun xs h => sOr (.cons p2 ps) K o.2 xs pos h) xs h
theorem sT : ∀ (t : PT) {C : Cq} {X : Cx}, Ctx C X → okT C.G C.k t → PTt C X t
  | .val (.cmp _ a b), _, _, K, o => fun _ h => t_cmp K (sX a K o.1.1) (sX b K o.1.2) h
  | .val (.v i), _, _, K, o => fun _ h => t_val K (sX (.v i) K o.1) rfl h
  | .val (.c d), _, _, K, o => fun _ h => t_val K (sX (.c d) K o.1) rfl h
  | .val (.g x d), _, _, K, o => fun _ h => t_val K (sX (.g x d) K o.1) rfl h
  | .val (.bin p a b), _, _, K, o => fun _ h => t_val K (sX (.bin p a b) K o.1) rfl h
  | .val (.neg a), _, _, K, o => fun _ h => t_val K (sX (.neg a) K o.1) rfl h
  | .val (.cmp2 _ _ a b c), _, _, K, o => fun _ h => t_cmp2 K (sX a K o.1.1) (sX b K o.1.2.1) (sX c K o.1.2.2) h
  | .val (.not _), _, _, _, o => absurd o.2 Bool.false_ne_true
  | .val (.and _), _, _, _, o => absurd o.2 Bool.false_ne_true
  | .val (.or _), _, _, _, o => absurd o.2 Bool.false_ne_true
  | .val (.ife _ _ _), _, _, _, o => absurd o.2 Bool.false_ne_true
  | .val (.tup a), _, _, K, o => fun _ h => t_val K (sX (.tup a) K o.1) rfl h
  | .val (.lst a), _, _, K, o => fun _ h => t_val K (sX (.lst a) K o.1) rfl h
  | .val (.mlst a), _, _, K, o => fun _ h => t_val K (sX (.mlst a) K o.1) rfl h
  | .val .mdic, _, _, K, o => fun _ h => t_val K (sX .mdic K o.1) rfl h
  | .val (.ix a b), _, _, K, o => fun _ h => t_val K (sX (.ix a b) K o.1) rfl h
  | .val (.sl a b c d e), _, _, K, o => fun _ h => t_val K (sX (.sl a b c d e) K o.1) rfl h
  | .val (.call a b c), _, _, K, o => fun _ h => t_val K (sX (.call a b c) K o.1) rfl h
  | .val (.bi a b), _, _, K, o => fun _ h => t_val K (sX (.bi a b) K o.1) rfl h
  | .val (.isi a b), _, _, K, o => fun _ h => t_val K (sX (.isi a b) K o.1) rfl h
  | .val (.isi2 a b c), _, _, K, o => fun _ h => t_val K (sX (.isi2 a b c) K o.1) rfl h
  | .val (.mth a b c), _, _, K, o => fun _ h => t_val K (sX (.mth a b c) K o.1) rfl h
  | .val (.meth a b c d e), _, _, K, o => fun _ h => t_val K (sX (.meth a b c d e) K o.1) rfl h
  | .val (.attr a b c), _, _, K, o => fun _ h => t_val K (sX (.attr a b c) K o.1) rfl h
  | .val (.lc a b c d e), _, _, K, o => fun _ h => t_val K (sX (.lc a b c d e) K o.1) rfl h
  | .val (.dc a b c d e f), _, _, K, o => fun _ h => t_val K (sX (.dc a b c d e f) K o.1) rfl h
  | .val (.pr a b c), _, _, K, o => fun _ h => t_val K (sX (.pr a b c) K o.1) rfl h
  | .val (.pg a b c d), _, _, K, o => fun _ h => t_val K (sX (.pg a b c d) K o.1) rfl h
  | .and ts, _, _, K, o => fun _ h => by
    obtain ⟨xs, pos, rfl, h'⟩ := tand_shape K h
    exact (sTA ts K o xs pos h').pt
  | .or ts, _, _, K, o => fun _ h => by
    obtain ⟨xs, pos, rfl, h'⟩ := tor_shape K h
    exact (sTO ts K o xs pos h').pt
  | .not a, _, _, K, o => fun _ h => t_not K (sT a K o) h
theorem sTA : ∀ (es : PTs) {C : Cq} {X : Cx}, Ctx C X → okTs C.G C.k es → ∀ xs pos, isTs X.N X.env.scope es xs = true → PW X (.BoolOp .And xs pos) (rTA C es)
  | .nil, _, _, _, _ => fun _ _ _ => ⟨fun _ _ _ _ _ _ _ ⟨_, _, _, _, _, _, q, _⟩ => q.elim⟩
  | .cons p .nil, _, _, K, o => fun xs _ h => ta_one K (sT p K o.1) xs h
  | .cons p (.cons p2 ps), _, _, K, o => fun xs pos h => ta_more K (sT p K o.1) (fun xs h => sTA (.cons p2 ps) K o.2 xs pos h) xs h
theorem sTO : ∀ (es : PTs) {C : Cq} {X : Cx}, Ctx C X → okTs C.G C.k es → ∀ xs pos, isTs X.N X.env.scope es xs = true → PW X (.BoolOp .Or xs pos) (rTO C es)
  | .nil, _, _, _, _ => fun _ _ _ => ⟨fun _ _ _ _ _ _ _ ⟨_, _, _, _, _, _, q, _⟩ => q.elim⟩
  | .cons p .nil, _, _, K, o => fun xs _ h => to_one K (sT p K o.1) xs h
  | .cons p (.cons p2 ps), _, _, K, o => fun xs pos h => to_more K (sT p K o.1) (fun xs h => sTO (.cons p2 ps) K o.2 xs pos h) xs h
theorem sIt : ∀ (t : PIt) {C : Cq} {X : Cx}, Ctx C X → okIt C.G C.k t → PIs C X t
  | .ex a, _, _, K, o => i_ex K (sX a K o)
  | .rng1 a, _, _, K, o => i_rng1 K o.1 (sX a K o.2)
  | .rng2 a b, _, _, K, o => i_rng2 K o.1 (sX a K o.2.1) (sX b K o.2.2)
  | .rng3 a b c, _, _, K, o => i_rng3 K o.1 (sX a K o.2.1) (sX b K o.2.2.1) (sX c K o.2.2.2)
  | .enum _, _, _, _, o => o.elim
  | .zip _ _, _, _, _, o => o.elim
  | .rev _, _, _, _, o => o.elim
  | .pr m w es, _, _, K, o => fun tg e h => by
    obtain ⟨h1, h2⟩ := and_of (show (prB e && (match m _ _ e with | some xs => isXs _ _ es xs | none => false)) = true from h)
    split at h2
    · rename_i xs hx
      exact o.1.ok K rfl rfl rfl h1 hx h2 (sAll es K o.2) tg
    · cases h2
theorem sIf : ∀ (t : PIf) {C : Cq} {X : Cx}, Ctx C X → okIf C.G C.k t → PFs C X t
  | .nil, _, _, K, _ => f_nil K
  | .one t, _, _, K, o => f_one K (sT t K o)
end
end VS

/-! VS, part 12: statements: syntax, what matches it, its reading. -/
namespace VS
open PySem PySem.Spec PyProof.Rows L2
abbrev Ghost := Env → Store → Env → Store → Prop
/-- how a block ends, in data -/
structure EndsD where
  nx : Env → Store → Prop
  rt : DK
  bk : Env → Store → Prop := fun _ _ => False
  ct : Env → Store → Prop := fun _ _ => False
/-- a statement's parts, evaluated from the left; its reading -/
abbrev Ms := List Str → Scope → Stmt → Option (List Expr)
abbrev WS := List D → EndsD → Env → Store → XP → Prop
mutual
inductive St'
  | asg (i : Nat) (p : PX) | asgT (t : Tg) (p : PX) | sto (a b p : PX) | fld (cl : String) (a : PX) (f : String) (p : PX)
  | aug (o : BOp) (i : Nat) (p : PX) | augF (cl : String) (a : PX) (f : String) (p : PX)
  | ex (p : PX) | ret (p : PX) | retN | iff (t : PT) (a b : Sts) | whl (t : PT) (b : Sts) | for_ (t : Tg) (it : PIt) (b : Sts)
  | brk | cnt | pas | never | pr (m : Ms) (w : WS) (es : PXs)
inductive Sts | nil | cons (s : St') (ss : Sts) | gh (R : Ghost) (ss : Sts)
end
def compB : Expr → Bool
  | .ListComp _ _ _ _ => true | .SetComp _ _ _ _ => true | .DictComp _ _ _ _ _ => true | _ => false
/-- name = [..] on one line is a swap -/
def swB (sc : Scope) (x : Str) (p : Pos) : Expr → Bool
  | .ListComp _ _ scope pos => (match sc.names.lookup x with | some .local => true | _ => false) && (p.line == pos.line) && !(scope.names.any fun (n, k) => n == x && (k == .local || k == .cell))
  | _ => false
def isLcB : Expr → Bool
  | .ListComp _ _ _ _ => true | _ => false
def lcB : PX → Bool
  | .lc _ _ _ _ _ => true | _ => false
def tupB : Expr → Bool
  | .Tuple _ _ _ => true | _ => false
def augB : BOp → Operator → Bool
  | .add, .Add => true | .sub, .Sub => true | _, _ => false
mutual
def isS (N : List Str) (sc : Scope) : St' → Stmt → Bool
  | .asg i p, s => match s with
    | .Assign [.Name x pos'] e _ => locB N sc (fun _ => true) i x && isX N sc p e && (!compB e || isLcB e) | _ => false
  | .asgT t p, s => match s with | .Assign [.Tuple es k pos'] e _ => isTg N sc (fun _ => true) t (.Tuple es k pos') && isX N sc p e && !compB e && !tupB e | _ => false
  | .sto a b p, s => match s with | .Assign [.Subscript x y _] e _ => isX N sc a x && isX N sc b y && isX N sc p e && !compB e | _ => false
  | .fld _ a f p, s => match s with | .Assign [.Attribute x nm _] e _ => isX N sc a x && decide (nm = Str.ofString f) && isX N sc p e && !compB e | _ => false
  | .aug o i p, s => match s with | .AugAssign (.Name x _) op e _ => augB o op && locB N sc (fun _ => true) i x && isX N sc p e | _ => false
  | .augF _ a f p, s => match s with | .AugAssign (.Attribute x nm _) .Add e _ => isX N sc a x && decide (nm = Str.ofString f) && isX N sc p e | _ => false
  | .ex p, s => match s with | .Expr e _ => isX N sc p e && !compB e | _ => false
  | .ret p, s => match s with | .Return (some e) _ => isX N sc p e | _ => false
  | .retN, s => match s with | .Return none _ => true | _ => false
  | .iff t a b, s => match s with | .If e x y _ => isT N sc t e && isSs N sc a x && isSs N sc b y | _ => false
  | .whl t b, s => match s with | .While e x [] _ => isT N sc t e && isSs N sc b x | _ => false
  | .for_ t it b, s => match s with | .For tg e x [] _ => isTg N sc (fun _ => true) t tg && isIt N sc it e && isSs N sc b x | _ => false
  | .brk, s => match s with | .Break _ => true | _ => false
  | .cnt, s => match s with | .Continue _ => true | _ => false
  | .pas, s => match s with | .Pass _ => true | _ => false
  | .never, _ => true
  | .pr m _ es, s => match m N sc s with | some xs => isXs N sc es xs | none => false
def isSs (N : List Str) (sc : Scope) : Sts → List Stmt → Bool
  | .nil, ss => match ss with | [] => true | _ => false
  | .cons s ss, xs => match xs with | x :: xs => isS N sc s x && isSs N sc ss xs | [] => false
  | .gh _ ss, xs => isSs N sc ss xs
end
def wIp (o : BOp) (x y : D) (M : Store) (Q : DK) : Prop :=
  match o, x, y with
  | .add, .int i, .int j => Q (.int (i + j)) M
  | .add, .str s, .str t => s.length + t.length ≤ line ∧ Q (.str (s ++ t)) M
  | .sub, .int i, .int j => Q (.int (i - j)) M
  | _, _, _ => False
def wFld (cl : String) (x : D) (f : String) (d : D) (M : Store) (Q : Store → Prop) : Prop :=
  match x with
  | .ptr q => (match M q with | some (.inst c fs) => c = cl ∧ fs.length < 1000 ∧ Q (M.put q (.inst c (putFd f d fs))) | _ => False)
  | _ => False
/-- a for's turns -/
def forGo (g : Store → Prop) (f : D → Env → Store → (Env → Store → Prop) → Prop) : List D → Env → Store → (Env → Store → Prop) → Prop
  | [], σ, M, nx => g M ∧ nx σ M
  | x :: xs, σ, M, nx => g M ∧ f x σ M fun σ' M' => forGo g f xs σ' M' nx
mutual
def dS (E : XP) : St' → EndsD → Env → Store → Prop
  | .asg i p, K, σ, M => dE E p σ M fun d M1 => K.nx (σ.set i (some d)) M1
  | .asgT t p, K, σ, M => dE E p σ M fun d M1 => gTg t d σ fun σ' => K.nx σ' M1
  | .sto a b p, K, σ, M => dE E p σ M fun d M1 => dE E a σ M1 fun x M2 => dE E b σ M2 fun k M3 => wSto x k d M3 fun M4 => K.nx σ M4
  | .fld cl a f p, K, σ, M => dE E p σ M fun d M1 => dE E a σ M1 fun x M2 => wFld cl x f d M2 fun M3 => K.nx σ M3
  | .aug o i p, K, σ, M => getS σ i fun x => dE E p σ M fun y M1 => wIp o x y M1 fun z M2 => K.nx (σ.set i (some z)) M2
  | .augF cl a f p, K, σ, M => dE E a σ M fun x M1 => (match asI M1 x with
    | some (c, fs) => c = cl ∧ (match lookF f fs with
      | some v => dE E p σ M1 fun y M2 => wIp .add v y M2 fun z M3 => wFld cl x f z M3 fun M4 => K.nx σ M4
      | none => False)
    | none => False)
  | .ex p, K, σ, M => dE E p σ M fun _ M1 => K.nx σ M1
  | .ret p, K, σ, M => dE E p σ M K.rt
  | .retN, K, _, M => K.rt .non M
  | .iff t a b, K, σ, M => dT E t σ M fun c M1 => match c with | true => dSs E a K σ M1 | false => dSs E b K σ M1
  | .whl t b, K, σ, M => ∃ W : Nat → Env → Store → Prop, (∃ m, W m σ M) ∧ ∀ m σ M, W m σ M → dT E t σ M fun c M1 => match c with
    | true => dSs E b { nx := fun σ' M' => ∃ m', m' < m ∧ W m' σ' M', rt := K.rt, bk := K.nx, ct := fun σ' M' => ∃ m', m' < m ∧ W m' σ' M' } σ M1
    | false => K.nx σ M1
  | .for_ t it b, K, σ, M => dIt E it σ M fun xs g M1 => forGo g (fun x σ M nx => gTg t x σ fun σ' => dSs E b { nx := nx, rt := K.rt, bk := K.nx, ct := nx } σ' M) xs σ M1 K.nx
  | .brk, K, σ, M => K.bk σ M
  | .cnt, K, σ, M => K.ct σ M
  | .pas, K, σ, M => K.nx σ M
  | .never, _, _, _ => False
  | .pr _ w es, K, σ, M => dEs E es σ M fun ds M1 => w ds K σ M1 E
def dSs (E : XP) : Sts → EndsD → Env → Store → Prop
  | .nil, K, σ, M => K.nx σ M
  | .cons s ss, K, σ, M => dS E s { nx := fun σ' M' => dSs E ss K σ' M', rt := K.rt, bk := K.bk, ct := K.ct } σ M
  | .gh R ss, K, σ, M => ∃ σ' M', R σ M σ' M' ∧ dSs E ss K σ' M'
end
def GhOk (G : Glob) (R : Ghost) : Prop := ∀ σd M σd' M' Rs F σ H, R σd M σd' M' → EnvR G F σd σ → Good G Rs F H M → ∃ F', Ex F F' ∧ EnvR G F' σd' σ ∧ Good G Rs F' H M'
structure CtxS (C : Cq) (X : Cx) : Prop extends Ctx C X where
  kind : X.env.scope.kind = .function
  own : PassesOwn (model X.prog X.w) X.A X.env X.xe
  fn : ∀ x, X.fn x = true
  tk : Takes X (fun cls d _ H => excK C cls d H)
  stk : X.stack = X.env :: X.outer
  frm : X.env.frame = some X.env.locals
structure WK (C : Cq) (R F : Hp) (K : EndsD) (D : Ends) : Prop where
  nx : ∀ σd M F' σ H, K.nx σd M → Ex F F' → SR C σd M R F' σ H → D.nx σ H
  rt : ∀ d M v F' H, K.rt d M → Ex F F' → Good C.G R F' H M → Rp C.G F' v d → D.rt v H
  bk : ∀ σd M F' σ H, K.bk σd M → Ex F F' → SR C σd M R F' σ H → D.bk σ H
  ct : ∀ σd M F' σ H, K.ct σd M → Ex F F' → SR C σd M R F' σ H → D.ct σ H
theorem WK.mono {C : Cq} {R F F' : Hp} {K : EndsD} {D : Ends} (w : WK C R F K D) (e : Ex F F') : WK C R F' K D :=
  ⟨fun a b c d f g h i => w.nx a b c d f g (e.trans h) i, fun a b c d f g h i j => w.rt a b c d f g (e.trans h) i j, fun a b c d f g h i => w.bk a b c d f g (e.trans h) i, fun a b c d f g h i => w.ct a b c d f g (e.trans h) i⟩
def rS (C : Cq) (s : St') : TS := fun D σ H => ∃ σd M R F K, SR C σd M R F σ H ∧ dS C.E s K σd M ∧ WK C R F K D
def rSs (C : Cq) (s : Sts) : TS := fun D σ H => ∃ σd M R F K, SR C σd M R F σ H ∧ dSs C.E s K σd M ∧ WK C R F K D
structure PsF (G : Glob) (k : Nat) (m : Ms) (w : WS) (n : Nat) : Prop where
  ok : ∀ {C : Cq} {X : Cx}, CtxS C X → C.G = G → C.k = k → ∀ {es : PXs} {e : Stmt} {xs : List Expr}, es.len = n → m X.N X.env.scope e = some xs → isXs X.N X.env.scope es xs = true → AllPE C X es → PS X e (rS C (.pr m w es))
mutual
def okS (G : Glob) (k : Nat) : St' → Prop
  | .asg _ p => okX G k p | .asgT _ p => okX G k p | .sto a b p => okX G k a ∧ okX G k b ∧ okX G k p
  | .fld cl a f p => AttrF G cl f ∧ okX G k a ∧ okX G k p | .aug _ _ p => okX G k p | .augF cl a f p => AttrF G cl f ∧ okX G k a ∧ okX G k p
  | .ex p => okX G k p | .ret p => okX G k p | .retN => True | .iff t a b => okT G k t ∧ okSs G k a ∧ okSs G k b
  | .whl t b => okT G k t ∧ okSs G k b | .for_ _ it b => okIt G k it ∧ okSs G k b
  | .brk => True | .cnt => True | .pas => True | .never => True | .pr m w es => PsF G k m w es.len ∧ okXs G k es
def okSs (G : Glob) (k : Nat) : Sts → Prop
  | .nil => True | .cons s ss => okS G k s ∧ okSs G k ss | .gh R ss => GhOk G R ∧ okSs G k ss
end
theorem PSs.imp {X : Cx} {e : List Stmt} {t t' : TS} (h : L2.PSs X e t) (i : ∀ D σ H, t' D σ H → t D σ H) : L2.PSs X e t' := ⟨fun pins s σ H D I q => h.run pins s σ H D I (i D σ H q)⟩
end VS

/-! VS, part 13: a statement that matches does what its reading says; a def keeps its promise. -/
namespace VS
open PySem PySem.Spec PyProof.Rows L2
section
variable {C : Cq} {X : Cx} (K : CtxS C X)
abbrev PSt (C : Cq) (X : Cx) (s : St') : Prop := ∀ e, isS X.N X.env.scope s e = true → PS X e (rS C s)
abbrev PSst (C : Cq) (X : Cx) (s : Sts) : Prop := ∀ e, isSs X.N X.env.scope s e = true → L2.PSs X e (rSs C s)
include K
theorem loc_of {i : Nat} {x : Str} (h : locB X.N X.env.scope (fun _ => true) i x = true) : X.N[i]? = some x ∧ Loc X.env.scope x ∧ (X.fn x = true ∨ X.env.scope.names.lookup x = some .local) := by
  obtain ⟨h1, h2⟩ := and_of (show (decide (X.N[i]? = some x) && (match X.env.scope.names.lookup x with | some .local => true | some .cell => true | _ => false)) = true from h)
  have h1 := of_decide_eq_true h1
  split at h2
  · rename_i e1; exact ⟨h1, .inl e1, .inr e1⟩
  · rename_i e1; exact ⟨h1, .inr e1, .inl (K.fn x)⟩
  · cases h2
theorem not_t {b : Bool} (h : (!b) = true) : b = false := by cases b <;> first | rfl | cases h
theorem swaps_no {e : Expr} (h : compB e = false) (t : Option Expr) (l : Nat) (env : PySem.Env) : swapsWith e t l env = pure false := by
  cases e <;> first | rfl | (cases h; done)
theorem swaps_lc {elt : Expr} {gs : List Comprehension} {scope : Scope} {pos py : Pos} {y : Str} {l : Nat} (h : swB X.env.scope y py (.ListComp elt gs scope pos) = false) : swapsWith (.ListComp elt gs scope pos) (some (.Name y py)) l X.env = pure false := by
  have h' : ((match X.env.scope.names.lookup y with | some .local => true | _ => false) && (py.line == pos.line) && !(scope.names.any fun (n, k) => n == y && (k == .local || k == .cell))) = false := h
  unfold swapsWith
  show (pure _ : Sem Bool) = pure false
  congr 1
  have hk : (X.env.kindOf y == some .local) = (match X.env.scope.names.lookup y with | some .local => true | _ => false) := by
    show (X.env.scope.names.lookup y == some .local) = _
    split
    · rename_i e; rw [e]; rfl
    · rename_i e
      rw [beq_eq_false_iff_ne]
      exact e
  rw [Bool.and_assoc, Bool.and_assoc, hk]
  rw [Bool.and_assoc] at h'
  show (_ && (_ && ((py.line == pos.line) && _))) = false
  rw [h', Bool.and_false]
theorem lc_only {N : List Str} {sc : Scope} {p : PX} {a : Expr} {b : List Comprehension} {c : Scope} {d : Pos} (h : isX N sc p (.ListComp a b c d) = true) : ∃ elt own tg it cnd, p = .lc elt own tg it cnd := by
  cases p <;> first | (exact absurd h Bool.false_ne_true) | exact ⟨_, _, _, _, _, rfl⟩
theorem s_asg {i : Nat} {p : PX} (hp : PEs C X p) (hl : ∀ elt own tg it cnd, p = .lc elt own tg it cnd → PIs C X it ∧ (∀ X', Ctx { C with E := X0 } X' → PEs { C with E := X0 } X' elt) ∧ (∀ X', Ctx { C with E := X0 } X' → PFs { C with E := X0 } X' cnd)) : PSt C X (.asg i p) := fun s h => by
  cases s <;> first | (exact absurd h Bool.false_ne_true) | skip
  rename_i ts e pos
  match ts, h with
  | [], h => exact absurd h Bool.false_ne_true
  | t :: _ :: _, h => cases t <;> exact absurd h Bool.false_ne_true
  | [t], h =>
    cases t <;> first | (exact absurd h Bool.false_ne_true) | skip
    rename_i x pos'
    obtain ⟨h, h3⟩ := and_of (show (locB X.N X.env.scope (fun _ => true) i x && isX X.N X.env.scope p e && (!compB e || isLcB e)) = true from h)
    obtain ⟨h1, h2⟩ := and_of h
    obtain ⟨n1, n2, n3⟩ := loc_of K h1
    have fin : ∀ D σ H, rS C (.asg i p) D σ H → tAsg (rE C p) (gName i) D σ H := fun D σ H ⟨σd, M, R, F, Kd, sr, q, w⟩ =>
      ⟨σd, M, R, F, _, sr, q, fun d M1 v F1 H1 q1 e1 g1 r1 => w.nx _ M1 F1 _ H1 q1 e1 ⟨sr.e, sr.f0.trans e1, (sr.env.mono e1).set i r1, g1⟩⟩
    cases hc : compB e with
    | false => exact PS.imp (ps_set K.g.nd n1 n2 (hp e h2) (swaps_no K hc _ _ _) n3) fin
    | true =>
      cases e <;> first | (cases hc; done) | (rw [hc] at h3; exact absurd h3 Bool.false_ne_true) | skip
      rename_i elt gens scope cpos _ _
      cases hw : swB X.env.scope x pos' (.ListComp elt gens scope cpos) with
      | false => exact PS.imp (ps_set K.g.nd n1 n2 (hp _ h2) (swaps_lc K hw) n3) fin
      | true =>
        obtain ⟨elt', own, tg, it, cnd, rfl⟩ := lc_only K h2
        obtain ⟨hi, he, hf⟩ := hl _ _ _ _ _ rfl
        obtain ⟨hw, w3⟩ := and_of (show ((match X.env.scope.names.lookup x with | some .local => true | _ => false) && (pos'.line == cpos.line) && !(scope.names.any fun (n, k) => n == x && (k == .local || k == .cell))) = true from hw)
        obtain ⟨w1, w2⟩ := and_of hw
        have hx : X.env.scope.names.lookup x = some .local := by
          split at w1
          · assumption
          · cases w1
        have h := h2
        match gens, h with
        | [], h => exact absurd h Bool.false_ne_true
        | ⟨_, _, _, .negSucc _⟩ :: _ :: _, h => exact absurd h Bool.false_ne_true
        | ⟨_, _, _, .ofNat 0⟩ :: _ :: _, h => exact absurd h Bool.false_ne_true
        | ⟨_, _, _, .ofNat (_ + 1)⟩ :: _ :: _, h => exact absurd h Bool.false_ne_true
        | [⟨t, i, ifs, .negSucc _⟩], h => exact absurd h Bool.false_ne_true
        | [⟨t, i, ifs, .ofNat (_ + 1)⟩], h => exact absurd h Bool.false_ne_true
        | [⟨t, i, ifs, .ofNat 0⟩], h =>
          obtain ⟨h, h6⟩ := and_of (show (blkB X.N X.env.scope scope own && tgIn (own.map (·.2)) tg && isIt X.N X.env.scope it i && isTg X.N (relS scope X.env.scope) (fun x => scope.names.lookup x == some .cell) tg t && isIf X.N (relS scope X.env.scope) cnd ifs && isX X.N (relS scope X.env.scope) elt' elt) = true from h)
          obtain ⟨h, h5⟩ := and_of h
          obtain ⟨h, h4⟩ := and_of h
          obtain ⟨h, h3'⟩ := and_of h
          obtain ⟨h1', h2'⟩ := and_of h
          have ok : BlkOk X.N X.env.scope scope (own.map fun p => (Str.ofString p.1, p.2)) := blkOk_by h1'
          have eo : (own.map fun p => (Str.ofString p.1, p.2)).map (·.2) = own.map (·.2) := by rw [List.map_map]; rfl
          refine PS.imp (ps_setLc (g := tgRd X.K tg) K.g.calm K.g.nd n1 hx (sw_true K.kind hx w2 (not_t K w3)) (hi t i h3') ok
            (fun s H Ca cl fp => tg_pg (X := X.blk s H scope (compEnvC scope cl Ca X.env) fp) K.g.calm K.g.nd (fnb := fun x => scope.names.lookup x == some .cell) (fun _ z => z) tg h4)
            (fun s H Ca cl fp => hf _ (blk_ctx K.toCtx s H scope cl Ca fp) ifs h5)
            (fun s H Ca cl fp => he _ (blk_ctx K.toCtx s H scope cl Ca fp) elt h6) (fold_of K.toCtx h3' _)) fun D σ H q => ?_
          rw [eo]
          exact lc_imp K.toCtx h2' σ H _ (fin D σ H q)
theorem s_asgT {t : Tg} {p : PX} (hp : PEs C X p) : PSt C X (.asgT t p) := fun s h => by
  cases s <;> first | (exact absurd h Bool.false_ne_true) | skip
  rename_i ts e pos
  match ts, h with
  | [], h => exact absurd h Bool.false_ne_true
  | u :: _ :: _, h => cases u <;> exact absurd h Bool.false_ne_true
  | [u], h =>
    cases u <;> first | (exact absurd h Bool.false_ne_true) | skip
    rename_i es k pos'
    obtain ⟨h, h4⟩ := and_of (show (isTg X.N X.env.scope (fun _ => true) t (.Tuple es k pos') && isX X.N X.env.scope p e && !compB e && !tupB e) = true from h)
    obtain ⟨h, h3⟩ := and_of h
    obtain ⟨h1, h2⟩ := and_of h
    have sw : swappedStores [.Tuple es k pos'] e X.env = pure none := by
      cases e <;> first | rfl | (cases h4; done)
    refine PS.imp (ps_asg (hp e h2) (tg_pg K.g.calm K.g.nd (fun x _ => K.fn x) t h1) (show swapsWith e (some (.Tuple es k pos')) pos.line X.env = pure false from swaps_no K (not_t K h3) _ _ _) sw rfl) fun D σ H ⟨σd, M, R, F, Kd, sr, q, w⟩ => ?_
    refine ⟨σd, M, R, F, _, sr, q, fun d M1 v F1 H1 q1 e1 g1 r1 => ?_⟩
    refine tg_mono t (tg_sem K.g.K g1 t r1 (sr.env.mono e1) q1) ?_
    intro σ2 H2 ⟨e2, _, σd2, env2, q2⟩
    subst e2
    exact w.nx σd2 M1 F1 σ2 _ q2 e1 ⟨sr.e, sr.f0.trans e1, env2, g1⟩
theorem any_rd {G : Glob} {F : Hp} {kd : D} {k : Key} (hk : keyOf kd = some k) : ∀ {vs : List (Key × V)} {ds : List (D × D)}, RpD G F vs ds → (vs.any fun kv => decide (kv.1 = k)) = ds.any fun e => decide (keyOf e.1 = keyOf kd)
  | _, _, .nil => rfl
  | _, _, .cons h1 _ rs => by
    rw [List.any_cons, List.any_cons, any_rd hk rs, h1, hk]
    congr 1
    exact decide_eq_decide.mpr ⟨fun e => congrArg some e, fun e => Option.some.inj e⟩
theorem app_rd {G : Glob} {F : Hp} {kd d : D} {k : Key} {v : V} (hk : keyOf kd = some k) (r : Rp G F v d) : ∀ {vs : List (Key × V)} {ds : List (D × D)}, RpD G F vs ds → RpD G F (vs ++ [(k, v)]) (ds ++ [(kd, d)])
  | _, _, .nil => .cons hk r .nil
  | _, _, .cons h1 r1 rs => .cons h1 r1 (app_rd hk r rs)
theorem map_rd {G : Glob} {F : Hp} {kd d : D} {k : Key} {v : V} (hk : keyOf kd = some k) (r : Rp G F v d) : ∀ {vs : List (Key × V)} {ds : List (D × D)}, RpD G F vs ds → RpD G F (vs.map fun kv => if kv.1 = k then (kv.1, v) else kv) (ds.map fun e => if keyOf e.1 = keyOf kd then (e.1, d) else e)
  | _, _, .nil => .nil
  | _, _, .cons (k := k') (kd := kd') h1 r1 rs => by
    rw [List.map_cons, List.map_cons]
    by_cases e : k' = k
    · have e2 : keyOf kd' = keyOf kd := by rw [h1, hk, e]
      rw [if_pos (show (k', _).1 = k from e), if_pos (show keyOf (kd', _).1 = keyOf kd from e2)]
      exact .cons h1 r (map_rd hk r rs)
    · have e2 : ¬ keyOf kd' = keyOf kd := by rw [h1, hk]; exact fun z => e (Option.some.inj z)
      rw [if_neg (show ¬ (k', _).1 = k from e), if_neg (show ¬ keyOf (kd', _).1 = keyOf kd from e2)]
      exact .cons h1 r1 (map_rd hk r rs)
theorem put_rd {G : Glob} {F : Hp} {kd d : D} {k : Key} {v : V} (hk : keyOf kd = some k) (r : Rp G F v d) {vs : List (Key × V)} {ds : List (D × D)} (rd : RpD G F vs ds) : RpD G F (putK vs k v) (putD kd d ds) := by
  unfold putK putD
  rw [any_rd K hk rd]
  split
  · exact map_rd K hk r rd
  · exact app_rd K hk r rd
theorem fld_rd {G : Glob} {F : Hp} {f : String} {d : D} {v : V} (r : Rp G F v d) : ∀ {vs : List (Str × V)} {ds : List (String × D)}, RpF G F vs ds → RpF G F (putF (Str.ofString f) v vs) (putFd f d ds)
  | _, _, .nil => .cons r .nil
  | _, _, .cons (f := g) r1 rs => by
    unfold putFd putF
    by_cases e : g = f
    · subst e
      rw [if_pos rfl, if_pos rfl]
      exact .cons r rs
    · rw [if_neg e, if_neg (fun z => e (ofString_inj.mp z))]
      exact .cons r1 (fld_rd r rs)
/-- o[i] = v -/
def tSto (C : Cq) : TSet := fun o i v H Q => ∃ dx dk dv F M R Qd, Good C.G R F H M ∧ Rp C.G F o dx ∧ Rp C.G F i dk ∧ Rp C.G F v dv ∧ wSto dx dk dv M Qd ∧ (∀ M' H', Qd M' → Good C.G R F H' M' → Q H')
theorem set_D : PSet X (tSto C) := by
  intro pins s σ H o i v ov iv u Q I ro ri rv h
  obtain ⟨dx, dk, dv, F, M, R, Qd, g, r1, r2, r3, hw, w⟩ := h
  unfold wSto at hw
  split at hw
  · rename_i p
    cases r1
    split at hw
    · rename_i xs e
      obtain ⟨_, ho, hh, rm⟩ := g.mt p _ e
      cases rm with
      | lst rl =>
        split at hw
        · rename_i j
          cases r2
          split at hw
          · rename_i n hn
            refine set_list pins s σ H _ _ v ov iv u Q I ro ri rv ⟨p, _, j, n, rfl, rfl, hh, by rw [rl.length]; exact hn, ?_⟩
            exact w _ _ hw (g.write e (.lst (rl.set r3 n)))
          · exact hw.elim
        · exact hw.elim
    · rename_i kvs e
      obtain ⟨hk, hl, hq⟩ := hw
      obtain ⟨k, hk⟩ := Option.isSome_iff_exists.mp hk
      obtain ⟨_, ho, hh, rm⟩ := g.mt p _ e
      cases rm with
      | dic rd =>
        have ei := keyOf_rp K.g r2 hk
        subst ei
        obtain rfl : ov = Value.ref p := ro
        refine d_setItem (by have := K.g.un; omega) I (DPut.k hh (by rw [rd.length, line_eq]; exact hl)) ri rv fun s' I' => ⟨_, I', ?_⟩
        exact w _ _ hq (g.write e (.dic (put_rd K hk r3 rd)))
    · exact hw.elim
  · exact hw.elim
theorem s_sto {a b p : PX} (ha : PEs C X a) (hb : PEs C X b) (hp : PEs C X p) : PSt C X (.sto a b p) := fun s h => by
  cases s <;> first | (exact absurd h Bool.false_ne_true) | skip
  rename_i ts e pos
  match ts, h with
  | [], h => exact absurd h Bool.false_ne_true
  | u :: _ :: _, h => cases u <;> exact absurd h Bool.false_ne_true
  | [u], h =>
    cases u <;> first | (exact absurd h Bool.false_ne_true) | skip
    rename_i x y pos'
    obtain ⟨h, h4⟩ := and_of (show (isX X.N X.env.scope a x && isX X.N X.env.scope b y && isX X.N X.env.scope p e && !compB e) = true from h)
    obtain ⟨h, h3⟩ := and_of h
    obtain ⟨h1, h2⟩ := and_of h
    have sw : swappedStores [.Subscript x y pos'] e X.env = pure none := by cases e <;> rfl
    have as : ∀ v, assign (.Subscript x y pos') X.env v = (do
      let ov ← holding [v] (eval x X.env)
      let iv ← holding [v, ov] (eval y X.env)
      standAt pos'
      holding [v, ov, iv] (setItem ov iv v)
      release [v, ov, iv] []) := by
      intro v
      cases y <;> first | rfl | (exfalso; rw [isX_slice] at h2; cases h2)
    refine PS.imp (ps_asg (hp e h3) (pg_sub (ha x h1) (hb y h2) (set_D K) as) (show swapsWith e (some (.Subscript x y pos')) pos.line X.env = pure false from swaps_no K (not_t K h4) _ _ _) sw rfl) fun D σ H ⟨σd, M, R, F, Kd, sr, q, w⟩ => ?_
    refine ⟨σd, M, R, F, _, sr, q, fun d M1 v F1 H1 q1 e1 g1 r1 => ?_⟩
    have sr1 := sr.step e1 g1
    refine ⟨σd, M1, R, F1, _, sr1, q1, fun dx M2 vx F2 H2 q2 e2 g2 r2 => ?_⟩
    have sr2 := sr1.step e2 g2
    refine ⟨σd, M2, R, F2, _, sr2, q2, fun dk M3 vk F3 H3 q3 e3 g3 r3 => ?_⟩
    have sr3 := sr2.step e3 g3
    exact ⟨dx, dk, d, F3, M3, R, _, g3, r2.mono e3, r3, r1.mono (e2.trans e3), q3, fun M4 H4 q4 g4 => w.nx σd M4 F3 σ H4 q4 ((e1.trans e2).trans e3) ⟨sr3.e, sr3.f0, sr3.env, g4⟩⟩
theorem wfld_ok {cl f : String} {x d : D} {M : Store} {R F H : Hp} {vx v : V} {Q : Store → Prop} (o : AttrF C.G cl f) (g : Good C.G R F H M) (rx : Rp C.G F vx x) (rv : Rp C.G F v d) (h : wFld cl x f d M Q) :
    ∃ a Ca dx fs M', C.G.mg (Str.ofString cl) = some (.ref Ca) ∧ vx = .ref a ∧ H a = some (.ins Ca dx fs) ∧ Cls X.K Ca ∧ NoAttr X.K Ca (Str.ofString f) ∧ fs.length < 1000 ∧ Good C.G R F (upd H a (.ins Ca dx (putF (Str.ofString f) v fs))) M' ∧ Q M' := by
  obtain ⟨Ca, hm, cl', na⟩ := o.ex
  unfold wFld at h
  split at h
  · rename_i q
    cases rx
    split at h
    · rename_i c fs e
      obtain ⟨rfl, hl, hq⟩ := h
      obtain ⟨_, ho, hh, rm⟩ := g.mt q _ e
      cases rm with
      | inst hc rf =>
        rw [hm] at hc
        cases hc
        exact ⟨q, Ca, _, _, _, hm, rfl, hh, by rw [K.g.K]; exact cl', by rw [K.g.K]; exact na, by rw [rf.length]; exact hl, g.write e (.inst hm (fld_rd K rv rf)), hq⟩
    · exact h.elim
  · exact h.elim
theorem s_fld {cl f : String} {a p : PX} (o : AttrF C.G cl f) (ha : PEs C X a) (hp : PEs C X p) : PSt C X (.fld cl a f p) := fun s h => by
  cases s <;> first | (exact absurd h Bool.false_ne_true) | skip
  rename_i ts e pos
  match ts, h with
  | [], h => exact absurd h Bool.false_ne_true
  | u :: _ :: _, h => cases u <;> exact absurd h Bool.false_ne_true
  | [u], h =>
    cases u <;> first | (exact absurd h Bool.false_ne_true) | skip
    rename_i x nm pos'
    obtain ⟨h, h4⟩ := and_of (show (isX X.N X.env.scope a x && decide (nm = Str.ofString f) && isX X.N X.env.scope p e && !compB e) = true from h)
    obtain ⟨h, h3⟩ := and_of h
    obtain ⟨h1, h2⟩ := and_of h
    have h2 := of_decide_eq_true h2
    subst h2
    refine PS.imp (ps_fld (ha x h1) (hp e h3) (swaps_no K (not_t K h4) _ _ _)) fun D σ H ⟨σd, M, R, F, Kd, sr, q, w⟩ => ?_
    refine ⟨σd, M, R, F, _, sr, q, fun d M1 v F1 H1 q1 e1 g1 r1 => ?_⟩
    have sr1 := sr.step e1 g1
    refine ⟨σd, M1, R, F1, _, sr1, q1, fun dx M2 vx F2 H2 q2 e2 g2 r2 => ?_⟩
    have sr2 := sr1.step e2 g2
    obtain ⟨b, Ca, dd, fs, M', _, k1, k2, k3, k4, k5, k6, k7⟩ := wfld_ok K o g2 r2 (r1.mono e2) q2
    exact ⟨b, Ca, dd, fs, k1, k2, k3, k4, k5, w.nx σd M' F2 σ _ k7 (e1.trans e2) ⟨sr2.e, sr2.f0, sr2.env, k6⟩⟩
def augO : BOp → Operator
  | .sub => .Sub | _ => .Add
theorem ip_D (o : BOp) : PIp X (augO o) (rD C.G (wIp o)) := by
  intro pins s σ H x y v u Q I rx ry h
  obtain ⟨dx, dy, F, M, R, Qd, g, r1, r2, hw, w⟩ := h
  unfold wIp at hw
  split at hw
  · cases r1; cases r2
    exact iop_add pins s σ H _ _ v u Q I rx ry ⟨_, _, rfl, rfl, w.at g (.int _) hw⟩
  · cases r1; cases r2
    refine iop_add_str pins s σ H _ _ v u Q I rx ry ⟨_, _, rfl, rfl, ?_, ?_⟩
    · rw [ofString_len, ofString_len, line_eq]; exact hw.1
    · rw [← ofString_append]; exact w.at g (.str _) hw.2
  · cases r1; cases r2
    exact iop_sub pins s σ H _ _ v u Q I rx ry ⟨_, _, rfl, rfl, w.at g (.int _) hw⟩
  · exact hw.elim
theorem s_aug {o : BOp} {i : Nat} {p : PX} (hp : PEs C X p) : PSt C X (.aug o i p) := fun s h => by
  cases s <;> first | (exact absurd h Bool.false_ne_true) | skip
  rename_i u op e pos
  cases u <;> first | (exact absurd h Bool.false_ne_true) | skip
  rename_i x pos'
  obtain ⟨h, h3⟩ := and_of (show (augB o op && locB X.N X.env.scope (fun _ => true) i x && isX X.N X.env.scope p e) = true from h)
  obtain ⟨h1, h2⟩ := and_of h
  obtain ⟨n1, n2, n3⟩ := loc_of K h2
  have eo : op = augO o := by cases o <;> cases op <;> first | rfl | (cases h1; done)
  subst eo
  refine PS.imp (ps_aug K.g.nd n1 n2 (hp e h3) (ip_D K o) n3) fun D σ H ⟨σd, M, R, F, Kd, sr, q, w⟩ => ?_
  have q' : getS σd i fun x => dE C.E p σd M fun y M1 => wIp o x y M1 fun z M2 => Kd.nx (σd.set i (some z)) M2 := q
  unfold getS at q'
  split at q'
  · rename_i d ed
    obtain ⟨v, ev, rv⟩ := sr.env.at_ i d ed
    refine ⟨v, ev, σd, M, R, F, _, sr, q', fun y M1 vy F1 H1 q1 e1 g1 r1 => ?_⟩
    have sr1 := sr.step e1 g1
    exact ⟨d, y, F1, M1, R, _, g1, rv.mono e1, r1, q1, fun z M2 vz F2 H2 q2 e2 g2 r2 => w.nx _ M2 F2 _ H2 q2 (e1.trans e2) ⟨sr1.e, sr1.f0.trans e2, (sr1.env.mono e2).set i r2, g2⟩⟩
  · exact q'.elim
theorem s_augF {cl f : String} {a p : PX} (o : AttrF C.G cl f) (ha : PEs C X a) (hp : PEs C X p) : PSt C X (.augF cl a f p) := fun s h => by
  cases s <;> first | (exact absurd h Bool.false_ne_true) | skip
  rename_i u op e pos
  cases u <;> first | (exact absurd h Bool.false_ne_true) | skip
  rename_i x nm pos'
  cases op <;> first | (exact absurd h Bool.false_ne_true) | skip
  obtain ⟨h, h3⟩ := and_of (show (isX X.N X.env.scope a x && decide (nm = Str.ofString f) && isX X.N X.env.scope p e) = true from h)
  obtain ⟨h1, h2⟩ := and_of h
  have h2 := of_decide_eq_true h2
  subst h2
  refine PS.imp (ps_fldaug (ha x h1) (hp e h3) (show InOp X .Add (rD C.G (wIp .add)) from ip_D K .add)) fun D σ H ⟨σd, M, R, F, Kd, sr, q, w⟩ => ?_
  refine ⟨σd, M, R, F, _, sr, q, fun dx M1 vx F1 H1 q1 e1 g1 r1 => ?_⟩
  have sr1 := sr.step e1 g1
  obtain ⟨Ca, hm, cl', na⟩ := o.ex
  split at q1
  · rename_i c fs ei
    obtain ⟨rfl, q1⟩ := q1
    obtain ⟨b, C', dd, vs, rfl, hH, hc, rf⟩ := asI_rp g1 r1 ei
    rw [hm] at hc
    cases hc
    split at q1
    · rename_i d2 el
      obtain ⟨v2, e3, r3⟩ : ∃ v, vs.lookup (Str.ofString f) = some v ∧ Rp C.G F1 v d2 := by
        rcases lookF_rp f rf with ⟨v, d', k1, k2, k3⟩ | ⟨_, k2⟩
        · rw [el] at k2; cases k2; exact ⟨v, k1, k3⟩
        · rw [el] at k2; cases k2
      refine ⟨b, Ca, dd, vs, v2, rfl, hH, by rw [K.g.K]; exact cl', by rw [K.g.K]; exact na, e3, σd, M1, R, F1, _, sr1, q1, fun y M2 vy F2 H2 q2 e2 g2 r2 => ?_⟩
      have sr2 := sr1.step e2 g2
      refine ⟨d2, y, F2, M2, R, _, g2, r3.mono e2, r2, q2, fun z M3 vz F3 H3 q3 e3 g3 r4 => ?_⟩
      have sr3 := sr2.step e3 g3
      obtain ⟨b', Ca', dd', fs', M', k0, k1, k2, k3, k4, k5, k6, k7⟩ := wfld_ok K o g3 (r1.mono (e2.trans e3)) r4 q3
      cases k1
      rw [hm] at k0
      cases k0
      exact ⟨dd', fs', k2, k5, w.nx σd M' F3 σ _ k7 ((e1.trans e2).trans e3) ⟨sr3.e, sr3.f0, sr3.env, k6⟩⟩
    · exact q1.elim
  · exact q1.elim
theorem s_ex {p : PX} (hp : PEs C X p) : PSt C X (.ex p) := fun s h => by
  cases s <;> first | (exact absurd h Bool.false_ne_true) | skip
  rename_i e pos
  obtain ⟨h1, h2⟩ := and_of (show (isX X.N X.env.scope p e && !compB e) = true from h)
  refine PS.imp (ps_expr (hp e h1) (swaps_no K (not_t K h2) _ _ _)) fun D σ H ⟨σd, M, R, F, Kd, sr, q, w⟩ => ?_
  exact ⟨σd, M, R, F, _, sr, q, fun d M1 v F1 H1 q1 e1 g1 r1 => w.nx σd M1 F1 σ H1 q1 e1 (sr.step e1 g1)⟩
theorem s_ret {p : PX} (hp : PEs C X p) : PSt C X (.ret p) := fun s h => by
  cases s <;> first | (exact absurd h Bool.false_ne_true) | skip
  rename_i e pos
  cases e with
  | none => exact absurd h Bool.false_ne_true
  | some e =>
    refine PS.imp (ps_ret (hp e h)) fun D σ H ⟨σd, M, R, F, Kd, sr, q, w⟩ => ?_
    exact ⟨σd, M, R, F, _, sr, q, fun d M1 v F1 H1 q1 e1 g1 r1 => w.rt d M1 v F1 H1 q1 e1 g1 r1⟩
theorem s_retN : PSt C X .retN := fun s h => by
  cases s <;> first | (exact absurd h Bool.false_ne_true) | skip
  rename_i e pos
  cases e with
  | some e => exact absurd h Bool.false_ne_true
  | none => exact PS.imp ps_retN fun D σ H ⟨σd, M, R, F, Kd, sr, q, w⟩ => w.rt .non M .non F H q (Ex.refl F) sr.good .non
theorem s_iff {t : PT} {a b : Sts} (ht : PTt C X t) (ha : PSst C X a) (hb : PSst C X b) : PSt C X (.iff t a b) := fun s h => by
  cases s <;> first | (exact absurd h Bool.false_ne_true) | skip
  rename_i e x y pos
  obtain ⟨h, h3⟩ := and_of (show (isT X.N X.env.scope t e && isSs X.N X.env.scope a x && isSs X.N X.env.scope b y) = true from h)
  obtain ⟨h1, h2⟩ := and_of h
  refine PS.imp (ps_if (ht e h1) (ha x h2) (hb y h3)) fun D σ H ⟨σd, M, R, F, Kd, sr, q, w⟩ => ?_
  refine ⟨σd, M, R, F, _, sr, q, fun c M1 F1 H1 q1 e1 g1 => ?_⟩
  have sr1 := sr.step e1 g1
  cases c with
  | true =>
    show (if _ = _ then _ else _)
    rw [if_pos rfl]
    exact ⟨σd, M1, R, F1, Kd, sr1, q1, w.mono e1⟩
  | false =>
    show (if _ = _ then _ else _)
    rw [if_neg Bool.false_ne_true]
    exact ⟨σd, M1, R, F1, Kd, sr1, q1, w.mono e1⟩
theorem s_whl {t : PT} {b : Sts} (ht : PTt C X t) (hb : PSst C X b) : PSt C X (.whl t b) := fun s h => by
  cases s <;> first | (exact absurd h Bool.false_ne_true) | skip
  rename_i e x els pos
  cases els with
  | cons _ _ => exact absurd h Bool.false_ne_true
  | nil =>
    obtain ⟨h1, h2⟩ := and_of (show (isT X.N X.env.scope t e && isSs X.N X.env.scope b x) = true from h)
    refine PS.imp (ps_while K.own (ht e h1) (hb x h2)) fun D σ H ⟨σd, M, R, F, Kd, sr, ⟨W, ⟨m0, w0⟩, turn⟩, w⟩ => ?_
    refine ⟨fun m σ H => ∃ σd M F', Ex F F' ∧ SR C σd M R F' σ H ∧ W m σd M, ⟨m0, σd, M, F, Ex.refl F, sr, w0⟩, ?_⟩
    rintro m σ1 H1 ⟨σd1, M1, F1, e1, sr1, w1⟩
    refine ⟨σd1, M1, R, F1, _, sr1, turn m σd1 M1 w1, fun c M2 F2 H2 q2 e2 g2 => ?_⟩
    have sr2 := sr1.step e2 g2
    cases c with
    | false =>
      show (if _ = _ then _ else _)
      rw [if_neg Bool.false_ne_true]
      exact w.nx σd1 M2 F2 σ1 H2 q2 (e1.trans e2) sr2
    | true =>
      show (if _ = _ then _ else _)
      rw [if_pos rfl]
      refine ⟨fun σ' H' => ∃ m', m' < m ∧ ∃ σd M F', Ex F F' ∧ SR C σd M R F' σ' H' ∧ W m' σd M, fun σ' H' h => h, σd1, M2, R, F2, _, sr2, q2, ?_⟩
      exact ⟨fun σd M F' σ H ⟨m', hm, hw⟩ e3 s3 => ⟨m', hm, σd, M, F', (e1.trans e2).trans e3, s3, hw⟩,
        fun d M v F' H' q e3 g r => w.rt d M v F' H' q ((e1.trans e2).trans e3) g r,
        fun σd M F' σ H q e3 s3 => w.nx σd M F' σ H q ((e1.trans e2).trans e3) s3,
        fun σd M F' σ H ⟨m', hm, hw⟩ e3 s3 => ⟨m', hm, σd, M, F', (e1.trans e2).trans e3, s3, hw⟩⟩
theorem s_for {t : Tg} {it : PIt} {b : Sts} (hi : PIs C X it) (hb : PSst C X b) : PSt C X (.for_ t it b) := fun s h => by
  cases s <;> first | (exact absurd h Bool.false_ne_true) | skip
  rename_i tg e x els pos
  cases els with
  | cons _ _ => exact absurd h Bool.false_ne_true
  | nil =>
    obtain ⟨h, h3⟩ := and_of (show (isTg X.N X.env.scope (fun _ => true) t tg && isIt X.N X.env.scope it e && isSs X.N X.env.scope b x) = true from h)
    obtain ⟨h1, h2⟩ := and_of h
    refine PS.imp (ps_for K.own K.g.calm (hi tg e h2) (tg_pg K.g.calm K.g.nd (fun x _ => K.fn x) t h1) (hb x h3) (fold_of K.toCtx h2 _)) fun D σ H ⟨σd, M, R, F, Kd, sr, q, w⟩ => ?_
    refine ⟨σd, M, R, F, _, sr, q, fun xs g M1 F1 H1 J q1 e1 g1 wk hl => ?_⟩
    have sr1 := sr.step e1 g1
    refine ⟨fun i m σ H' => m = xs.length - i ∧ i ≤ xs.length ∧ ∃ σd M' F', Ex F1 F' ∧ SR C σd M' R F' σ H' ∧
      forGo g (fun x σ M nx => gTg t x σ fun σ' => dSs C.E b { nx := nx, rt := Kd.rt, bk := Kd.nx, ct := nx } σ' M) (xs.drop i) σd M' Kd.nx,
      ⟨xs.length, by simp, Nat.zero_le _, σd, M1, F1, Ex.refl F1, sr1, q1⟩, ?_⟩
    rintro j m σ2 H2 ⟨rfl, hj, σd2, M2, F2, e2, sr2, go⟩
    have gm : g M2 := by
      cases q : xs.drop j with
      | nil => rw [q] at go; exact go.1
      | cons _ _ => rw [q] at go; exact go.1
    obtain ⟨w1, w2⟩ := wk j R F2 H2 M2 e2 sr2.good gm
    by_cases hjl : j < xs.length
    · right
      have hy : xs[j]? = some xs[j] := List.getElem?_eq_getElem hjl
      have hd : xs.drop j = xs[j] :: xs.drop (j + 1) := List.drop_eq_getElem_cons hjl
      rw [hd] at go
      obtain ⟨w3, w4⟩ := w1 _ hy
      refine ⟨w3, fun σ3 H3 => j + 1 ≤ xs.length ∧ ∃ σd M' F', Ex F1 F' ∧ SR C σd M' R F' σ3 H3 ∧
        forGo g (fun x σ M nx => gTg t x σ fun σ' => dSs C.E b { nx := nx, rt := Kd.rt, bk := Kd.nx, ct := nx } σ' M) (xs.drop (j + 1)) σd M' Kd.nx,
        fun σ3 H3 n => ⟨xs.length - (j + 1), by omega, rfl, n.1, n.2⟩, fun v H3 hyl => ?_⟩
      obtain ⟨F3, ex3, gd3, r3⟩ := w4 v H3 hyl
      refine tg_mono t (tg_sem K.g.K gd3 t r3 (sr2.env.mono ex3) go.2) ?_
      intro σ4 H4 ⟨e4, _, σd4, env4, q4⟩
      subst e4
      refine ⟨σd4, M2, R, F3, _, ⟨sr2.e, sr2.f0.trans ex3, env4, gd3⟩, q4, ?_⟩
      exact ⟨fun σd M F' σ H q e5 s5 => ⟨by omega, σd, M, F', (e2.trans ex3).trans e5, s5, q⟩,
        fun d M v F' H' q e5 g r => w.rt d M v F' H' q (((e1.trans e2).trans ex3).trans e5) g r,
        fun σd M F' σ H q e5 s5 => w.nx σd M F' σ H q (((e1.trans e2).trans ex3).trans e5) s5,
        fun σd M F' σ H q e5 s5 => ⟨by omega, σd, M, F', (e2.trans ex3).trans e5, s5, q⟩⟩
    · left
      have hd : xs.drop j = [] := List.drop_eq_nil_of_le (by omega)
      rw [hd] at go
      exact ⟨w2 (by omega), w.nx σd2 M2 F2 σ2 H2 go.2 (e1.trans e2) sr2⟩
theorem s_brk : PSt C X .brk := fun s h => by
  cases s <;> first | (exact absurd h Bool.false_ne_true) | skip
  exact PS.imp ps_break fun D σ H ⟨σd, M, R, F, Kd, sr, q, w⟩ => w.bk σd M F σ H q (Ex.refl F) sr
theorem s_cnt : PSt C X .cnt := fun s h => by
  cases s <;> first | (exact absurd h Bool.false_ne_true) | skip
  exact PS.imp ps_continue fun D σ H ⟨σd, M, R, F, Kd, sr, q, w⟩ => w.ct σd M F σ H q (Ex.refl F) sr
theorem s_pas : PSt C X .pas := fun s h => by
  cases s <;> first | (exact absurd h Bool.false_ne_true) | skip
  exact PS.imp ps_pass fun D σ H ⟨σd, M, R, F, Kd, sr, q, w⟩ => w.nx σd M F σ H q (Ex.refl F) sr
theorem s_never : PSt C X .never := fun s h => PS.imp ps_never fun D σ H ⟨σd, M, R, F, Kd, sr, q, w⟩ => q.elim
theorem ss_nil : PSst C X .nil := fun e h => by
  cases e with
  | cons _ _ => exact absurd h Bool.false_ne_true
  | nil => exact PSs.imp pss_nil fun D σ H ⟨σd, M, R, F, Kd, sr, q, w⟩ => w.nx σd M F σ H q (Ex.refl F) sr
theorem ss_cons {s : St'} {ss : Sts} (h1 : PSt C X s) (h2 : PSst C X ss) : PSst C X (.cons s ss) := fun e h => by
  cases e with
  | nil => exact absurd h Bool.false_ne_true
  | cons x xs =>
    obtain ⟨k1, k2⟩ := and_of (show (isS X.N X.env.scope s x && isSs X.N X.env.scope ss xs) = true from h)
    refine PSs.imp (pss_cons (h1 x k1) (h2 xs k2)) fun D σ H ⟨σd, M, R, F, Kd, sr, q, w⟩ => ?_
    refine ⟨σd, M, R, F, _, sr, q, ?_⟩
    exact ⟨fun σd M F' σ H q e s => ⟨σd, M, R, F', Kd, s, q, w.mono e⟩, fun d M v F' H' q e g r => w.rt d M v F' H' q e g r, fun σd M F' σ H q e s => w.bk σd M F' σ H q e s, fun σd M F' σ H q e s => w.ct σd M F' σ H q e s⟩
theorem ss_gh {Rg : Ghost} {ss : Sts} (o : GhOk C.G Rg) (h2 : PSst C X ss) : PSst C X (.gh Rg ss) := fun e h => by
  refine PSs.imp (h2 e h) fun D σ H ⟨σd, M, R, F, Kd, sr, ⟨σd', M', hr, q⟩, w⟩ => ?_
  obtain ⟨F', e1, env', g'⟩ := o σd M σd' M' R F σ H hr sr.env sr.good
  exact ⟨σd', M', R, F', Kd, ⟨sr.e, sr.f0.trans e1, env', g'⟩, q, w.mono e1⟩
end
mutual
theorem sS : ∀ (s : St') {C : Cq} {X : Cx}, CtxS C X → okS C.G C.k s → PSt C X s
  | .asg i p, C, X, K, o => s_asg K (sX p K.toCtx o) fun elt own tg it cnd e => by
    subst e
    exact ⟨sIt it K.toCtx o.2.1, fun X' K' => sX elt K' o.1, fun X' K' => sIf cnd K' o.2.2⟩
  | .asgT t p, C, X, K, o => s_asgT K (sX p K.toCtx o)
  | .sto a b p, C, X, K, o => s_sto K (sX a K.toCtx o.1) (sX b K.toCtx o.2.1) (sX p K.toCtx o.2.2)
  | .fld cl a f p, C, X, K, o => s_fld K o.1 (sX a K.toCtx o.2.1) (sX p K.toCtx o.2.2)
  | .aug _ _ p, C, X, K, o => s_aug K (sX p K.toCtx o)
  | .augF cl a f p, C, X, K, o => s_augF K o.1 (sX a K.toCtx o.2.1) (sX p K.toCtx o.2.2)
  | .ex p, C, X, K, o => s_ex K (sX p K.toCtx o)
  | .ret p, C, X, K, o => s_ret K (sX p K.toCtx o)
  | .retN, C, X, K, o => s_retN K
  | .iff t a b, C, X, K, o => s_iff K (sT t K.toCtx o.1) (sSs a K o.2.1) (sSs b K o.2.2)
  | .whl t b, C, X, K, o => s_whl K (sT t K.toCtx o.1) (sSs b K o.2)
  | .for_ _ it b, C, X, K, o => s_for K (sIt it K.toCtx o.1) (sSs b K o.2)
  | .brk, C, X, K, o => s_brk K
  | .cnt, C, X, K, o => s_cnt K
  | .pas, C, X, K, o => s_pas K
  | .never, C, X, K, o => s_never K
  | .pr m w es, C, X, K, o => fun e h => by
    replace h : (match m X.N X.env.scope e with | some xs => isXs X.N X.env.scope es xs | none => false) = true := h
    split at h
    · rename_i xs hx
      exact o.1.ok K rfl rfl rfl hx h (sAll es K.toCtx o.2)
    · cases h
theorem sSs : ∀ (s : Sts) {C : Cq} {X : Cx}, CtxS C X → okSs C.G C.k s → PSst C X s
  | .nil, C, X, K, o => ss_nil K
  | .cons s ss, C, X, K, o => ss_cons K (sS s K o.1) (sSs ss K o.2)
  | .gh R ss, C, X, K, o => ss_gh K o.1 (sSs ss K o.2)
end
theorem env_start {G : Glob} {F : Hp} : ∀ {vs : List V} {ds : List D} (n : Nat), RpL G F vs ds → EnvR G F (ds.map some ++ List.replicate n none) (vs.map some ++ List.replicate n none) := fun {vs ds} n r => by
  refine ⟨by rw [List.length_append, List.length_append, List.length_map, List.length_map, r.length, List.length_replicate, List.length_replicate], fun i d q => ?_⟩
  by_cases hi : i < ds.length
  · rw [List.getElem?_append_left (by rw [List.length_map]; exact hi), List.getElem?_map] at q
    cases qd : ds[i]? with
    | none => rw [qd] at q; cases q
    | some d' =>
      rw [qd] at q
      cases q
      obtain ⟨v, hv, rv⟩ := r.get qd
      refine ⟨v, ?_, rv⟩
      rw [List.getElem?_append_left (by rw [List.length_map, r.length]; exact hi), List.getElem?_map, hv]
      rfl
  · rw [List.getElem?_append_right (by rw [List.length_map]; omega), List.getElem?_replicate] at q
    split at q <;> cases q
/-- the store of a def's names at its entry -/
def startD (n : Nat) (ds : List D) : Env := ds.map some ++ List.replicate (n - ds.length) none
/-- THE RULE: a def that matches c keeps the promise sp, if the reading of c says so -/
theorem def_ok {G : Glob} {x qual : Str} {st : Stmt} {f : Addr} {fd : FuncData} {N ps : List Str} {k : Nat} {sp : Spec} (c : Sts) (Fn : L2.Fun G.K x qual st f fd) (S : FnScope N ps (defScope st))
    (hm : isSs N (defScope st) c (defBody st) = true) (ok : okSs G k c) (hsp : ∀ ds M Q E, ds.length = ps.length → sp ds M Q E → dSs E c { nx := fun _ M' => Q .non M', rt := Q } (startD N.length ds) M) :
    FnOk G.prog G.w G.K G.mg G.base (L2.CX G.prog G.w) (k + 1) f fd ps (toSp G ps.length sp) := by
  refine Fn.okX S (fun vs H Q E ⟨ds, F, M, R, Qd, Ed, hl, g, r, _⟩ => by rw [r.length, hl]) fun cdv A outer s H vs Q E hr ⟨ds, F, M, R, Qd, Ed, hl, g, r, hs, w, wx⟩ => ?_
  have ek : ∀ cls d (H' : Hp), excK { G := G, R := R, F0 := F, E := Ed, k := k } cls d H' → E cls d H' := fun cls d H' ⟨c, fs, M', F', hE, ex, gd, hmg, ⟨Ca, hca⟩, hd⟩ => by
    subst hca
    have z := wx c fs M' F' H' Ca hE ex gd hmg
    cases fs with
    | none =>
      cases d with
      | none => exact z
      | some _ => exact hd.elim
    | some fs =>
      cases d with
      | none => exact hd.elim
      | some da =>
        obtain ⟨xfs, h1, h2⟩ := hd
        exact z da xfs h1 h2
  have K : CtxS { G := G, R := R, F0 := F, E := Ed, k := k } (cxOf (L2.CX G.prog G.w) G.prog G.w G.K G.mg G.base N qual (defScope st) f cdv A outer s H E) :=
    { g := ⟨rfl, rfl, rfl, rfl, rfl, rfl, S.nd, by have := hr.un; show (A.deeper (envOfC qual (defScope st) s.heap.objs.size f cdv)).units + 65 < cLine; omega⟩
      room := hr
      pass := passes_call (takes_of rfl rfl rfl rfl) fun cls d σ H' h => ek cls d H' h
      kind := S.kind
      own := passes_of rfl
      fn := fun _ => rfl
      tk := (takes_of rfl rfl rfl rfl).imp fun cls d σ H' h => ek cls d H' h
      stk := rfl
      frm := rfl }
  refine ⟨_, sSs c K ok (defBody st) hm, ?_⟩
  refine ⟨startD N.length ds, M, R, F, _, ⟨.inr rfl, Ex.refl F, ?_, g⟩, hsp ds M Qd Ed hl hs, ?_⟩
  · have := env_start (G := G) (N.length - ds.length) r
    unfold startD L2.start
    rw [r.length]
    exact this
  · exact ⟨fun σd M F' σ H' q e s => w .non M .non F' H' q e s.good .non, fun d M v F' H' q e g r => w d M v F' H' q e g r, fun _ _ _ _ _ q => q.elim, fun _ _ _ _ _ q => q.elim⟩
end VS

/-! VS, part 14: what matches does not look at the promises. -/
namespace VS
open PySem PySem.Spec PyProof.Rows L2
def sp0 : Spec := fun _ _ _ _ => False
def ws0 : WS := fun _ _ _ _ _ => False
def gd0 : Gd := fun _ _ _ => False
def wi0 : WI := fun _ _ _ => False
mutual
def eX : PX → PX
  | .v i => .v i | .c d => .c d | .g x d => .g x d
  | .bin o a b => .bin o (eX a) (eX b) | .neg a => .neg (eX a)
  | .cmp o a b => .cmp o (eX a) (eX b) | .cmp2 o1 o2 a b c => .cmp2 o1 o2 (eX a) (eX b) (eX c)
  | .not a => .not (eX a) | .and es => .and (eXs es) | .or es => .or (eXs es) | .ife t a b => .ife (eT t) (eX a) (eX b)
  | .tup es => .tup (eXs es) | .lst es => .lst (eXs es) | .mlst es => .mlst (eXs es) | .mdic => .mdic
  | .ix a b => .ix (eX a) (eX b) | .sl a fl fh lo hi => .sl (eX a) fl fh (eX lo) (eX hi)
  | .call f _ es => .call f sp0 (eXs es)
  | .bi b es => .bi b (eXs es)
  | .isi a t => .isi (eX a) t | .isi2 a t u => .isi2 (eX a) t u
  | .mth m a es => .mth m (eX a) (eXs es)
  | .meth cl m _ a es => .meth cl m sp0 (eX a) (eXs es)
  | .attr cl a f => .attr cl (eX a) f
  | .lc elt own tg it cnd => .lc (eX elt) own tg (eIt it) (eIf cnd)
  | .dc kx vx own tg it cnd => .dc (eX kx) (eX vx) own tg (eIt it) (eIf cnd)
  | .pr m _ es => .pr m sp0 (eXs es)
  | .pg m _ _ es => .pg m gd0 sp0 (eXs es)
def eXs : PXs → PXs
  | .nil => .nil | .cons e es => .cons (eX e) (eXs es)
def eT : PT → PT
  | .val a => .val (eX a) | .and ts => .and (eTs ts) | .or ts => .or (eTs ts) | .not a => .not (eT a)
def eTs : PTs → PTs
  | .nil => .nil | .cons e es => .cons (eT e) (eTs es)
def eIt : PIt → PIt
  | .ex a => .ex (eX a) | .rng1 a => .rng1 (eX a) | .rng2 a b => .rng2 (eX a) (eX b) | .rng3 a b c => .rng3 (eX a) (eX b) (eX c) | .enum a => .enum (eX a) | .zip a b => .zip (eX a) (eX b) | .rev a => .rev (eX a) | .pr m _ es => .pr m wi0 (eXs es)
def eIf : PIf → PIf
  | .nil => .nil | .one t => .one (eT t)
end
mutual
def eS : St' → St'
  | .asg i p => .asg i (eX p) | .asgT t p => .asgT t (eX p) | .sto a b p => .sto (eX a) (eX b) (eX p) | .fld cl a f p => .fld cl (eX a) f (eX p)
  | .aug o i p => .aug o i (eX p) | .augF cl a f p => .augF cl (eX a) f (eX p)
  | .ex p => .ex (eX p) | .ret p => .ret (eX p) | .retN => .retN | .iff t a b => .iff (eT t) (eSs a) (eSs b) | .whl t b => .whl (eT t) (eSs b) | .for_ t it b => .for_ t (eIt it) (eSs b)
  | .brk => .brk | .cnt => .cnt | .pas => .pas | .never => .never | .pr m _ es => .pr m ws0 (eXs es)
def eSs : Sts → Sts
  | .nil => .nil | .cons s ss => .cons (eS s) (eSs ss) | .gh _ ss => eSs ss
end
theorem nonB_e (p : PX) : nonB (eX p) = nonB p := by cases p <;> rfl
mutual
theorem eqX : ∀ (p : PX) (N : List Str) (sc : Scope), isX N sc (eX p) = isX N sc p
  | .v i, N, sc => rfl
  | .c d, N, sc => rfl
  | .g x d, N, sc => rfl
  | .bin o a b, N, sc => funext fun e => by
    cases e <;> first | rfl | (show (bopB o _ && isX N sc (eX a) _ && isX N sc (eX b) _) = _; rw [eqX a, eqX b]; rfl)
  | .neg a, N, sc => funext fun e => by
    cases e <;> first | rfl | skip
    rename_i op x pos
    cases op <;> first | rfl | (show isX N sc (eX a) _ = _; rw [eqX a]; rfl)
  | .cmp o a b, N, sc => funext fun e => by
    cases e <;> first | rfl | skip
    rename_i x ops ys pos
    match ops, ys with
    | [], _ => rfl
    | [_], [] => rfl
    | [op], [y] => show (copB o op && isX N sc (eX a) _ && isX N sc (eX b) _) = _; rw [eqX a, eqX b]; rfl
    | [_], _ :: _ :: _ => rfl
    | _ :: _ :: _, _ => rfl
  | .cmp2 o1 o2 a b c, N, sc => funext fun e => by
    cases e <;> first | rfl | skip
    rename_i x ops ys pos
    match ops, ys with
    | [], _ => rfl
    | [_], _ => rfl
    | [_, _], [] => rfl
    | [_, _], [_] => rfl
    | [p, q], [y, z] => show (copB o1 p && copB o2 q && isX N sc (eX a) _ && isX N sc (eX b) _ && isX N sc (eX c) _) = _; rw [eqX a, eqX b, eqX c]; rfl
    | [_, _], _ :: _ :: _ :: _ => rfl
    | _ :: _ :: _ :: _, _ => rfl
  | .not a, N, sc => funext fun e => by
    cases e <;> first | rfl | skip
    rename_i op x pos
    cases op <;> first | rfl | (show isX N sc (eX a) _ = _; rw [eqX a]; rfl)
  | .and es, N, sc => funext fun e => by
    cases e <;> first | rfl | skip
    rename_i op xs pos
    cases op <;> cases xs <;> first | rfl | (show isXs N sc (eXs es) _ = _; rw [eqXs es]; rfl)
  | .or es, N, sc => funext fun e => by
    cases e <;> first | rfl | skip
    rename_i op xs pos
    cases op <;> cases xs <;> first | rfl | (show isXs N sc (eXs es) _ = _; rw [eqXs es]; rfl)
  | .ife t a b, N, sc => funext fun e => by
    cases e <;> first | rfl | (show (isT N sc (eT t) _ && isX N sc (eX a) _ && isX N sc (eX b) _) = _; rw [eqT t, eqX a, eqX b]; rfl)
  | .tup es, N, sc => funext fun e => by
    cases e <;> first | rfl | (show (isXs N sc (eXs es) _ && _) = _; rw [eqXs es]; rfl)
  | .lst es, N, sc => funext fun e => by
    cases e <;> first | rfl | (show (isXs N sc (eXs es) _ && _) = _; rw [eqXs es]; rfl)
  | .mlst es, N, sc => funext fun e => by
    cases e <;> first | rfl | (show (isXs N sc (eXs es) _ && _) = _; rw [eqXs es]; rfl)
  | .mdic, N, sc => rfl
  | .ix a b, N, sc => funext fun e => by
    cases e <;> first | rfl | (show (isX N sc (eX a) _ && isX N sc (eX b) _) = _; rw [eqX a, eqX b]; rfl)
  | .sl a fl fh lo hi, N, sc => funext fun e => by
    cases e <;> first | rfl | skip
    rename_i x y pos
    cases y <;> first | rfl | skip
    rename_i l h st p
    cases st <;> first | rfl | skip
    show (isX N sc (eX a) x && partB fl l (eX lo) (isX N sc (eX lo)) && partB fh h (eX hi) (isX N sc (eX hi))) = _
    rw [eqX a, eqX lo, eqX hi]
    have hp : ∀ (f : Bool) (o : Option Expr) (q : PX) (g : Expr → Bool), partB f o (eX q) g = partB f o q g := fun f o q g => by
      cases o with
      | some y => rfl
      | none => show (!f && nonB (eX q)) = _; rw [nonB_e]; rfl
    rw [hp, hp]; rfl
  | .call f s es, N, sc => funext fun e => by
    cases e <;> first | rfl | skip
    rename_i fn xs kw pos
    cases kw <;> first | rfl | (show (_ && isXs N sc (eXs es) _) = _; rw [eqXs es]; rfl)
  | .bi b es, N, sc => funext fun e => by
    cases e <;> first | rfl | skip
    rename_i fn xs kw pos
    cases kw <;> first | rfl | (show (_ && isXs N sc (eXs es) _ && _) = _; rw [eqXs es]; rfl)
  | .isi a t, N, sc => funext fun e => by
    cases e <;> first | rfl | skip
    rename_i fn xs kw pos
    match xs, kw with
    | [], _ => rfl
    | [_], _ => rfl
    | [x, z], [] => show (_ && isX N sc (eX a) _ && _) = _; rw [eqX a]; rfl
    | [_, _], _ :: _ => rfl
    | _ :: _ :: _ :: _, _ => rfl
  | .isi2 a t u, N, sc => funext fun e => by
    cases e <;> first | rfl | skip
    rename_i fn xs kw pos
    match xs, kw with
    | [], _ => rfl
    | [_], _ => rfl
    | [x, z], [] =>
      cases z <;> first | rfl | skip
      rename_i zs k p
      match zs with
      | [] => rfl
      | [_] => rfl
      | [z, y] => show (_ && isX N sc (eX a) _ && _ && _) = _; rw [eqX a]; rfl
      | _ :: _ :: _ :: _ => rfl
    | [x, z], _ :: _ =>
      cases z <;> first | rfl | skip
      rename_i zs k p
      match zs with
      | [] => rfl
      | [_] => rfl
      | [z, y] => rfl
      | _ :: _ :: _ :: _ => rfl
    | _ :: z :: _ :: _, _ =>
      cases z <;> first | rfl | skip
      rename_i zs k p
      match zs with
      | [] => rfl
      | [_] => rfl
      | [z, y] => rfl
      | _ :: _ :: _ :: _ => rfl
  | .mth m a es, N, sc => funext fun e => by
    cases e <;> first | rfl | skip
    rename_i fn xs kw pos
    cases fn <;> first | rfl | skip
    cases kw <;> first | rfl | (show (_ && _ && isX N sc (eX a) _ && _ && isXs N sc (eXs es) _ && _) = _; rw [eqX a, eqXs es]; rfl)
  | .meth cl m s a es, N, sc => funext fun e => by
    cases e <;> first | rfl | skip
    rename_i fn xs kw pos
    cases fn <;> first | rfl | skip
    cases kw <;> first | rfl | (show (_ && _ && _ && isX N sc (eX a) _ && _ && isXs N sc (eXs es) _) = _; rw [eqX a, eqXs es]; rfl)
  | .attr cl a f, N, sc => funext fun e => by
    cases e <;> first | rfl | (show (_ && isX N sc (eX a) _ && _) = _; rw [eqX a]; rfl)
  | .lc elt own tg it cnd, N, sc => funext fun e => by
    cases e <;> first | rfl | skip
    rename_i x gens scope pos
    match gens with
    | [] => rfl
    | ⟨_, _, _, .negSucc _⟩ :: _ :: _ => rfl
    | ⟨_, _, _, .ofNat 0⟩ :: _ :: _ => rfl
    | ⟨_, _, _, .ofNat (_ + 1)⟩ :: _ :: _ => rfl
    | [⟨t, i, ifs, .negSucc _⟩] => rfl
    | [⟨t, i, ifs, .ofNat (_ + 1)⟩] => rfl
    | [⟨t, i, ifs, .ofNat 0⟩] =>
      show (_ && _ && isIt N sc (eIt it) i && _ && isIf N (relS scope sc) (eIf cnd) ifs && isX N (relS scope sc) (eX elt) x) = _
      rw [eqIt it, eqIf cnd, eqX elt]; rfl
  | .dc kx vx own tg it cnd, N, sc => funext fun e => by
    cases e <;> first | rfl | skip
    rename_i x y gens scope pos
    match gens with
    | [] => rfl
    | ⟨_, _, _, .negSucc _⟩ :: _ :: _ => rfl
    | ⟨_, _, _, .ofNat 0⟩ :: _ :: _ => rfl
    | ⟨_, _, _, .ofNat (_ + 1)⟩ :: _ :: _ => rfl
    | [⟨t, i, ifs, .negSucc _⟩] => rfl
    | [⟨t, i, ifs, .ofNat (_ + 1)⟩] => rfl
    | [⟨t, i, ifs, .ofNat 0⟩] =>
      show (_ && _ && isIt N sc (eIt it) i && _ && isIf N (relS scope sc) (eIf cnd) ifs && isX N (relS scope sc) (eX kx) x && isX N (relS scope sc) (eX vx) y) = _
      rw [eqIt it, eqIf cnd, eqX kx, eqX vx]; rfl
  | .pr m w es, N, sc => funext fun e => by
    show (prB e && (match m N sc e with | some xs => isXs N sc (eXs es) xs | none => false)) = _
    rw [eqXs es]; rfl
  | .pg m t w es, N, sc => funext fun e => by
    show (prB e && (match m N sc e with | some xs => isXs N sc (eXs es) xs | none => false)) = _
    rw [eqXs es]; rfl
theorem eqXs : ∀ (p : PXs) (N : List Str) (sc : Scope), isXs N sc (eXs p) = isXs N sc p
  | .nil, N, sc => rfl
  | .cons p ps, N, sc => funext fun e => by
    cases e <;> first | rfl | (show (isX N sc (eX p) _ && isXs N sc (eXs ps) _) = _; rw [eqX p, eqXs ps]; rfl)
theorem eqT : ∀ (p : PT) (N : List Str) (sc : Scope), isT N sc (eT p) = isT N sc p
  | .val a, N, sc => funext fun e => by show isX N sc (eX a) e = _; rw [eqX a]; rfl
  | .and es, N, sc => funext fun e => by
    cases e <;> first | rfl | skip
    rename_i op xs pos
    cases op <;> cases xs <;> first | rfl | (show isTs N sc (eTs es) _ = _; rw [eqTs es]; rfl)
  | .or es, N, sc => funext fun e => by
    cases e <;> first | rfl | skip
    rename_i op xs pos
    cases op <;> cases xs <;> first | rfl | (show isTs N sc (eTs es) _ = _; rw [eqTs es]; rfl)
  | .not a, N, sc => funext fun e => by
    cases e <;> first | rfl | skip
    rename_i op x pos
    cases op <;> first | rfl | (show isT N sc (eT a) _ = _; rw [eqT a]; rfl)
theorem eqTs : ∀ (p : PTs) (N : List Str) (sc : Scope), isTs N sc (eTs p) = isTs N sc p
  | .nil, N, sc => rfl
  | .cons p ps, N, sc => funext fun e => by
    cases e <;> first | rfl | (show (isT N sc (eT p) _ && isTs N sc (eTs ps) _) = _; rw [eqT p, eqTs ps]; rfl)
theorem eqIt : ∀ (p : PIt) (N : List Str) (sc : Scope), isIt N sc (eIt p) = isIt N sc p
  | .ex a, N, sc => funext fun e => by show isX N sc (eX a) e = _; rw [eqX a]; rfl
  | .rng1 a, N, sc => funext fun e => by
    cases e <;> first | rfl | skip
    rename_i fn xs kw pos
    match xs, kw with
    | [], _ => rfl
    | [x], [] => show (_ && isX N sc (eX a) _) = _; rw [eqX a]; rfl
    | [x], _ :: _ => rfl
    | _ :: _ :: _, _ => rfl
  | .rng2 a b, N, sc => funext fun e => by
    cases e <;> first | rfl | skip
    rename_i fn xs kw pos
    match xs, kw with
    | [], _ => rfl
    | [x], _ => rfl
    | [x, y], [] => show (_ && isX N sc (eX a) _ && isX N sc (eX b) _) = _; rw [eqX a, eqX b]; rfl
    | [x, y], _ :: _ => rfl
    | _ :: _ :: _ :: _, _ => rfl
  | .rng3 a b c, N, sc => funext fun e => by
    cases e <;> first | rfl | skip
    rename_i fn xs kw pos
    match xs, kw with
    | [], _ => rfl
    | [x], _ => rfl
    | [x, y], _ => rfl
    | [x, y, z], [] => show (_ && isX N sc (eX a) _ && isX N sc (eX b) _ && isX N sc (eX c) _) = _; rw [eqX a, eqX b, eqX c]; rfl
    | [x, y, z], _ :: _ => rfl
    | _ :: _ :: _ :: _ :: _, _ => rfl
  | .enum a, N, sc => funext fun e => by
    cases e <;> first | rfl | skip
    rename_i fn xs kw pos
    match xs, kw with
    | [], _ => rfl
    | [x], [] => show (_ && isX N sc (eX a) _) = _; rw [eqX a]; rfl
    | [x], _ :: _ => rfl
    | _ :: _ :: _, _ => rfl
  | .zip a b, N, sc => funext fun e => by
    cases e <;> first | rfl | skip
    rename_i fn xs kw pos
    match xs, kw with
    | [], _ => rfl
    | [x], _ => rfl
    | [x, y], [] => show (_ && isX N sc (eX a) _ && isX N sc (eX b) _) = _; rw [eqX a, eqX b]; rfl
    | [x, y], _ :: _ => rfl
    | _ :: _ :: _ :: _, _ => rfl
  | .rev a, N, sc => funext fun e => by
    cases e <;> first | rfl | skip
    rename_i fn xs kw pos
    match xs, kw with
    | [], _ => rfl
    | [x], [] => show (_ && isX N sc (eX a) _) = _; rw [eqX a]; rfl
    | [x], _ :: _ => rfl
    | _ :: _ :: _, _ => rfl
  | .pr m w es, N, sc => funext fun e => by
    show (prB e && (match m N sc e with | some xs => isXs N sc (eXs es) xs | none => false)) = _
    rw [eqXs es]; rfl
theorem eqIf : ∀ (p : PIf) (N : List Str) (sc : Scope), isIf N sc (eIf p) = isIf N sc p
  | .nil, N, sc => rfl
  | .one t, N, sc => funext fun e => by
    match e with
    | [] => rfl
    | [x] => show isT N sc (eT t) x = _; rw [eqT t]; rfl
    | _ :: _ :: _ => rfl
end
mutual
theorem eqS : ∀ (p : St') (N : List Str) (sc : Scope), isS N sc (eS p) = isS N sc p
  | .asg i p, N, sc => by show (fun s => isS N sc (.asg i (eX p)) s) = _; unfold isS; rw [eqX p]; rfl
  | .asgT t p, N, sc => by show (fun s => isS N sc (.asgT t (eX p)) s) = _; unfold isS; rw [eqX p]; rfl
  | .sto a b p, N, sc => by show (fun s => isS N sc (.sto (eX a) (eX b) (eX p)) s) = _; unfold isS; rw [eqX p, eqX a, eqX b]; rfl
  | .fld cl a f p, N, sc => by show (fun s => isS N sc (.fld cl (eX a) f (eX p)) s) = _; unfold isS; rw [eqX p, eqX a]; rfl
  | .aug o i p, N, sc => by show (fun s => isS N sc (.aug o i (eX p)) s) = _; unfold isS; rw [eqX p]; rfl
  | .augF cl a f p, N, sc => by show (fun s => isS N sc (.augF cl (eX a) f (eX p)) s) = _; unfold isS; rw [eqX p, eqX a]; rfl
  | .ex p, N, sc => by show (fun s => isS N sc (.ex (eX p)) s) = _; unfold isS; rw [eqX p]; rfl
  | .ret p, N, sc => by show (fun s => isS N sc (.ret (eX p)) s) = _; unfold isS; rw [eqX p]; rfl
  | .retN, N, sc => rfl
  | .iff t a b, N, sc => by show (fun s => isS N sc (.iff (eT t) (eSs a) (eSs b)) s) = _; unfold isS; rw [eqT t, eqSs a, eqSs b]; rfl
  | .whl t b, N, sc => by show (fun s => isS N sc (.whl (eT t) (eSs b)) s) = _; unfold isS; rw [eqT t, eqSs b]; rfl
  | .for_ t it b, N, sc => by show (fun s => isS N sc (.for_ t (eIt it) (eSs b)) s) = _; unfold isS; rw [eqIt it, eqSs b]; rfl
  | .brk, N, sc => rfl
  | .cnt, N, sc => rfl
  | .pas, N, sc => rfl
  | .never, N, sc => rfl
  | .pr m w es, N, sc => funext fun e => by
    show (match m N sc e with | some xs => isXs N sc (eXs es) xs | none => false) = _
    rw [eqXs es]; rfl
theorem eqSs : ∀ (p : Sts) (N : List Str) (sc : Scope), isSs N sc (eSs p) = isSs N sc p
  | .nil, N, sc => rfl
  | .cons s ss, N, sc => funext fun e => by
    cases e <;> first | rfl | (show (isS N sc (eS s) _ && isSs N sc (eSs ss) _) = _; rw [eqS s, eqSs ss]; rfl)
  | .gh R ss, N, sc => funext fun e => by show isSs N sc (eSs ss) e = _; rw [eqSs ss]; rfl
end
/-- what is matched without its promises is matched with them -/
theorem by_bare {N : List Str} {sc : Scope} {c c0 : Sts} {b : List Stmt} (e : eSs c = c0) (h : isSs N sc c0 b = true) : isSs N sc c b = true := by
  rw [← eqSs c N sc, e]; exact h
end VS

/-! VS, part 15: the operations on known data, as equations. -/
namespace VS
open PySem PySem.Spec PyProof.Rows L2
section
variable {M : Store} {Q : DK} {i j : Int} {s t : String} {a b : Bool} {xs ys : List D} {p : Addr} {x y : D}
theorem getS_z {σ : Env} {d : D} {P : D → Prop} : getS (some d :: σ) 0 P = P d := rfl
theorem getS_s {σ : Env} {o : Option D} {n : Nat} {P : D → Prop} : getS (o :: σ) (n + 1) P = getS σ n P := rfl
theorem w_add : wBin .add (.int i) (.int j) M Q = Q (.int (i + j)) M := rfl
theorem w_addS : wBin .add (.str s) (.str t) M Q = (s.length + t.length ≤ line ∧ Q (.str (s ++ t)) M) := rfl
theorem w_addT : wBin .add (.tup xs) (.tup ys) M Q = (xs.length + ys.length ≤ line ∧ Q (.tup (xs ++ ys)) M) := rfl
theorem w_addL : wBin .add (.lst xs) (.lst ys) M Q = (xs.length + ys.length ≤ line ∧ nuL (xs ++ ys) M Q) := rfl
theorem w_sub : wBin .sub (.int i) (.int j) M Q = Q (.int (i - j)) M := rfl
theorem w_mul : wBin .mul (.int i) (.int j) M Q = (CMul i j ∧ Q (.int (i * j)) M) := rfl
theorem w_mod : wBin .mod (.int i) (.int j) M Q = (0 < j ∧ Q (.int (i % j)) M) := rfl
theorem w_fdiv : wBin .fdiv (.int i) (.int j) M Q = ((0 < j ∧ j < 1073741824) ∧ Q (.int (i / j)) M) := rfl
theorem w_pow : wBin .pow (.int i) (.int j) M Q = ((0 ≤ j ∧ j ≤ 1000000 ∧ i.natAbs < 2 ^ 64) ∧ Q (.int (i ^ j.toNat)) M) := rfl
theorem w_eqI : wCmp .eq (.int i) (.int j) M Q = Q (.bl (decide (i = j))) M := rfl
theorem w_neI : wCmp .ne (.int i) (.int j) M Q = Q (.bl (!decide (i = j))) M := rfl
theorem w_eqS : wCmp .eq (.str s) (.str t) M Q = Q (.bl (decide (s = t))) M := rfl
theorem w_neS : wCmp .ne (.str s) (.str t) M Q = Q (.bl (!decide (s = t))) M := rfl
theorem w_eqB : wCmp .eq (.bl a) (.bl b) M Q = Q (.bl (decide (a = b))) M := rfl
theorem w_neB : wCmp .ne (.bl a) (.bl b) M Q = Q (.bl (!decide (a = b))) M := rfl
theorem w_lt : wCmp .lt (.int i) (.int j) M Q = Q (.bl (decide (i < j))) M := rfl
theorem w_le : wCmp .le (.int i) (.int j) M Q = Q (.bl (decide (i ≤ j))) M := rfl
theorem w_gt : wCmp .gt (.int i) (.int j) M Q = Q (.bl (decide (j < i))) M := rfl
theorem w_ge : wCmp .ge (.int i) (.int j) M Q = Q (.bl (decide (j ≤ i))) M := rfl
theorem w_is : wCmp .is_ x .non M Q = Q (.bl (isNon x)) M := rfl
theorem w_isn : wCmp .isn x .non M Q = Q (.bl (!isNon x)) M := rfl
theorem isNon_non : isNon .non = true := rfl
theorem isNon_int : isNon (.int i) = false := rfl
theorem isNon_str : isNon (.str s) = false := rfl
theorem isNon_bl : isNon (.bl a) = false := rfl
theorem isNon_tup : isNon (.tup xs) = false := rfl
theorem isNon_lst : isNon (.lst xs) = false := rfl
variable {P : Bool → Prop}
theorem w_truB : wTru (.bl a) M P = P a := rfl
theorem w_truI : wTru (.int i) M P = P (i != 0) := rfl
theorem w_truN : wTru .non M P = P false := rfl
theorem w_truL : wTru (.lst xs) M P = P (!xs.isEmpty) := rfl
theorem w_truT : wTru (.tup xs) M P = P (!xs.isEmpty) := rfl
theorem w_neg : wNeg (.int i) M Q = Q (.int (-i)) M := rfl
theorem w_int : wBi .int [.int i] M Q = Q (.int i) M := rfl
theorem w_abs : wBi .abs [.int i] M Q = Q (.int (if i < 0 then -i else i)) M := rfl
theorem w_lenL : wBi .len [.lst xs] M Q = Q (.int xs.length) M := rfl
theorem w_lenT : wBi .len [.tup xs] M Q = Q (.int xs.length) M := rfl
theorem w_lenS : wBi .len [.str s] M Q = (s.length ≤ line ∧ Q (.int s.length) M) := rfl
theorem w_tupL : wBi .tuple [.lst xs] M Q = Q (.tup xs) M := rfl
theorem w_rng1 : wBi .range1 [.int j] M Q = Q (.rng 0 j) M := rfl
theorem asS_ptr : asS M (.ptr p) = asL M (.ptr p) := rfl
theorem asL_ptr (h : M p = some (.lst xs)) : asL M (.ptr p) = some xs := by
  show (match M p with | some (.lst xs) => some xs | _ => none) = _; rw [h]
theorem w_lenP (h : M p = some (.lst xs)) : wBi .len [.ptr p] M Q = Q (.int xs.length) M := by
  show (match asS M (.ptr p) with | some xs => Q (.int xs.length) M | none => _) = _
  rw [asS_ptr, asL_ptr h]
theorem w_tupP (h : M p = some (.lst xs)) : wBi .tuple [.ptr p] M Q = Q (.tup xs) M := by
  show (match asS M (.ptr p) with | some xs => Q (.tup xs) M | none => False) = _
  rw [asS_ptr, asL_ptr h]
theorem w_truP (h : M p = some (.lst xs)) : wTru (.ptr p) M P = P (!xs.isEmpty) := by
  show (match asS M (.ptr p) with | some xs => P (!xs.isEmpty) | none => _) = _
  rw [asS_ptr, asL_ptr h]
/-- an item by its place, known to be there -/
theorem w_ixL (h : atI xs i = some x) : wIx (.lst xs) (.int i) M Q = Q x M := by
  show (match atI xs i with | some d => Q d M | none => False) = _; rw [h]
theorem w_ixT (h : atI xs i = some x) : wIx (.tup xs) (.int i) M Q = Q x M := by
  show (match atI xs i with | some d => Q d M | none => False) = _; rw [h]
theorem w_ixP (h : M p = some (.lst xs)) (hi : atI xs i = some x) : wIx (.ptr p) (.int i) M Q = Q x M := by
  show (match asS M (.ptr p), D.int i with | some xs, .int i => (match atI xs i with | some d => Q d M | none => False) | _, y => _) = _
  rw [asS_ptr, asL_ptr h]
  show (match atI xs i with | some d => Q d M | none => False) = _; rw [hi]
theorem w_stoP {Qs : Store → Prop} {k : Nat} (h : M p = some (.lst xs)) (hi : ixN xs.length i = some k) : wSto (.ptr p) (.int i) x M Qs = Qs (M.put p (.lst (xs.set k x))) := by
  show (match M p with | some (.lst xs) => (match ixN xs.length i with | some j => Qs (M.put p (.lst (xs.set j x))) | none => False) | some (.dic kvs) => _ | _ => False) = _
  rw [h]
  show (match ixN xs.length i with | some j => _ | none => False) = _
  rw [hi]
theorem w_app (h : M p = some (.lst xs)) : wMt .append (.ptr p) [x] M Q = (xs.length < line ∧ Q .non (M.put p (.lst (xs ++ [x])))) := by
  show (match M p with | some (.lst xs) => xs.length < line ∧ Q .non (M.put p (.lst (xs ++ [x]))) | _ => False) = _
  rw [h]
theorem w_appTy (h : M p = some (.lst xs)) : mtTy .append (.ptr p) M = true := by show (asL M (.ptr p)).isSome = true; rw [asL_ptr h]; rfl
variable {d0 d1 d2 d3 : D}
theorem at_0 : atI (d0 :: xs) 0 = some d0 := by unfold atI ixN; rw [if_pos (by decide), if_pos (by simp only [List.length_cons]; omega)]; rfl
theorem at_1 : atI (d0 :: d1 :: xs) 1 = some d1 := by unfold atI ixN; rw [if_pos (by decide), if_pos (by simp only [List.length_cons]; omega)]; rfl
theorem at_2 : atI (d0 :: d1 :: d2 :: xs) 2 = some d2 := by unfold atI ixN; rw [if_pos (by decide), if_pos (by simp only [List.length_cons]; omega)]; rfl
theorem at_3 : atI (d0 :: d1 :: d2 :: d3 :: xs) 3 = some d3 := by unfold atI ixN; rw [if_pos (by decide), if_pos (by simp only [List.length_cons]; omega)]; rfl
theorem ixN_nat {n k : Nat} (h : k < n) : ixN n (k : Int) = some k := by unfold ixN; rw [if_pos (by omega), if_pos (by omega)]; rfl
theorem atI_natD {α : Type} {xs : List α} {k : Nat} {x : α} (h : xs[k]? = some x) : atI xs (k : Int) = some x := by
  unfold atI
  rw [ixN_nat (List.getElem?_eq_some_iff.mp h).1]
  exact h
theorem if_tt {A B : Prop} : (match true with | true => A | false => B) = A := rfl
theorem if_ff {A B : Prop} : (match false with | true => A | false => B) = B := rfl
theorem py_str : py (.str s) = .str (Str.ofString s) := rfl
theorem eqv_str : PyData.eqv (py (.str s)) (py (.str t)) = decide (s = t) := by
  show (Str.ofString s == Str.ofString t) = _
  by_cases e : s = t
  · subst e; simp
  · rw [decide_eq_false e, beq_eq_false_iff_ne]; exact fun z => e (ofString_inj.mp z)
theorem strOk_of (s : String) : PyData.strOk (Str.ofString s) = true := by
  unfold PyData.strOk
  rw [← Array.all_toList, ofString_cps, List.all_map, List.all_eq_true]
  intro c _
  have h := c.valid
  show decide (c.toNat < 0x110000) = true
  refine decide_eq_true ?_
  have h' : c.val.toNat < 0xd800 ∨ (0xdfff < c.val.toNat ∧ c.val.toNat < 0x110000) := h
  show c.val.toNat < 0x110000
  omega
theorem shaped_str : SeqAt.shaped (py (.str s)) = true := by
  show (PyData.canLay0 (PyData.str _) && decide (PyData.depth (PyData.str _) ≤ 64)) = true
  simp [PyData.canLay0, PyData.depth, strOk_of]
theorem in_strs {P : Bool → Prop} (ss : List String) : wInB (.str s) (.tup (ss.map D.str)) M P = P (decide (s ∈ ss)) := by
  show (SeqAt.shaped (py (.str s)) = true ∧ ((ss.map D.str).all fun y => SeqAt.shaped (py y)) = true ∧ P ((ss.map D.str).any fun y => PyData.eqv (py y) (py (.str s)))) = _
  have e1 : ((ss.map D.str).all fun y => SeqAt.shaped (py y)) = true := by rw [List.all_map, List.all_eq_true]; intro x _; exact shaped_str
  have e2 : ((ss.map D.str).any fun y => PyData.eqv (py y) (py (.str s))) = decide (s ∈ ss) := by
    rw [List.any_map]
    induction ss with
    | nil => rfl
    | cons a r ih =>
      rw [List.any_cons, ih (by rw [List.all_map, List.all_eq_true]; intro x _; exact shaped_str)]
      show (PyData.eqv (py (.str a)) (py (.str s)) || _) = _
      rw [eqv_str]
      by_cases e : a = s
      · subst e; simp
      · have e' : ¬ s = a := fun z => e z.symm
        simp [e, e']
  rw [e1, e2]
  exact propext ⟨fun h => h.2.2, fun h => ⟨shaped_str, rfl, h⟩⟩
theorem w_in (ss : List String) : wCmp .in_ (.str s) (.tup (ss.map D.str)) M Q = Q (.bl (decide (s ∈ ss))) M := in_strs (M := M) (P := fun b => Q (.bl b) M) ss
theorem w_in2 {u : String} : wCmp .in_ (.str s) (.tup [.str t, .str u]) M Q = Q (.bl (decide (s ∈ [t, u]))) M := in_strs (M := M) (P := fun b => Q (.bl b) M) [t, u]
theorem w_in3 {u v : String} : wCmp .in_ (.str s) (.tup [.str t, .str u, .str v]) M Q = Q (.bl (decide (s ∈ [t, u, v]))) M := in_strs (M := M) (P := fun b => Q (.bl b) M) [t, u, v]
end
end VS

namespace VS
open PySem PySem.Spec PyProof.Rows L2
section
variable {M : Store} {Q : DK} {i j : Int} {s t : String} {a b : Bool} {xs ys : List D} {p : Addr} {x y : D}
theorem ty_non : isTyD M .non t = isTyK "NoneType" t := rfl
theorem ty_bl : isTyD M (.bl a) t = isTyK "bool" t := rfl
theorem ty_int : isTyD M (.int i) t = isTyK "int" t := rfl
theorem ty_str : isTyD M (.str s) t = isTyK "str" t := rfl
theorem ty_tup : isTyD M (.tup xs) t = isTyK "tuple" t := rfl
theorem ty_lst : isTyD M (.lst xs) t = isTyK "list" t := rfl
theorem tk1 : isTyK "NoneType" "list" = some false := by decide
theorem tk2 : isTyK "NoneType" "tuple" = some false := by decide
theorem tk3 : isTyK "bool" "list" = some false := by decide
theorem tk4 : isTyK "bool" "tuple" = some false := by decide
theorem tk5 : isTyK "int" "list" = some false := by decide
theorem tk6 : isTyK "int" "tuple" = some false := by decide
theorem tk7 : isTyK "str" "list" = some false := by decide
theorem tk8 : isTyK "str" "tuple" = some false := by decide
theorem tk9 : isTyK "tuple" "list" = some false := by decide
theorem tk10 : isTyK "tuple" "tuple" = some true := by decide
theorem tk11 : isTyK "list" "list" = some true := by decide
theorem tk12 : isTyK "list" "tuple" = some false := by decide
theorem tk13 : isTyK "bool" "bool" = some true := by decide
theorem tk14 : isTyK "int" "bool" = some false := by decide
theorem tk15 : isTyK "str" "bool" = some false := by decide
theorem tk16 : isTyK "bool" "str" = some false := by decide
theorem tk17 : isTyK "int" "str" = some false := by decide
theorem tk18 : isTyK "str" "str" = some true := by decide
theorem tk19 : isTyK "bool" "int" = some true := by decide
theorem tk20 : isTyK "int" "int" = some true := by decide
/-- a comprehension's turns, by what each adds -/
theorem lcGo_map {g : Store → Prop} {f : D → Store → (Option D → Store → Prop) → Prop} (I : Store → Prop) (φ : D → Option D) (hg : ∀ M, I M → g M) : ∀ (xs acc : List D) (M : Store) (Q : DK),
    (∀ x ∈ xs, ∀ M k, I M → (∀ M', I M' → k (φ x) M') → f x M k) → I M → (∀ M', I M' → nuL (acc ++ xs.filterMap φ) M' Q) → lcGo g f xs acc M Q
  | [], acc, M, Q, hf, hi, hq => ⟨hg M hi, by have := hq M hi; rwa [List.filterMap_nil, List.append_nil] at this⟩
  | x :: xs, acc, M, Q, hf, hi, hq => by
    refine ⟨hg M hi, hf x List.mem_cons_self M _ hi fun M' hi' => ?_⟩
    refine lcGo_map I φ hg xs _ M' Q (fun y hy => hf y (List.mem_cons_of_mem _ hy)) hi' fun M2 hi2 => ?_
    have := hq M2 hi2
    cases e : φ x with
    | none => rw [List.filterMap_cons_none e] at this; exact this
    | some y => rw [List.filterMap_cons_some e] at this; rw [List.append_assoc]; exact this
end
theorem all_bl {M : Store} {Q : DK} (bs : List Bool) (h : Q (.bl (bs.all id)) M) : wBi .all [.lst (bs.map D.bl)] M Q := ⟨bs, rfl, h⟩
theorem any_bl {M : Store} {Q : DK} (bs : List Bool) (h : Q (.bl (bs.any id)) M) : wBi .any [.lst (bs.map D.bl)] M Q := ⟨bs, rfl, h⟩
theorem sum_int {M : Store} {Q : DK} (bs : List Int) (h : Q (.int bs.sum) M) : wBi .sum [.lst (bs.map D.int)] M Q := ⟨bs, rfl, h⟩
theorem rng_mem {n : Nat} {x : D} (h : x ∈ rngD 0 (n : Int)) : ∃ k : Nat, k < n ∧ x = .int (k : Int) := by
  unfold rngD at h
  obtain ⟨k, hk, e⟩ := List.mem_map.mp h
  rw [List.mem_range] at hk
  exact ⟨k, by omega, by rw [← e, Int.zero_add]⟩
theorem filterMap_some {α β : Type} (f : α → β) (xs : List α) : xs.filterMap (fun x => some (f x)) = xs.map f := by
  show xs.filterMap (some ∘ f) = xs.map f
  rw [List.filterMap_eq_map]
theorem fn_none {G : Glob} {n k : Nat} {sp : Spec} {f : Addr} {fd : FuncData} {ps : List Str} (h : ∀ ds M Q E, ¬ sp ds M Q E) : FnOk G.prog G.w G.K G.mg G.base (L2.CX G.prog G.w) k f fd ps (toSp G n sp) := by
  have no : ∀ vs H Q E, ¬ toSp G n sp vs H Q E := fun vs H Q E ⟨ds, F, M, R, Qd, Ed, _, _, _, h', _⟩ => h ds M Qd Ed h'
  exact ⟨fun vs H Q E h => absurd h (no vs H Q E), fun A outer s H args us vs Q E _ _ _ _ h => absurd h (no vs H Q E)⟩
def plainD : Nat → D → Bool
  | 0, _ => false
  | _ + 1, .non => true
  | _ + 1, .bl _ => true
  | _ + 1, .int _ => true
  | _ + 1, .str _ => true
  | n + 1, .lst xs => decide (xs.length ≤ line) && xs.all (plainD n)
  | n + 1, .tup xs => decide (xs.length ≤ line) && xs.all (plainD n)
  | _ + 1, _ => false
def spSame (n : Nat) : Spec := fun ds M Q _ => ∃ x, ds = [x, x] ∧ plainD n x = true ∧ Q (.bl true) M
theorem bne_self (b : Bool) : (!decide (b = b)) = false := by simp
/-- a for's turns by an invariant -/
theorem forGo_inv {g : Store → Prop} {f : D → Env → Store → (Env → Store → Prop) → Prop} {nx : Env → Store → Prop} (I : Nat → Env → Store → Prop) (xs : List D) (hg : ∀ k σ M, I k σ M → g M)
    (hs : ∀ k x σ M nx, xs[k]? = some x → I k σ M → (∀ σ' M', I (k + 1) σ' M' → nx σ' M') → f x σ M nx) {σ : Env} {M : Store} (h0 : I 0 σ M) (hd : ∀ σ M, I xs.length σ M → nx σ M) : forGo g f xs σ M nx := by
  have go : ∀ (r : List D) (k : Nat) (σ : Env) (M : Store), xs.drop k = r → k + r.length = xs.length → I k σ M → forGo g f r σ M nx := by
    intro r
    induction r with
    | nil =>
      intro k σ M e hl hi
      exact ⟨hg k σ M hi, hd σ M (by rw [← hl]; exact hi)⟩
    | cons x r ih =>
      intro k σ M e hl hi
      refine ⟨hg k σ M hi, hs k x σ M _ ?_ hi fun σ' M' hi' => ih (k + 1) σ' M' ?_ ?_ hi'⟩
      · have := congrArg (fun l => l[0]?) e
        simpa using this
      · have := congrArg (fun l => l.drop 1) e
        simpa [List.drop_drop, Nat.add_comm] using this
      · rw [List.length_cons] at hl; omega
  exact go xs 0 σ M rfl (by omega) h0
theorem rng_at {n k : Nat} {x : D} (h : (rngD 0 (n : Int))[k]? = some x) : k < n ∧ x = .int (k : Int) := by
  obtain ⟨h1, h2⟩ := rngD_at h
  exact ⟨by omega, by rw [h2, Int.zero_add]⟩
theorem rng_len (n : Nat) : (rngD 0 (n : Int)).length = n := by rw [rngD_len]; omega
/-- the list at a name is frozen -/
def frzG (i : Nat) : Ghost := fun σ M σ' M' => ∃ p xs, σ[i]? = some (some (.ptr p)) ∧ M p = some (.lst xs) ∧ σ' = σ.set i (some (.lst xs)) ∧ M' = M.del p
theorem frz_ok (G : Glob) (i : Nat) : GhOk G (frzG i) := fun σd M σd' M' R F σ H ⟨p, xs, h1, h2, h3, h4⟩ env g => by
  subst h3; subst h4
  obtain ⟨ho, hh, rm, gd, ex⟩ := g.frz h2
  refine ⟨_, ex, ?_, gd⟩
  obtain ⟨v, hv, rv⟩ := env.at_ i _ h1
  cases rv
  cases rm with
  | lst rl =>
    have rp : Rp G (upd F p (.lst _)) (.ref p) (.lst xs) := .lst upd_same (rl.mono ex)
    have e2 := (env.mono ex).set i rp
    have : σ.set i (some (.ref p)) = σ := by
      apply List.ext_getElem?
      intro j
      by_cases hj : i = j
      · subst hj
        rw [List.getElem?_set_self (List.getElem?_eq_some_iff.mp hv).1, hv]
      · rw [List.getElem?_set_ne hj]
    rw [this] at e2
    exact e2
theorem put_del {M : Store} {p : Addr} {o : MO} (h : M p = none) : (M.put p o).del p = M := by
  funext b; unfold Store.del Store.put
  by_cases e : b = p
  · subst e; rw [if_pos rfl, h]
  · rw [if_neg e, if_neg e]
/-- the draw's object -/
def DrawAt (M : Store) (d : Addr) : Prop := ∃ cells : List Int, ∃ i p s : Int, M d = some (.lst [.lst (cells.map D.int), .int i, .int p, .int s]) ∧ 0 ≤ i ∧ 0 ≤ p ∧ 0 ≤ s ∧ s < 2147483648 ∧ cells.length ≤ 63
def spDraw : Spec := fun ds M Q _ => ∃ ns : List Int, ds = [.scr ns] ∧ ns.length ≤ 63 ∧ ∀ p M', M p = none → (∀ a, a ≠ p → M' a = M a) → DrawAt M' p → Q (.ptr p) M'
def spNext : Spec := fun ds M Q _ => ∃ (d : Addr) (m : Int), ds = [.ptr d, .int m] ∧ 0 < m ∧ m < 1000000 ∧ DrawAt M d ∧ ∀ r M', 0 ≤ r → r < m → DrawAt M' d → (∀ a, a ≠ d → M' a = M a) → Q (.int r) M'
end VS

/-! VS, part 17: the defs of a program's top; the law's own promise. -/
namespace VS
open PySem PySem.Spec PyProof.Rows L2
structure DefAt (G : Glob) (x : String) (st : Stmt) (ps : List Str) (f : Addr) (fd : FuncData) : Prop where
  fn : L2.Fun G.K (Str.ofString x) (Str.ofString x) st f fd
  bd : Binds G.K fd ps []
  mg : G.mg (Str.ofString x) = some (.ref f)
theorem DefAt.at {G : Glob} {x : String} {st : Stmt} {ps : List Str} {f : Addr} {fd : FuncData} {k n : Nat} {sp : Spec} (d : DefAt G x st ps f fd) (ok : FnOk G.prog G.w G.K G.mg G.base (L2.CX G.prog G.w) k f fd ps (toSp G n sp)) : FnFor G k x n sp :=
  ⟨f, fd, ps, ok, d.mg, d.fn.kp, d.bd⟩
theorem FnFor.mono {G : Glob} {x : String} {j k n : Nat} {sp : Spec} (h : j ≤ k) (F : FnFor G j x n sp) : FnFor G k x n sp := by
  obtain ⟨f, fd, ps, ok, a, b, c⟩ := F.ex
  exact ⟨f, fd, ps, ok.mono h, a, b, c⟩
theorem DefAt.ok {G : Glob} {x : String} {st : Stmt} {ps : List Str} {f : Addr} {fd : FuncData} {N : List Str} {k : Nat} {sp : Spec} (d : DefAt G x st ps f fd) (c : Sts) (S : FnScope N ps (defScope st))
    (hm : isSs N (defScope st) c (defBody st) = true) (ok : okSs G k c) (hsp : ∀ ds M Q E, ds.length = ps.length → sp ds M Q E → dSs E c { nx := fun _ M' => Q .non M', rt := Q } (startD N.length ds) M) : FnFor G (k + 1) x ps.length sp :=
  d.at (def_ok c d.fn S hm ok hsp)
theorem DefAt.none {G : Glob} {x : String} {st : Stmt} {ps : List Str} {f : Addr} {fd : FuncData} {k n : Nat} {sp : Spec} (d : DefAt G x st ps f fd) (h : ∀ ds M Q E, ¬ sp ds M Q E) : FnFor G k x n sp := d.at (fn_none h)
def spTop (K : PySem.W.Frag) : Sp := fun vs H Q _ => ∃ (a : Addr) (ns : List Int), vs = [.ref a] ∧ SqL K H a (ns.map V.int) ∧ ns.length ≤ 63 ∧ ∀ H', Q (.bl true) H'
theorem top_ok {G : Glob} {k : Nat} {f : Addr} {fd : FuncData} {x : Str} {sp : Spec} (F : FnOk G.prog G.w G.K G.mg G.base (L2.CX G.prog G.w) k f fd [x] (toSp G 1 sp))
    (h : ∀ (ns : List Int) (Q : DK), ns.length ≤ 63 → (∀ M', Q (.bl true) M') → sp [.scr ns] (fun _ => none) Q X0) : FnOk G.prog G.w G.K G.mg G.base (L2.CX G.prog G.w) k f fd [x] (spTop G.K) :=
  F.imp fun vs H Q E ⟨a, ns, e, hS, hl, q⟩ => ⟨[.scr ns], H, fun _ => none, fun _ => none, fun d _ => d = .bl true, X0, rfl, ⟨Ex.refl H, fun _ _ h => (by cases h), fun _ _ h => (by cases h)⟩, (by subst e; exact .cons (.scr hS) .nil), h ns _ hl (fun _ => rfl), fun d M' v F' H' qd _ _ r => (by subst qd; cases r; exact q H'), fun c fs M' F' H' C hc => hc.elim⟩
theorem cx_none {P : Program} {w : World} {H : Hp} {s : Shared} {e : Value} {s' : Shared} (h : L2.CX P w [] H s (fun _ _ _ => False) e s') : False := by
  obtain ⟨_, _, _, _, _, _, _, _, _, _, _, _, z⟩ := h
  exact z
end VS

/-! VS, part 18: forms of one's own: an instance is made; texts' methods; f-texts; displays. -/
namespace VS
open PySem PySem.Spec PyProof.Rows L2
theorem Good.side {G : Glob} {R F H : Hp} {M : Store} {p : Addr} {o : HO} (g : Good G R F H M) (h : H p = none) : Good G R F (upd H p o) M := by
  obtain ⟨hm, hf, hr⟩ := g.fresh h
  refine ⟨fun a u q => ?_, fun a mo q => ?_, fun a u q => ?_⟩
  · rw [upd_ne (fun e => by subst e; rw [hf] at q; cases q)]; exact g.ex a u q
  · obtain ⟨z1, ho, z2, z3⟩ := g.mt a mo q
    exact ⟨z1, ho, by rw [upd_ne (fun e => by subst e; rw [hm] at q; cases q)]; exact z2, z3⟩
  · obtain ⟨z1, z2, z3⟩ := g.rs a u q
    exact ⟨z1, z2, by rw [upd_ne (fun e => by subst e; rw [hr] at q; cases q)]; exact z3⟩
/-- name(..) -/
def mrCall (x : String) : Mr := fun _ sc e => match e with | .Call fn xs [] _ => if isBi sc x fn = true then some xs else none | _ => none
theorem mrCall_shape {x : String} {N : List Str} {sc : Scope} {e : Expr} {xs : List Expr} (h : mrCall x N sc e = some xs) : ∃ p pos, e = .Call (.Name (Str.ofString x) p) xs [] pos ∧ glB sc (Str.ofString x) = true := by
  cases e <;> first | (cases h; done) | skip
  rename_i fn ys kws pos
  cases kws with
  | cons _ _ => cases h
  | nil =>
    have h' : (if isBi sc x fn = true then some ys else none) = some xs := h
    split at h'
    · rename_i hb
      cases h'
      obtain ⟨p, rfl, hg⟩ := bi_shape hb
      exact ⟨p, pos, rfl, hg⟩
    · cases h'
theorem all_pa {C : Cq} {X : Cx} (K : Ctx C X) : ∀ {es : PXs}, AllPE C X es → PAs C X es
  | .nil, _ => a_nil K
  | .cons _ _, h => a_cons K h.1 (all_pa K h.2)
/-! ### an instance is made -/
structure MkFor (G : Glob) (k : Nat) (cl : String) (n : Nat) (sp : Spec) : Prop where
  ex : ∃ (j : Nat) (C f : Addr) (fd : FuncData) (names : List Str), j + 1 ≤ k ∧ G.mg (Str.ofString cl) = some (.ref C) ∧ Mk G.K C f ∧ FnOk G.prog G.w G.K G.mg G.base (L2.CX G.prog G.w) j f fd names (toSp G n sp) ∧ Binds G.K fd names []
def mkW (cl : String) (sp : Spec) : Spec := fun ds M Q E => ∀ p, M p = none → sp (.ptr p :: ds) (M.put p (.inst cl [])) (fun d M' => d = .non ∧ Q (.ptr p) M') E
theorem pr_make {G : Glob} {k n : Nat} {cl : String} {sp : Spec} (o : MkFor G k cl (n + 1) sp) : PrF G k (mrCall cl) (mkW cl sp) n := ⟨fun {C X} K hG hk {es e xs} hl hp hm hx ha => by
  subst hG; subst hk
  obtain ⟨p, pos, rfl, hg⟩ := mrCall_shape hm
  obtain ⟨g1, g2⟩ := gl_of hg
  obtain ⟨j, Ca, fa, fd, names, hj, hmg, mk, F0, hb⟩ := o.ex
  have F1 : FnOk X.prog X.w X.K X.mg X.base (L2.CX X.prog X.w) j fa fd names (toSp C.G (n + 1) sp) := by
    rw [K.g.prog, K.g.w, K.g.K, K.g.mg, K.g.base]; exact F0
  have mk1 : Mk X.K Ca fa := by rw [K.g.K]; exact mk
  have hb1 : Binds X.K fd names [] := by rw [K.g.K]; exact hb
  have hm1 : X.mg (Str.ofString cl) = some (.ref Ca) := by rw [K.g.mg]; exact hmg
  have go : ∀ {σd M R F Qd σ H} {ds : List D} {M1 : Store} {vs : List V} {F1 H1 : Hp} {Q : VK}, SR C σd M R F σ H → Wish C.G R F Qd Q → ds.length = n → mkW cl sp ds M1 Qd C.E → Ex F F1 → Good C.G R F1 H1 M1 → RpL C.G F1 vs ds →
      ∀ x dx, H1 x = none → H1 dx = none → dx ≠ x → toSp C.G (n + 1) sp (.ref x :: (vs ++ [])) (upd (upd H1 dx (.own x)) x (.ins Ca dx [])) (fun v H2 => v = .non ∧ Q (.ref x) H2) (excK C) :=
    fun {σd M R F Qd σ H ds M1 vs F1 H1 Q} s w hn q1 e1 g1 r1 x dx hx hdx hne => by
      have gs : Good C.G R F1 (upd H1 dx (.own x)) M1 := g1.side hdx
      have hx2 : upd H1 dx (HO.own x) x = none := by rw [upd_ne (Ne.symm hne)]; exact hx
      have g2 : Good C.G R F1 (upd (upd H1 dx (.own x)) x (.ins Ca dx [])) (M1.put x (.inst cl [])) := gs.newM hx2 (.inst hmg .nil)
      rw [List.append_nil]
      refine ⟨.ptr x :: ds, F1, M1.put x (.inst cl []), R, fun d M' => d = .non ∧ Qd (.ptr x) M', C.E, congrArg (· + 1) hn, g2, .cons (.ptr x) r1, q1 x (g1.fresh hx).1, fun d M' v F' H' q' e' g' r' => ?_, wishX_of K (s.step e1 g1)⟩
      obtain ⟨rfl, q'⟩ := q'
      cases r'
      exact ⟨rfl, w _ _ _ F' H' q' (e1.trans e') g' (.ptr x)⟩
  match xs, hx with
  | [], hx =>
    have hes : es = .nil := by
      cases es with
      | nil => rfl
      | cons _ _ => exact absurd hx Bool.false_ne_true
    subst hes
    refine PE.imp (pe_make0 mk1 F1 (K.room.mono hj) g1 hm1 hb1 .nil K.pass g2) fun σ H Q ⟨σd, M, R, F, Qd, s, q, w⟩ => ?_
    exact go (ds := []) (vs := []) s w (by rw [← hl]; rfl) q (Ex.refl F) s.good .nil
  | x :: xs, hx =>
    obtain ⟨p1, p2⟩ := one_arg K hx
    refine PE.imp (pe_make mk1 F1 (K.room.mono hj) g1 hm1 hb1 .nil K.pass (all_pa K ha _ hx) g2 (star_of p1) (p2 _)) fun σ H Q ⟨σd, M, R, F, Qd, s, q, w⟩ => ?_
    refine ⟨σd, M, R, F, _, s, q, fun ds M1 vs F1 H1 hn q1 e1 g1 r1 => ?_⟩
    exact go s w (by rw [hn, hl]) q1 e1 g1 r1⟩
/-! ### a text's methods of one argument -/
def mrM1 (m : String) : Mr := fun _ _ e => match e with
  | .Call (.Attribute o nm apos) [x] [] cpos => if ((apos.endLine == cpos.line) && noSup o && decide (nm = Str.ofString m)) = true then some [o, x] else none
  | _ => none
theorem mrM1_shape {m : String} {N : List Str} {sc : Scope} {e : Expr} {xs : List Expr} (h : mrM1 m N sc e = some xs) : ∃ o x apos cpos, e = .Call (.Attribute o (Str.ofString m) apos) [x] [] cpos ∧ xs = [o, x] ∧ (apos.endLine == cpos.line) = true ∧ noSup o = true := by
  unfold mrM1 at h
  split at h
  · rename_i o nm apos x cpos
    split at h
    · rename_i hb
      cases h
      obtain ⟨hb, h3⟩ := and_of hb
      obtain ⟨h1, h2⟩ := and_of hb
      have e4 := of_decide_eq_true h3
      subst e4
      exact ⟨o, x, apos, cpos, rfl, rfl, h1, h2⟩
    · cases h
  · cases h
theorem two_of {C : Cq} {X : Cx} {es : PXs} {x y : Expr} (h : isXs X.N X.env.scope es [x, y] = true) (ha : AllPE C X es) : ∃ a b, es = .cons a (.cons b .nil) ∧ isX X.N X.env.scope a x = true ∧ isX X.N X.env.scope b y = true ∧ PEs C X a ∧ PEs C X b := by
  match es, h, ha with
  | .nil, h, _ => exact absurd h Bool.false_ne_true
  | .cons a .nil, h, _ => exact absurd (and_of (show (isX X.N X.env.scope a x && false) = true from h)).2 Bool.false_ne_true
  | .cons a (.cons b .nil), h, ha =>
    obtain ⟨h1, h2⟩ := and_of (show (isX X.N X.env.scope a x && (isX X.N X.env.scope b y && true)) = true from h)
    exact ⟨a, b, rfl, h1, (and_of h2).1, ha.1, ha.2.1⟩
  | .cons a (.cons b (.cons c d)), h, _ =>
    obtain ⟨h1, h2⟩ := and_of (show (isX X.N X.env.scope a x && (isX X.N X.env.scope b y && false)) = true from h)
    exact absurd (and_of h2).2 Bool.false_ne_true
/-- the receiver is a text -/
def gdS : Gd := fun i d _ => match i with | 0 => ∃ a, d = .str a | _ => True
theorem pg_m1 {G : Glob} {k : Nat} {id m : String} {r : V → List V → Hp → VK → Prop} {w : Spec} (slot : Slot "str" (Str.ofString m) id) (ty : typeOf (.builtin id) = pure (.type "method_descriptor")) (rule : ∀ X : Cx, X.K = G.K → MtR X id r)
    (hr : ∀ {R F H : Hp} {M : Store} {v : V} {s : String} {d : D} {Qd : DK} {E : XP} {Q : VK}, Good G R F H M → Rp G F v d → w [.str s, d] M Qd E → Wish G R F Qd Q → r (.str (Str.ofString s)) [v] H Q) : PgF G k (mrM1 m) gdS w 2 := ⟨fun {C X} K hG hk {es e xs} hl hp hm hx ha => by
  subst hG; subst hk
  obtain ⟨o, x, apos, cpos, rfl, rfl, h1, h2⟩ := mrM1_shape hm
  obtain ⟨a, b, rfl, i1, i2, p1, p2⟩ := two_of hx ha
  have S : starEach [x] X.env = [(false, eval x X.env)] := star_of (es := []) (isX_plain i2)
  refine PE.imp (pe_m1 slot ty (rule X K.g.K) (p1 _ i1) (p2 _ i2) S (base_of h2 _ _) h1) fun σ H Q ⟨σd, M, R, F, Qd, s, q, w'⟩ => ?_
  refine ⟨σd, M, R, F, _, s, q, fun d M1 v F1 H1 q1 e1 g1 r1 => ?_⟩
  obtain ⟨⟨t, rfl⟩, q1⟩ := q1
  cases r1
  refine ⟨⟨_, rfl⟩, σd, M1, R, F1, _, s.step e1 g1, q1, fun d2 M2 v2 F2 H2 q2 e2 g2 r2 => ?_⟩
  exact hr g2 r2 q2.2 (w'.mono (e1.trans e2))⟩
/-- s.endswith(t) -/
def endB (s t : String) : Bool := decide (t.toList <:+ s.toList)
def endW : Spec := fun ds M Q _ => ∃ s t, ds = [.str s, .str t] ∧ Q (.bl (endB s t)) M
theorem ends_str (s t : String) : Txt.endswith (Str.ofString s) (Str.ofString t) = endB s t := by
  have ls := ofString_len s
  have lt := ofString_len t
  have cs : (Str.ofString s).cps.toList = s.toList.map Char.toNat := ofString_cps s
  have ct : (Str.ofString t).cps.toList = t.toList.map Char.toNat := ofString_cps t
  have hs : s.toList.length = s.length := String.length_toList
  have ht : t.toList.length = t.length := String.length_toList
  show (decide (0 + (Str.ofString t).length ≤ (Str.ofString s).length) && ((Str.ofString s).cps.extract ((Str.ofString s).length - (Str.ofString t).length) ((Str.ofString s).length - (Str.ofString t).length + (Str.ofString t).length) == (Str.ofString t).cps)) = endB s t
  rw [ls, lt]
  unfold endB
  by_cases hl : t.length ≤ s.length
  · have e1 : decide (0 + t.length ≤ s.length) = true := decide_eq_true (by omega)
    rw [e1, Bool.true_and]
    have key : ((Str.ofString s).cps.extract (s.length - t.length) (s.length - t.length + t.length) == (Str.ofString t).cps) = decide ((s.toList.drop (s.length - t.length)) = t.toList) := by
      have ex : ((Str.ofString s).cps.extract (s.length - t.length) (s.length - t.length + t.length)).toList = (s.toList.drop (s.length - t.length)).map Char.toNat := by
        rw [Array.toList_extract, cs, List.extract_eq_drop_take, List.map_drop]
        apply List.take_of_length_le
        rw [List.length_drop, List.length_map, hs]; omega
      by_cases h : s.toList.drop (s.length - t.length) = t.toList
      · rw [decide_eq_true h, beq_iff_eq]
        apply Array.toList_inj.mp
        rw [ex, ct, h]
      · rw [decide_eq_false h, beq_eq_false_iff_ne]
        intro z
        apply h
        have z2 := congrArg Array.toList z
        rw [ex, ct] at z2
        exact map_toNat_inj z2
    rw [key]
    congr 1
    rw [List.suffix_iff_eq_drop, hs, ht]
    exact propext ⟨fun e => e.symm, fun e => e.symm⟩
  · have e1 : decide (0 + t.length ≤ s.length) = false := decide_eq_false (by omega)
    rw [e1, Bool.false_and]
    symm
    apply decide_eq_false
    intro z
    have := z.length_le
    rw [hs, ht] at this
    exact hl this
theorem pg_ends {G : Glob} {k : Nat} : PgF G k (mrM1 "endswith") gdS endW 2 :=
  pg_m1 PySem.F.slot_str_endswith PySem.F.type_str_endswith (fun X _ => mt_endswith) fun {R F H M v s d Qd E Q} g r ⟨s', t, e, q⟩ w => by
    injection e with e1 e2
    injection e1 with e1
    injection e2 with e2 _
    subst e1; subst e2
    cases r
    exact ⟨_, _, rfl, rfl, by rw [ends_str]; exact w.at g (.bl _) q⟩
/-- s.join(xs) -/
def joinS (a : String) : List String → String
  | [] => ""
  | [x] => x
  | x :: y :: r => x ++ a ++ joinS a (y :: r)
def joinW : Spec := fun ds M Q _ => ∃ s d ss, ds = [.str s, d] ∧ asL M d = some (ss.map D.str) ∧ (ss.map String.length).sum + ss.length * s.length ≤ 16777216 ∧ Q (.str (joinS s ss)) M
theorem join_str (a : String) : ∀ ss : List String, Str.ofString (joinS a ss) = Txt.join (Str.ofString a) (ss.map Str.ofString) := fun ss => by
  rw [TL.join_eq]
  induction ss with
  | nil => rfl
  | cons x r ih =>
    cases r with
    | nil => rfl
    | cons y r =>
      show Str.ofString (x ++ a ++ joinS a (y :: r)) = Str.ofString x ++ Str.ofString a ++ Str.join (Str.ofString a) ((y :: r).map Str.ofString)
      rw [ofString_append, ofString_append, ih]
theorem pg_join {G : Glob} {k : Nat} : PgF G k (mrM1 "join") gdS joinW 2 :=
  pg_m1 (r := fun x xs H Q => ∃ a p, ∃ ys : List Str, x = .str a ∧ xs = [.ref p] ∧ (SqL G.K H p (ys.map V.str) ∨ SqT G.K H p (ys.map V.str)) ∧ (ys.map (·.length)).sum + ys.length * a.length ≤ 16777216 ∧ Q (.str (Txt.join a ys)) H) PySem.F.slot_str_join PySem.F.type_str_join (fun X e => by rw [← e]; exact mt_join) fun {R F H M v s d Qd E Q} g r ⟨s', d', ss, e, ha, hl, q⟩ w => by
    injection e with e1 e2
    injection e1 with e1
    injection e2 with e2 _
    subst e1; subst e2
    obtain ⟨a, vs, rfl, hH, rl⟩ := asL_rp g r ha
    have ev := rl.of_strs
    subst ev
    refine ⟨_, a, ss.map Str.ofString, rfl, rfl, .inl ?_, ?_, ?_⟩
    · rw [List.map_map]; exact SqL.of hH
    · rw [List.map_map, List.length_map, ofString_len]
      have : (fun x : Str => x.length) ∘ Str.ofString = String.length := funext fun x => ofString_len x
      rw [this]; exact hl
    · rw [← join_str]; exact w.at g (.str _) q
/-! ### f'..' of two parts or more -/
def txD : D → String
  | .str s => s | .int i => toString i | _ => ""
def matchF : List (Option String) → List Expr → Option (List Expr)
  | [], vs => match vs with | [] => some [] | _ => none
  | some s :: ps, vs => match vs with | .Constant (.str t) _ _ :: vs => if t = Str.ofString s ∧ s.length ≤ 1000000 then matchF ps vs else none | _ => none
  | none :: ps, vs => match vs with | .FormattedValue e (-1) none _ :: vs => (match matchF ps vs with | some xs => some (e :: xs) | none => none) | _ => none
def fillF : List (Option String) → List D → String
  | [], _ => ""
  | some s :: ps, ds => s ++ fillF ps ds
  | none :: ps, [] => fillF ps []
  | none :: ps, d :: ds => txD d ++ fillF ps ds
def mrF (ps : List (Option String)) : Mr := fun _ _ e => match e with
  | .JoinedStr (v1 :: v2 :: r) _ => if ps.length ≤ 10 then matchF ps (v1 :: v2 :: r) else none
  | _ => none
def gdF : Gd := fun _ d _ => (∃ s, d = .str s ∧ s.length ≤ 1000000) ∨ ∃ i : Int, d = .int i ∧ i.natAbs.log2 < 1920 ∧ (toString i).length ≤ 1000000
def fW (ps : List (Option String)) : Spec := fun ds M Q _ => Q (.str (fillF ps ds)) M
theorem str_append_assoc (a b c : String) : a ++ b ++ c = a ++ (b ++ c) := String.append_assoc
theorem pj_all {C : Cq} {X : Cx} (K : Ctx C X) : ∀ (ps : List (Option String)) (vs : List Expr) (xs : List Expr) (es : PXs), matchF ps vs = some xs → isXs X.N X.env.scope es xs = true → AllPE C X es → ∃ ts, PJ X vs ts ∧
    ∀ (i : Nat) (acc : String) (σ : L2.St) (H : Hp) (Qs : Str → Hp → Prop) (σd : Env) (M : Store) (R F : Hp) (QL : List D → Store → Prop), SR C σd M R F σ H → acc.length + 1000000 * ps.length ≤ 16777216 → dEg C.E gdF i es σd M QL →
      (∀ ds M' F' H', QL ds M' → Ex F F' → Good C.G R F' H' M' → Qs (Str.ofString (acc ++ fillF ps ds)) H') → tJs ts (Str.ofString acc) σ H Qs
  | [], vs, xs, es, hm, hx, _ => by
    cases vs with
    | cons _ _ => cases hm
    | nil =>
      cases hm
      cases es with
      | cons _ _ => exact absurd hx Bool.false_ne_true
      | nil =>
        refine ⟨[], .nil, fun i acc σ H Qs σd M R F QL s hl q w => ?_⟩
        have := w [] M F H q (Ex.refl F) s.good
        rw [show fillF [] [] = "" from rfl, String.append_empty] at this
        exact this
  | some c :: ps, vs, xs, es, hm, hx, ha => by
    have line_is : sizeLine = 16777216 := line_eq
    unfold matchF at hm
    split at hm
    · rename_i t j pos vs'
      split at hm
      · rename_i hc
        obtain ⟨rfl, cl⟩ := hc
        obtain ⟨ts, pj, rd⟩ := pj_all K ps vs' xs es hm hx ha
        refine ⟨_, .cons pe_str pj, fun i acc σ H Qs σd M R F QL s hl q w => ?_⟩
        rw [List.length_cons] at hl
        have la : (acc ++ c).length = acc.length + c.length := String.length_append acc c
        refine ⟨_, rfl, ?_, ?_⟩
        · rw [← ofString_append, ofString_len, la, line_is]; omega
        · rw [← ofString_append]
          refine rd i (acc ++ c) σ H Qs σd M R F QL s (by rw [la]; omega) q fun ds M' F' H' q' e' g' => ?_
          have := w ds M' F' H' q' e' g'
          rw [str_append_assoc]
          exact this
      · cases hm
    · cases hm
  | none :: ps, vs, xs, es, hm, hx, ha => by
    have line_is : sizeLine = 16777216 := line_eq
    unfold matchF at hm
    split at hm
    · rename_i e pos vs'
      split at hm
      · rename_i xs' hm'
        cases hm
        cases es with
        | nil => exact absurd hx Bool.false_ne_true
        | cons p es =>
          obtain ⟨h1, h2⟩ := and_of (show (isX X.N X.env.scope p e && isXs X.N X.env.scope es xs') = true from hx)
          obtain ⟨ts, pj, rd⟩ := pj_all K ps vs' xs' es hm' h2 ha.2
          refine ⟨_, .cons (pe_fmt (ha.1 _ h1)) pj, fun i acc σ H Qs σd M R F QL s hl q w => ?_⟩
          rw [List.length_cons] at hl
          refine ⟨σd, M, R, F, _, s, q, fun d M1 v F1 H1 q1 e1 g1 r1 => ?_⟩
          obtain ⟨gd, q1⟩ := q1
          have step : ∀ t : String, txD d = t → t.length ≤ 1000000 → (Str.ofString acc ++ Str.ofString t).length ≤ sizeLine ∧ tJs ts (Str.ofString acc ++ Str.ofString t) σ H1 Qs := fun t et tl => by
            have la : (acc ++ t).length = acc.length + t.length := String.length_append acc t
            rw [← ofString_append, ofString_len, la, line_is]
            refine ⟨by omega, rd (i + 1) (acc ++ t) σ H1 Qs σd M1 R F1 _ (s.step e1 g1) (by rw [la]; omega) q1 fun ds M' F' H' q' e' g' => ?_⟩
            have := w (d :: ds) M' F' H' q' (e1.trans e') g'
            rw [show fillF (none :: ps) (d :: ds) = txD d ++ fillF ps ds from rfl, et] at this
            rw [str_append_assoc]
            exact this
          rcases gd with ⟨t, rfl, tl⟩ | ⟨i, rfl, i1, i2⟩
          · cases r1
            obtain ⟨z1, z2⟩ := step _ rfl tl
            exact .inl ⟨_, rfl, by rw [ofString_len, line_is]; omega, _, rfl, z1, z2⟩
          · cases r1
            obtain ⟨z1, z2⟩ := step _ rfl i2
            exact .inr ⟨_, rfl, i1, _, rfl, z1, z2⟩
      · cases hm
    · cases hm
theorem pg_f {G : Glob} {k n : Nat} (ps : List (Option String)) : PgF G k (mrF ps) gdF (fW ps) n := ⟨fun {C X} K hG hk {es e xs} hl hp hm hx ha => by
  unfold mrF at hm
  split at hm
  · rename_i v1 v2 r pos
    split at hm
    · rename_i h10
      obtain ⟨ts, pj, rd⟩ := pj_all K ps _ xs es hm hx ha
      refine PE.imp (pe_joined pj) fun σ H Q ⟨σd, M, R, F, Qd, s, q, w⟩ => ?_
      refine rd 0 "" σ H _ σd M R F _ s (by show 0 + _ ≤ _; omega) q fun ds M' F' H' q' e' g' => ?_
      rw [String.empty_append]
      exact w _ _ _ F' H' q' e' g' (.str _)
    · cases hm
  · cases hm⟩
/-! ### a display of texts, {'a': 'b', ..} -/
def dispB : List (String × String) → List (Option Expr) → List Expr → Bool
  | [], ks, vs => ks.isEmpty && vs.isEmpty
  | (a, b) :: r, ks, vs => match ks, vs with
    | some (.Constant (.str x) _ _) :: ks, .Constant (.str y) _ _ :: vs => decide (x = Str.ofString a) && decide (y = Str.ofString b) && dispB r ks vs
    | _, _ => false
def mrD (l : List (String × String)) : Mr := fun _ _ e => match e with
  | .Dict ks vs _ => if (dispB l ks vs && !l.isEmpty && decide (l.length ≤ 15)) = true then some [] else none
  | _ => none
def dispD (l : List (String × String)) : List (D × D) := l.foldl (fun acc e => putD (.str e.1) (.str e.2) acc) []
def dW (l : List (String × String)) : Spec := fun _ M Q _ => Q (.dic (dispD l)) M ∨ ∀ p, M p = none → Q (.ptr p) (M.put p (.dic (dispD l)))
theorem disp_pps {X : Cx} {pos : Pos} : ∀ (l : List (String × String)) {ks : List (Option Expr)} {vs : List Expr}, dispB l ks vs = true → ks.all (·.isSome) = true ∧ ks.length = vs.length ∧ ks.length = l.length ∧
    ∃ trs, PPs X pos ks vs trs ∧ ∀ σ H (Q : List (V × V) → Hp → Prop), Q (l.map fun e => (V.str (Str.ofString e.1), V.str (Str.ofString e.2))) H → tPairs trs σ H Q
  | [], ks, vs, h => by
    obtain ⟨h1, h2⟩ := and_of (show (ks.isEmpty && vs.isEmpty) = true from h)
    obtain rfl := List.isEmpty_iff.mp h1
    obtain rfl := List.isEmpty_iff.mp h2
    exact ⟨rfl, rfl, rfl, [], pps_nil, fun σ H Q q => q⟩
  | (a, b) :: r, ks, vs, h => by
    unfold dispB at h
    split at h
    · rename_i x _ _ ks' y _ _ vs'
      obtain ⟨h, h3⟩ := and_of h
      obtain ⟨h1, h2⟩ := and_of h
      obtain rfl := of_decide_eq_true h1
      obtain rfl := of_decide_eq_true h2
      obtain ⟨i1, i2, i3, trs, i4, i5⟩ := disp_pps r h3
      refine ⟨by rw [List.all_cons, i1]; rfl, by rw [List.length_cons, List.length_cons, i2], by rw [List.length_cons, List.length_cons, i3], _, pps_cons pe_str pe_str i4, fun σ H Q q => ?_⟩
      exact i5 σ H _ q
    · cases h
theorem disp_rd {G : Glob} {F : Hp} : ∀ (l : List (String × String)) {kv : List (Key × V)} {ds : List (D × D)}, RpD G F kv ds →
    RpD G F (mergeK kv (l.map fun e => ((Sum.inr (Str.ofString e.1) : Key), V.str (Str.ofString e.2)))) (l.foldl (fun acc e => putD (.str e.1) (.str e.2) acc) ds)
  | [], _, _, r => r
  | e :: l, _, _, r => disp_rd l (put_rd0 (kd := .str e.1) rfl (.str e.2) r)
theorem pr_disp {G : Glob} {k n : Nat} (l : List (String × String)) : PrF G k (mrD l) (dW l) n := ⟨fun {C X} K hG hk {es e xs} hl hp hm hx ha => by
  unfold mrD at hm
  split at hm
  · rename_i ks vs pos
    split at hm
    · rename_i hb
      cases hm
      cases es with
      | cons _ _ => exact absurd hx Bool.false_ne_true
      | nil =>
        obtain ⟨hb, h3⟩ := and_of hb
        obtain ⟨h1, h2⟩ := and_of hb
        have h3 := of_decide_eq_true h3
        obtain ⟨i1, i2, i3, trs, i4, i5⟩ := disp_pps (X := X) (pos := pos) l h1
        refine PE.imp (pe_disp i4 i1 i2 (fun z => ?_) (by omega)) fun σ H Q ⟨σd, M, R, F, Qd, s, q, w⟩ => ?_
        · rw [z] at i3
          cases l with
          | nil => cases h2
          | cons _ _ => cases i3
        · intro p hp'
          refine i5 σ _ _ ⟨upd_same, l.map fun e => ((Sum.inr (Str.ofString e.1) : Key), V.str (Str.ofString e.2)), by rw [List.map_map]; rfl, by rw [List.length_map]; exact h3, ?_⟩
          rw [upd_upd]
          have rd := disp_rd (G := C.G) (F := F) l .nil
          rcases q with q | q
          · obtain ⟨g2, e2⟩ := s.good.new (o := .dK (mergeK [] (l.map fun e => ((Sum.inr (Str.ofString e.1) : Key), V.str (Str.ofString e.2))))) hp'
            exact w _ _ _ _ _ q e2 g2 (.dic upd_same (rd.mono e2))
          · exact w.newM s.good hp' (.dic rd) (q p (s.good.fresh hp').1)
    · cases hm
  · cases hm⟩
end VS

/-! VS, part 19: texts and their tokens, plainly. -/
namespace VS
open PySem PySem.Spec PyProof.Rows L2
def isLet (c : Char) : Bool := decide (97 ≤ c.toNat) && decide (c.toNat ≤ 122)
theorem single_list (c : Char) : (Str.ofString (String.singleton c)).cps.toList = [c.toNat] := by
  rw [ofString_cps]; simp
theorem le_a (c : Char) : strLe "a" (String.singleton c) = decide (97 ≤ c.toNat) := by
  unfold strLe
  rw [single_list, show (Str.ofString "a").cps.toList = [97] by decide]
  by_cases h : 97 ≤ c.toNat
  · rw [decide_eq_true h, decide_eq_false]; rfl
    intro z
    rcases List.cons_lt_cons_iff.mp z with z | ⟨_, z⟩
    · omega
    · exact absurd z (by simp)
  · rw [decide_eq_false h, decide_eq_true]; rfl
    exact List.cons_lt_cons_iff.mpr (.inl (by omega))
theorem le_z (c : Char) : strLe (String.singleton c) "z" = decide (c.toNat ≤ 122) := by
  unfold strLe
  rw [single_list, show (Str.ofString "z").cps.toList = [122] by decide]
  by_cases h : c.toNat ≤ 122
  · rw [decide_eq_true h, decide_eq_false]; rfl
    intro z
    rcases List.cons_lt_cons_iff.mp z with z | ⟨_, z⟩
    · omega
    · exact absurd z (by simp)
  · rw [decide_eq_false h, decide_eq_true]; rfl
    exact List.cons_lt_cons_iff.mpr (.inl (by omega))
/-- a token: a word or a sign, its text, its place -/
structure Tk where
  w : Bool
  v : String
  at_ : Nat
def kindT (w : Bool) : String := match w with | true => "word" | false => "sign"
def tkD (t : Tk) : D := .tup [.str (kindT t.w), .str t.v, .int (t.at_ : Int)]
/-- the tokens of a text from a place on -/
inductive Lex (S : List Char) : List Char → Nat → List Tk → Prop
  | nil {p : Nat} : Lex S [] p []
  | ws {c : Char} {r : List Char} {p : Nat} {ts : List Tk} : (c = ' ' ∨ c = '\n') → Lex S r (p + 1) ts → Lex S (c :: r) p ts
  | sign {c : Char} {r : List Char} {p : Nat} {ts : List Tk} : c ∈ S → isLet c = false → Lex S r (p + 1) ts → Lex S (c :: r) p (⟨false, String.singleton c, p⟩ :: ts)
  | word {w r : List Char} {p : Nat} {ts : List Tk} : w ≠ [] → (∀ c ∈ w, isLet c = true) → (∀ c r', r = c :: r' → isLet c = false) → Lex S r (p + w.length) ts → Lex S (w ++ r) p (⟨true, String.ofList w, p⟩ :: ts)
theorem Lex.len {S : List Char} {l : List Char} {p : Nat} {ts : List Tk} (h : Lex S l p ts) : ts.length ≤ l.length := by
  induction h with
  | nil => exact Nat.le_refl _
  | ws _ _ ih => rw [List.length_cons]; omega
  | sign _ _ _ ih => rw [List.length_cons, List.length_cons]; omega
  | word hw _ _ _ ih =>
    rw [List.length_append, List.length_cons]
    have := List.length_pos_iff.mpr hw
    omega
/-- white space -/
def wsB (l : List Char) : Bool := l.all fun c => c == ' ' || c == '\n'
theorem Lex.blank {S : List Char} {r : List Char} {ts : List Tk} : ∀ {l : List Char} {p : Nat}, wsB l = true → Lex S r (p + l.length) ts → Lex S (l ++ r) p ts
  | [], p, _, h => h
  | c :: l, p, hw, h => by
    have hw' : ((c == ' ' || c == '\n') && wsB l) = true := hw
    obtain ⟨h1, h2⟩ := and_of hw'
    refine .ws (by simpa using h1) (Lex.blank h2 ?_)
    rw [List.length_cons] at h
    rw [show p + 1 + l.length = p + (l.length + 1) by omega]; exact h
theorem w_ixS {M : Store} {Q : DK} {t : String} {i : Nat} {c : Char} (hl : t.length ≤ line) (h : t.toList[i]? = some c) : wIx (.str t) (.int (i : Int)) M Q = Q (.str (String.singleton c)) M := by
  show (t.length ≤ line ∧ (match atI t.toList (i : Int) with | some c => Q (.str (String.singleton c)) M | none => False)) = _
  rw [atI_natD h]
  exact propext ⟨fun h => h.2, fun h => ⟨hl, h⟩⟩
theorem cut_word {l w r : List Char} {i : Nat} (h : l.drop i = w ++ r) : cutD l (some (i : Int)) (some ((i + w.length : Nat) : Int)) = w := by
  have hl : l.length - i = w.length + r.length := by rw [← List.length_drop, h, List.length_append]
  unfold cutD
  rw [HT.sIx_nat, HT.sIx_nat]
  by_cases hi : i ≤ l.length
  · rw [Nat.min_eq_left hi, Nat.min_eq_left (by omega), h, Nat.add_sub_cancel_left, List.take_left]
  · have hw : w = [] := List.length_eq_zero_iff.mp (by omega)
    subst hw
    rw [List.length_nil, Nat.add_zero, Nat.sub_self, List.take_zero]
theorem cut_to {α : Type} {xs : List α} {j : Nat} : cutD xs none (some (j : Int)) = xs.take j := by
  unfold cutD
  rw [HT.sIx_none, HT.sIx_nat, List.drop_zero, Nat.sub_zero]
  by_cases h : j ≤ xs.length
  · rw [Nat.min_eq_left h]
  · rw [Nat.min_eq_right (by omega), List.take_of_length_le (Nat.le_refl _), List.take_of_length_le (by omega)]
theorem cut_last {α : Type} {xs : List α} : cutD xs none (some (-1)) = xs.dropLast := by
  unfold cutD
  rw [HT.sIx_none, List.drop_zero, Nat.sub_zero, List.dropLast_eq_take]
  congr 1
  have : HT.sIx xs.length xs.length (some (-1)) = (-1 + (xs.length : Int)).toNat := rfl
  rw [this]
  omega
end VS

/-! VS, part 20: what several laws draw: elements, conditions; what the store is after it. -/
namespace VS
open PySem PySem.Spec PyProof.Rows L2
mutual
inductive El | mk (n : String) (ks : Els)
inductive Els | nil | cons (e : El) (es : Els)
end
mutual
def encE : El → D
  | .mk n ks => .tup [.str n, .tup (encEs ks)]
def encEs : Els → List D
  | .nil => []
  | .cons e es => encE e :: encEs es
def sizeE : El → Nat
  | .mk _ ks => sizeEs ks + 1
def sizeEs : Els → Nat
  | .nil => 0
  | .cons e es => sizeE e + sizeEs es
def htE : El → Nat
  | .mk _ ks => htEs ks + 1
def htEs : Els → Nat
  | .nil => 0
  | .cons e es => max (htE e) (htEs es)
end
def snoc : Els → El → Els
  | .nil, e => .cons e .nil
  | .cons a es, e => .cons a (snoc es e)
theorem enc_snoc : ∀ (es : Els) (e : El), encEs (snoc es e) = encEs es ++ [encE e]
  | .nil, e => rfl
  | .cons a es, e => by show encE a :: encEs (snoc es e) = _; rw [enc_snoc es e]; rfl
theorem size_snoc : ∀ (es : Els) (e : El), sizeEs (snoc es e) = sizeEs es + sizeE e
  | .nil, e => by show sizeE e + 0 = 0 + sizeE e; omega
  | .cons a es, e => by show sizeE a + sizeEs (snoc es e) = sizeE a + sizeEs es + sizeE e; rw [size_snoc es e]; omega
theorem ht_snoc : ∀ (es : Els) (e : El), htEs (snoc es e) = max (htEs es) (htE e)
  | .nil, e => by show max (htE e) 0 = max 0 (htE e); omega
  | .cons a es, e => by show max (htE a) (htEs (snoc es e)) = max (max (htE a) (htEs es)) (htE e); rw [ht_snoc es e]; omega
inductive Look | child | below | parent | above | earlier | later
def Look.nm : Look → String
  | .child => "child" | .below => "below" | .parent => "parent" | .above => "above" | .earlier => "earlier" | .later => "later"
inductive Cond | all | none | is (s : String) | not (c : Cond) | bin (b : Bool) (c d : Cond) | look (l : Look) (c : Cond)
def binN (b : Bool) : String := if b = true then "and" else "or"
def encC : Cond → D
  | .all => .tup [.str "all"] | .none => .tup [.str "none"] | .is s => .tup [.str "is", .str s]
  | .not c => .tup [.str "not", encC c] | .bin b c d => .tup [.str (binN b), .tup [encC c, encC d]] | .look l c => .tup [.str l.nm, encC c]
def htC : Cond → Nat
  | .not c => htC c + 1 | .bin _ c d => max (htC c) (htC d) + 1 | .look _ c => htC c + 1 | _ => 1
/-- what the store is after work that only makes new objects and draws -/
def Grow (d : Addr) (M M' : Store) : Prop := DrawAt M' d ∧ ∀ a, a ≠ d → M a ≠ none → M' a = M a
theorem Grow.trans {d : Addr} {M M1 M2 : Store} (h1 : Grow d M M1) (h2 : Grow d M1 M2) : Grow d M M2 :=
  ⟨h2.1, fun a ha hm => by rw [h2.2 a ha (by rw [h1.2 a ha hm]; exact hm), h1.2 a ha hm]⟩
theorem Grow.next {d : Addr} {M M' : Store} (h : DrawAt M' d) (e : ∀ a, a ≠ d → M' a = M a) : Grow d M M' := ⟨h, fun a ha _ => e a ha⟩
theorem Grow.put {d p : Addr} {M M' : Store} {o : MO} (h : Grow d M M') (hp : p ≠ d) (hn : M p = none) : Grow d M (M'.put p o) :=
  ⟨by obtain ⟨a, b, c, e, h1, h2⟩ := h.1; exact ⟨a, b, c, e, by rw [put_ne hp.symm]; exact h1, h2⟩, fun a ha hm => by
    have : a ≠ p := fun z => by subst z; exact hm hn
    rw [put_ne this]; exact h.2 a ha hm⟩
theorem DrawAt.ne {M : Store} {d : Addr} (h : DrawAt M d) : M d ≠ none := by obtain ⟨a, b, c, e, h1, h2⟩ := h; rw [h1]; exact fun z => by cases z
def cap : Nat → Nat
  | 0 => 1
  | n + 1 => 1 + 3 * cap n
theorem three {r : Int} {a b c : D} (h0 : 0 ≤ r) (h : r < 3) : ∃ x, atI [a, b, c] r = some x ∧ (x = a ∨ x = b ∨ x = c) := by
  have : r = 0 ∨ r = 1 ∨ r = 2 := by omega
  rcases this with e | e | e <;> subst e
  · exact ⟨_, at_0, .inl rfl⟩
  · exact ⟨_, at_1, .inr (.inl rfl)⟩
  · exact ⟨_, at_2, .inr (.inr rfl)⟩
/-- all that stood before stands as it was -/
def Dr (M M' : Store) : Prop := ∀ a, M a ≠ none → M' a = M a
theorem Dr.refl (M : Store) : Dr M M := fun _ _ => rfl
theorem Dr.trans {M M1 M2 : Store} (a : Dr M M1) (b : Dr M1 M2) : Dr M M2 := fun x h => by rw [b x (by rw [a x h]; exact h), a x h]
theorem Dr.new {M : Store} {p : Addr} {o : MO} (h : M p = none) : Dr M (M.put p o) := fun a ha => put_ne fun e => ha (by rw [e]; exact h)
theorem Dr.put {M M' : Store} {p : Addr} {o : MO} (d : Dr M M') (h : M p = none) : Dr M (M'.put p o) := fun a ha => by
  rw [put_ne fun e => ha (by rw [e]; exact h)]; exact d a ha
theorem Dr.non {M M' : Store} {a : Addr} (d : Dr M M') (h : M' a = none) : M a = none := by
  cases e : M a with
  | none => rfl
  | some o =>
    have := d a (by rw [e]; exact fun z => by cases z)
    rw [h, e] at this; cases this
theorem Dr.draw {M M' : Store} (a : Dr M M') {d : Addr} (h : DrawAt M d) : DrawAt M' d := by
  obtain ⟨x, b, c, e, h1, h2⟩ := h
  exact ⟨x, b, c, e, by rw [a d (by rw [h1]; exact fun z => by cases z)]; exact h1, h2⟩
theorem Grow.refl {d : Addr} {M : Store} (h : DrawAt M d) : Grow d M M := ⟨h, fun _ _ _ => rfl⟩
theorem Grow.dr {d : Addr} {M M' M2 : Store} (h : Grow d M M') (e : Dr M' M2) : Grow d M M2 :=
  ⟨e.draw h.1, fun a ha hm => by rw [e a (by rw [h.2 a ha hm]; exact hm), h.2 a ha hm]⟩
theorem Grow.non {d a : Addr} {M M' : Store} (g : Grow d M M') (ha : a ≠ d) (h : M' a = none) : M a = none := by
  cases e : M a with
  | none => rfl
  | some o =>
    have := g.2 a ha (by rw [e]; exact fun z => by cases z)
    rw [h, e] at this; cases this
theorem Grow.ne {d a : Addr} {M : Store} (g : DrawAt M d) (h : M a = none) : a ≠ d := fun z => by subst z; exact DrawAt.ne g h
theorem pick_ix {xs : List D} {r : Int} (h0 : 0 ≤ r) (h : r < (xs.length : Int)) : ∃ x, atI xs r = some x ∧ x ∈ xs := by
  obtain ⟨k, rfl⟩ := Int.eq_ofNat_of_zero_le h0
  have hk : k < xs.length := by omega
  exact ⟨xs[k], atI_natD (List.getElem?_eq_getElem hk), List.getElem_mem hk⟩
theorem pick_str {ss : List String} {r : Int} (h0 : 0 ≤ r) (h : r < (ss.length : Int)) : ∃ s, s ∈ ss ∧ ∀ (M : Store) (Q : DK), wIx (.lst (ss.map D.str)) (.int r) M Q = Q (.str s) M := by
  obtain ⟨x, hx, hm⟩ := pick_ix (xs := ss.map D.str) h0 (by rw [List.length_map]; exact h)
  obtain ⟨s, hs, rfl⟩ := List.mem_map.mp hm
  exact ⟨s, hs, fun M Q => w_ixL hx⟩
theorem at_last {α : Type} {xs : List α} {x : α} : atI (xs ++ [x]) (-1) = some x := by
  unfold atI
  have e : ixN (xs ++ [x]).length (-1) = some xs.length := by
    rw [List.length_append]
    unfold ixN
    rw [if_neg (by decide), if_pos (by simp; omega)]
    congr 1
    simp
    omega
  rw [e]
  show (xs ++ [x])[xs.length]? = some x
  rw [List.getElem?_append_right (Nat.le_refl _), Nat.sub_self]; rfl
theorem forGo_app {f : D → Env → Store → (Env → Store → Prop) → Prop} {nx : Env → Store → Prop} : ∀ (xs ys : List D) (σ : Env) (M : Store), forGo (fun _ => True) f (xs ++ ys) σ M nx = forGo (fun _ => True) f xs σ M (fun σ' M' => forGo (fun _ => True) f ys σ' M' nx)
  | [], ys, σ, M => by
    show forGo _ f ys σ M nx = (True ∧ forGo _ f ys σ M nx)
    rw [true_and]
  | x :: xs, ys, σ, M => by
    show (True ∧ f x σ M _) = (True ∧ f x σ M _)
    have : (fun σ' M' => forGo (fun _ => True) f (xs ++ ys) σ' M' nx) = (fun σ' M' => forGo (fun _ => True) f xs σ' M' (fun σ' M' => forGo (fun _ => True) f ys σ' M' nx)) := funext fun σ' => funext fun M' => forGo_app xs ys σ' M'
    show (True ∧ f x σ M (fun σ' M' => forGo (fun _ => True) f (xs ++ ys) σ' M' nx)) = _
    rw [this]
theorem forGo_nil {f : D → Env → Store → (Env → Store → Prop) → Prop} {nx : Env → Store → Prop} {σ : Env} {M : Store} : forGo (fun _ => True) f [] σ M nx = nx σ M := by show (True ∧ nx σ M) = _; rw [true_and]
theorem forGo_one {f : D → Env → Store → (Env → Store → Prop) → Prop} {nx : Env → Store → Prop} {x : D} {xs : List D} {σ : Env} {M : Store} : forGo (fun _ => True) f (x :: xs) σ M nx = f x σ M fun σ' M' => forGo (fun _ => True) f xs σ' M' nx := by show (True ∧ _) = _; rw [true_and]
theorem nd_line : line = 16777216 := rfl
theorem it_T {M : Store} {xs : List D} {Q : List D → (Store → Prop) → Prop} : itD (.tup xs) M Q = Q xs fun _ => True := rfl
theorem it_L {M : Store} {xs : List D} {Q : List D → (Store → Prop) → Prop} : itD (.lst xs) M Q = Q xs fun _ => True := rfl
theorem optI_t {i : Int} : optI true (.int i) = some (some i) := rfl
theorem optI_f {d : D} : optI false d = some none := rfl
theorem w_slL {M : Store} {xs : List D} {lo hi : Option Int} {Q : DK} : wSl (.lst xs) lo hi M Q = nuL (cutD xs lo hi) M Q := rfl
theorem w_slT {M : Store} {xs : List D} {lo hi : Option Int} {Q : DK} : wSl (.tup xs) lo hi M Q = Q (.tup (cutD xs lo hi)) M := rfl
theorem w_slP {M : Store} {p : Addr} {xs : List D} {lo hi : Option Int} {Q : DK} (h : M p = some (.lst xs)) : wSl (.ptr p) lo hi M Q = nuL (cutD xs lo hi) M Q := by
  show (match asL M (.ptr p) with | some xs => nuL (cutD xs lo hi) M Q | none => False) = _
  rw [asL_ptr h]
theorem w_listL {M : Store} {xs : List D} {Q : DK} : wBi .list [.lst xs] M Q = nuL xs M Q := rfl
theorem w_listT {M : Store} {xs : List D} {Q : DK} : wBi .list [.tup xs] M Q = nuL xs M Q := rfl
theorem eqvAll_strs : ∀ l : List String, PyData.eqvAll (pyL (l.map D.str)) (pyL (l.map D.str)) = true
  | [] => rfl
  | s :: l => by
    show (PyData.eqv (py (.str s)) (py (.str s)) && PyData.eqvAll (pyL (l.map D.str)) (pyL (l.map D.str))) = true
    rw [eqv_str, eqvAll_strs l]; simp
theorem lay_strs : ∀ l : List String, PyData.canLayAll0 (pyL (l.map D.str)) = true
  | [] => rfl
  | s :: l => by
    show PyData.canLayAll0 (PyData.str (Str.ofString s) :: pyL (l.map D.str)) = true
    rw [PyData.canLayAll0, lay_strs l, PyData.canLay0, strOk_of]; rfl
theorem deep_strs : ∀ l : List String, PyData.depthAll (pyL (l.map D.str)) = 0
  | [] => rfl
  | s :: l => by
    show PyData.depthAll (PyData.str (Str.ofString s) :: pyL (l.map D.str)) = 0
    rw [PyData.depthAll, deep_strs l, PyData.depth]; rfl
theorem shaped_strs (l : List String) : SeqAt.shaped (py (.lst (l.map D.str))) = true := by
  show (PyData.canLay0 (.list _) && decide (PyData.depth (.list _) ≤ 64)) = true
  rw [PyData.canLay0, PyData.depth, lay_strs, deep_strs]; rfl
theorem eq_strs {l : List String} {M : Store} {Q : DK} (h : Q (.bl true) M) : wCmp .eq (.lst (l.map D.str)) (.lst (l.map D.str)) M Q := by
  refine ⟨shaped_strs l, shaped_strs l, ?_⟩
  have e : PyData.eqv (py (.lst (l.map D.str))) (py (.lst (l.map D.str))) = true := by
    show PyData.eqv (.list (pyL (l.map D.str))) (.list (pyL (l.map D.str))) = true
    rw [PyData.eqv, eqvAll_strs]
  rw [e]
  exact h
/-- a list of texts is not unlike itself -/
theorem ne_strs {l : List String} {M : Store} {Q : DK} (h : Q (.bl false) M) : wCmp .ne (.lst (l.map D.str)) (.lst (l.map D.str)) M Q := by
  refine ⟨shaped_strs l, shaped_strs l, ?_⟩
  have e : PyData.eqv (py (.lst (l.map D.str))) (py (.lst (l.map D.str))) = true := by
    show PyData.eqv (.list (pyL (l.map D.str))) (.list (pyL (l.map D.str))) = true
    rw [PyData.eqv, eqvAll_strs]
  rw [e]
  exact h
def toL : Els → List El
  | .nil => [] | .cons e es => e :: toL es
theorem enc_toL : ∀ es : Els, encEs es = (toL es).map encE
  | .nil => rfl
  | .cons e es => by show encE e :: encEs es = encE e :: (toL es).map encE; rw [enc_toL es]
theorem ht_toL : ∀ (es : Els) (e : El), e ∈ toL es → htE e ≤ htEs es
  | .nil, _, h => by cases h
  | .cons a es, e, h => by
    show htE e ≤ max (htE a) (htEs es)
    rcases List.mem_cons.mp h with z | z
    · subst z; omega
    · have := ht_toL es e z; omega
theorem size_toL : ∀ (es : Els) (e : El), e ∈ toL es → sizeE e ≤ sizeEs es
  | .nil, _, h => by cases h
  | .cons a es, e, h => by
    show sizeE e ≤ sizeE a + sizeEs es
    rcases List.mem_cons.mp h with z | z
    · subst z; omega
    · have := size_toL es e z; omega
mutual
/-- the names are those that laws draw -/
def nmE : El → Bool
  | .mk n ks => decide (n ∈ ["a", "b", "ab"]) && nmEs ks
def nmEs : Els → Bool
  | .nil => true | .cons e es => nmE e && nmEs es
end
theorem nm_snoc : ∀ (es : Els) (e : El), nmEs (snoc es e) = (nmEs es && nmE e)
  | .nil, e => by show (nmE e && true) = (true && nmE e); rw [Bool.and_true, Bool.true_and]
  | .cons a es, e => by show (nmE a && nmEs (snoc es e)) = (nmE a && nmEs es && nmE e); rw [nm_snoc es e, Bool.and_assoc]
def spLaw : Spec := fun ds M Q _ => ∃ ns : List Int, ds = [.scr ns] ∧ ns.length ≤ 63 ∧ ∀ M', Q (.bl true) M'
end VS

/-! VS, part 21: methods, instances, constants of the program's top. -/
namespace VS
open PySem PySem.Spec PyProof.Rows L2
structure MethAt (G : Glob) (cl m : String) (st : Stmt) (ps : List Str) (C f : Addr) (fd : FuncData) : Prop where
  mg : G.mg (Str.ofString cl) = some (.ref C)
  cls : Cls G.K C
  me : Meth G.K C (Str.ofString m) f
  fn : L2.Fun G.K (Str.ofString m) (Str.ofString (cl ++ "." ++ m)) st f fd
  bd : Binds G.K fd ps []
section
variable {G : Glob} {cl m : String} {st : Stmt} {ps : List Str} {C f : Addr} {fd : FuncData} {k n : Nat} {sp : Spec}
theorem MethAt.at (d : MethAt G cl m st ps C f fd) (ok : FnOk G.prog G.w G.K G.mg G.base (L2.CX G.prog G.w) k f fd ps (toSp G n sp)) : MethFor G k cl m n sp :=
  ⟨C, f, fd, ps, d.mg, d.cls, d.me, ok, d.bd⟩
theorem MethAt.ok {N : List Str} (d : MethAt G cl m st ps C f fd) (c : Sts) (S : FnScope N ps (defScope st)) (hm : isSs N (defScope st) c (defBody st) = true) (ok : okSs G k c)
    (hsp : ∀ ds M Q E, ds.length = ps.length → sp ds M Q E → dSs E c { nx := fun _ M' => Q .non M', rt := Q } (startD N.length ds) M) : MethFor G (k + 1) cl m ps.length sp :=
  d.at (def_ok c d.fn S hm ok hsp)
theorem MethAt.none (d : MethAt G cl m st ps C f fd) (h : ∀ ds M Q E, ¬ sp ds M Q E) : MethFor G k cl m n sp := d.at (fn_none h)
theorem MethFor.mono {j : Nat} (h : j ≤ k) (F : MethFor G j cl m n sp) : MethFor G k cl m n sp := by
  obtain ⟨C, f, fd, ps, a, b, c, ok, d⟩ := F.ex
  exact ⟨C, f, fd, ps, a, b, c, ok.mono h, d⟩
structure InitAt (G : Glob) (cl : String) (st : Stmt) (ps : List Str) (C f : Addr) (fd : FuncData) : Prop where
  mg : G.mg (Str.ofString cl) = some (.ref C)
  mkC : Mk G.K C f
  fn : L2.Fun G.K (Str.ofString "__init__") (Str.ofString (cl ++ "." ++ "__init__")) st f fd
  bd : Binds G.K fd ps []
theorem InitAt.ok {N : List Str} (d : InitAt G cl st ps C f fd) (c : Sts) (S : FnScope N ps (defScope st)) (hm : isSs N (defScope st) c (defBody st) = true) (ok : okSs G k c)
    (hsp : ∀ ds M Q E, ds.length = ps.length → sp ds M Q E → dSs E c { nx := fun _ M' => Q .non M', rt := Q } (startD N.length ds) M) : MkFor G (k + 2) cl ps.length sp :=
  ⟨k + 1, C, f, fd, ps, Nat.le_refl _, d.mg, d.mkC, def_ok c d.fn S hm ok hsp, d.bd⟩
theorem MkFor.mono {j : Nat} (h : j ≤ k) (F : MkFor G j cl n sp) : MkFor G k cl n sp := by
  obtain ⟨i, C, f, fd, ps, a, b, c, ok, d⟩ := F.ex
  exact ⟨i, C, f, fd, ps, Nat.le_trans a h, b, c, ok, d⟩
theorem glob_str {x s : String} {t : Tok} (h : G.mg (Str.ofString x) = some (.str (Str.ofString s) t)) : GlobF G x (.str s) := ⟨.str (Str.ofString s), _, h, ⟨t, rfl⟩, fun F => .str s⟩
theorem glob_int {x : String} {i : Int} {t : Tok} (h : G.mg (Str.ofString x) = some (.int i t)) : GlobF G x (.int i) := ⟨.int i, _, h, ⟨t, rfl⟩, fun F => .int i⟩
end
end VS

/-! VS, part 22: texts made of tokens and white space. -/
namespace VS
open PySem PySem.Spec PyProof.Rows L2
theorem wsB_not {c : Char} {l : List Char} (h : wsB (c :: l) = true) : isLet c = false := by
  have h' : ((c == ' ' || c == '\n') && wsB l) = true := h
  have := (and_of h').1
  have : c = ' ' ∨ c = '\n' := by simpa using this
  rcases this with rfl | rfl <;> decide
/-- a word -/
def wordB (s : String) : Bool := !s.toList.isEmpty && s.toList.all isLet
/-- a token of a grammar with the signs S -/
def tokB (S : List Char) (s : String) : Bool := wordB s || S.any fun c => decide (s = String.singleton c)
/-- white space ahead of a token, and the token -/
abbrev Pt := List Char × String
def txt : List Pt → List Char
  | [] => [] | e :: r => e.1 ++ (e.2.toList ++ txt r)
/-- two words do not touch -/
def adjB : Bool → List Pt → Bool
  | _, [] => true
  | w, e :: r => wsB e.1 && (!(w && wordB e.2) || !e.1.isEmpty) && adjB (wordB e.2) r
def SOk (S : List Char) : Prop := ∀ c ∈ S, isLet c = false
theorem word_single {S : List Char} (hS : SOk S) {s : String} (h : (S.any fun c => decide (s = String.singleton c)) = true) : wordB s = false ∧ ∃ c ∈ S, s = String.singleton c := by
  obtain ⟨c, hc, he⟩ := List.any_eq_true.mp h
  have he := of_decide_eq_true he
  refine ⟨?_, c, hc, he⟩
  subst he
  unfold wordB
  have : (String.singleton c).toList = [c] := by simp
  rw [this]
  show (!false && (isLet c && true)) = false
  rw [hS c hc]; rfl
/-- tokens with their kinds -/
def TkS (l : List String) (ts : List Tk) : Prop := ts.map (·.v) = l ∧ ∀ t ∈ ts, t.w = wordB t.v
/-- where the tokens stand -/
def plc : Nat → List Pt → List Nat
  | _, [] => [] | p, e :: r => (p + e.1.length) :: plc (p + e.1.length + e.2.toList.length) r
theorem plc_app : ∀ (L R : List Pt) (p : Nat), plc p (L ++ R) = plc p L ++ plc (p + (txt L).length) R
  | [], R, p => by show plc p R = [] ++ plc (p + 0) R; rfl
  | e :: L, R, p => by
    show (p + e.1.length) :: plc _ (L ++ R) = ((p + e.1.length) :: plc _ L) ++ plc (p + (e.1 ++ (e.2.toList ++ txt L)).length) R
    rw [plc_app L R, List.length_append, List.length_append, show p + (e.1.length + (e.2.toList.length + (txt L).length)) = p + e.1.length + e.2.toList.length + (txt L).length by omega]; rfl
theorem lex_tk {S : List Char} (hS : SOk S) : ∀ (L : List Pt) (tail : List Char) (p : Nat) (w : Bool), adjB w L = true → (∀ e ∈ L, tokB S e.2 = true) → wsB tail = true → ∃ ts, Lex S (txt L ++ tail) p ts ∧ TkS (L.map (·.2)) ts ∧ (∀ c r', txt L ++ tail = c :: r' → w = true → isLet c = false) ∧ ts.map (·.at_) = plc p L
  | [], tail, p, w, _, _, ht => ⟨[], by show Lex _ tail p []; rw [← List.append_nil tail]; exact Lex.blank ht .nil, ⟨rfl, fun _ h => (by cases h)⟩, fun c r' e _ => by
      have e : tail = c :: r' := e
      rw [e] at ht; exact wsB_not ht, rfl⟩
  | e :: L, tail, p, w, ha, ho, ht => by
    obtain ⟨h1, h3⟩ := and_of (show (wsB e.1 && (!(w && wordB e.2) || !e.1.isEmpty) && adjB (wordB e.2) L) = true from ha)
    obtain ⟨h1, h2⟩ := and_of h1
    obtain ⟨ts, i1, i2, i3, i4⟩ := lex_tk hS L tail (p + e.1.length + e.2.toList.length) (wordB e.2) h3 (fun x hx => ho x (List.mem_cons_of_mem _ hx)) ht
    refine ⟨⟨wordB e.2, e.2, p + e.1.length⟩ :: ts, ?_, ⟨by rw [List.map_cons, List.map_cons, i2.1], fun t h => ?_⟩, ?_, by rw [List.map_cons, i4]; rfl⟩
    · show Lex S ((e.1 ++ (e.2.toList ++ txt L)) ++ tail) p _
      rw [List.append_assoc]
      refine Lex.blank h1 ?_
      rw [List.append_assoc]
      have hk := ho e List.mem_cons_self
      cases hw : wordB e.2 with
      | true =>
        have hw' := hw
        unfold wordB at hw'
        obtain ⟨w1, w2⟩ := and_of hw'
        have := Lex.word (S := S) (w := e.2.toList) (p := p + e.1.length) (r := txt L ++ tail) (ts := ts) (by intro z; rw [z] at w1; cases w1) (fun c hc => List.all_eq_true.mp w2 c hc) (fun c r' hc => i3 c r' hc hw) i1
        rw [String.ofList_toList] at this
        exact this
      | false =>
        unfold tokB at hk
        rw [hw, Bool.false_or] at hk
        obtain ⟨_, c, hc, he⟩ := word_single hS hk
        have el : e.2.toList = [c] := by rw [he]; simp
        rw [el] at i1 ⊢
        rw [he]
        exact Lex.sign hc (hS c hc) i1
    · rcases List.mem_cons.mp h with z | z
      · subst z; rfl
      · exact i2.2 t z
    · intro c r' hc hw
      have hc : (e.1 ++ (e.2.toList ++ txt L)) ++ tail = c :: r' := hc
      cases he : e.1 with
      | cons a l =>
        rw [he] at hc h1
        injection hc with hc _
        subst hc
        exact wsB_not h1
      | nil =>
        rw [he, hw] at h2
        have hw2 : wordB e.2 = false := by cases z : wordB e.2 with | false => rfl | true => rw [z] at h2; cases h2
        have hk := ho e List.mem_cons_self
        unfold tokB at hk
        rw [hw2, Bool.false_or] at hk
        obtain ⟨_, d, hd, hes⟩ := word_single hS hk
        have el : e.2.toList = [d] := by rw [hes]; simp
        rw [he, el] at hc
        injection hc with hc _
        subst hc
        exact hS _ hd
/-- a text whose tokens are l -/
structure TextOf (S : List Char) (l : List String) (t : String) : Prop where
  ex : ∃ L tail, L.map (·.2) = l ∧ adjB false L = true ∧ (∀ e ∈ L, tokB S e.2 = true) ∧ wsB tail = true ∧ t.toList = txt L ++ tail
theorem TextOf.lex {S : List Char} (hS : SOk S) {l : List String} {t : String} (h : TextOf S l t) : ∃ ts, Lex S t.toList 0 ts ∧ TkS l ts := by
  obtain ⟨L, tail, h1, h2, h3, h4, h5⟩ := h.ex
  obtain ⟨ts, i1, i2, _, _⟩ := lex_tk hS L tail 0 false h2 h3 h4
  exact ⟨ts, by rw [h5]; exact i1, by rw [← h1]; exact i2⟩
theorem adjB_weak {L : List Pt} : ∀ {w : Bool}, adjB w L = true → adjB false L = true := fun {w} h => by
  cases L with
  | nil => rfl
  | cons e r =>
    obtain ⟨h1, h3⟩ := and_of (show (wsB e.1 && (!(w && wordB e.2) || !e.1.isEmpty) && adjB (wordB e.2) r) = true from h)
    obtain ⟨h1, h2⟩ := and_of h1
    show (wsB e.1 && (!(false && wordB e.2) || !e.1.isEmpty) && adjB (wordB e.2) r) = true
    rw [h1, h3]; rfl
def lastW : Bool → List Pt → Bool
  | w, [] => w | _, e :: r => lastW (wordB e.2) r
theorem adjB_app : ∀ (L R : List Pt) (w : Bool), adjB w (L ++ R) = (adjB w L && adjB (lastW w L) R)
  | [], R, w => by show adjB w R = (true && adjB w R); rw [Bool.true_and]
  | e :: L, R, w => by
    show (wsB e.1 && (!(w && wordB e.2) || !e.1.isEmpty) && adjB (wordB e.2) (L ++ R)) = ((wsB e.1 && (!(w && wordB e.2) || !e.1.isEmpty) && adjB (wordB e.2) L) && adjB (lastW (wordB e.2) L) R)
    rw [adjB_app L R]
    cases wsB e.1 <;> cases (!(w && wordB e.2) || !e.1.isEmpty) <;> rfl
theorem txt_app : ∀ (L R : List Pt), txt (L ++ R) = txt L ++ txt R
  | [], R => rfl
  | e :: L, R => by
    show e.1 ++ (e.2.toList ++ txt (L ++ R)) = (e.1 ++ (e.2.toList ++ txt L)) ++ txt R
    rw [txt_app L R]; simp [List.append_assoc]
/-- the first token behind one space -/
def spc : List Pt → List Pt
  | [] => [] | e :: r => (' ' :: e.1, e.2) :: r
theorem spc_txt {L : List Pt} (h : L ≠ []) : txt (spc L) = ' ' :: txt L := by
  cases L with
  | nil => exact absurd rfl h
  | cons e r => rfl
theorem spc_adj {L : List Pt} {w : Bool} (h : adjB false L = true) : adjB w (spc L) = true := by
  cases L with
  | nil => rfl
  | cons e r =>
    obtain ⟨h1, h3⟩ := and_of (show (wsB e.1 && (!(false && wordB e.2) || !e.1.isEmpty) && adjB (wordB e.2) r) = true from h)
    obtain ⟨h1, h2⟩ := and_of h1
    show (wsB (' ' :: e.1) && (!(w && wordB e.2) || true) && adjB (wordB e.2) r) = true
    rw [h3, Bool.or_true, Bool.and_true, Bool.and_true]
    exact h1
theorem spc_snd {L : List Pt} : (spc L).map (·.2) = L.map (·.2) := by cases L <;> rfl
/-- texts grown token by token, white space behind each; the places of the tokens -/
structure Grown (S : List Char) (l : List String) (t : String) (pl : List Nat) : Prop where
  ex : ∃ L tail, L.map (·.2) = l ∧ adjB false L = true ∧ (∀ e ∈ L, tokB S e.2 = true) ∧ wsB tail = true ∧ (L ≠ [] → tail ≠ []) ∧ t.toList = txt L ++ tail ∧ pl = plc 0 L
theorem Grown.text {S : List Char} {l : List String} {t : String} {pl : List Nat} (h : Grown S l t pl) : TextOf S l t := by
  obtain ⟨L, tail, h1, h2, h3, h4, _, h5, _⟩ := h.ex
  exact ⟨L, tail, h1, h2, h3, h4, h5⟩
theorem Grown.lex {S : List Char} (hS : SOk S) {l : List String} {t : String} {pl : List Nat} (h : Grown S l t pl) : ∃ ts, Lex S t.toList 0 ts ∧ TkS l ts ∧ ts.map (·.at_) = pl := by
  obtain ⟨L, tail, h1, h2, h3, h4, _, h5, h6⟩ := h.ex
  obtain ⟨ts, i1, i2, _, i4⟩ := lex_tk hS L tail 0 false h2 h3 h4
  exact ⟨ts, by rw [h5]; exact i1, by rw [← h1]; exact i2, by rw [i4, h6]⟩
theorem Grown.start {S : List Char} {t : String} (h : wsB t.toList = true) : Grown S [] t [] := ⟨[], t.toList, rfl, rfl, fun _ h => (by cases h), h, fun h => absurd rfl h, rfl, rfl⟩
theorem Grown.snoc {S : List Char} {l : List String} {t s w : String} {pl : List Nat} (h : Grown S l t pl) (hs : tokB S s = true) (hw : wsB w.toList = true) (hn : w.toList ≠ []) : Grown S (l ++ [s]) (t ++ s ++ w) (pl ++ [t.length]) := by
  obtain ⟨L, tail, h1, h2, h3, h4, h5, h6, h7⟩ := h.ex
  refine ⟨L ++ [(tail, s)], w.toList, by rw [List.map_append, h1]; rfl, ?_, fun e he => ?_, hw, fun _ => hn, ?_, ?_⟩
  · rw [adjB_app, h2, Bool.true_and]
    show (wsB tail && (!(lastW false L && wordB s) || !tail.isEmpty) && true) = true
    rw [h4, Bool.true_and, Bool.and_true]
    cases L with
    | nil => rfl
    | cons e r =>
      have := h5 (by simp)
      cases tail with
      | nil => exact absurd rfl this
      | cons _ _ => simp
  · rcases List.mem_append.mp he with z | z
    · exact h3 e z
    · rw [List.mem_singleton] at z; subst z; exact hs
  · rw [String.toList_append, String.toList_append, h6, txt_app]
    show txt L ++ tail ++ s.toList ++ w.toList = txt L ++ (tail ++ (s.toList ++ [])) ++ w.toList
    simp [List.append_assoc]
  · rw [plc_app, h7]
    show _ = plc 0 L ++ [0 + (txt L).length + tail.length]
    rw [← String.length_toList, h6, List.length_append, Nat.zero_add]
/-- the tokens that laws write are short -/
def tok8 (S : List Char) (s : String) : Bool := tokB S s && decide (s.length ≤ 12)
def sts (l : List String) : List D := l.map D.str
def intsD (l : List Nat) : List D := l.map fun (n : Nat) => D.int (n : Int)
theorem intsD_len (a : List Nat) : (intsD a).length = a.length := List.length_map _
theorem sts_app (a b : List String) : sts (a ++ b) = sts a ++ sts b := List.map_append
theorem sts_len (a : List String) : (sts a).length = a.length := List.length_map _
theorem sts_cons (a : String) (b : List String) : sts (a :: b) = .str a :: sts b := rfl
theorem map_at {α : Type} {l : List α} {f : α → D} {j : Nat} {x : D} (h : (l.map f)[j]? = some x) : ∃ a, l[j]? = some a ∧ x = f a := by
  rw [List.getElem?_map] at h
  cases e : l[j]? with
  | none => rw [e] at h; cases h
  | some a => rw [e] at h; cases h; exact ⟨a, rfl, rfl⟩
theorem st_at {l : List String} {j : Nat} {s : String} {M : Store} {Q : DK} (h : l[j]? = some s) : wIx (.lst (sts l)) (.int (j : Int)) M Q = Q (.str s) M := w_ixL (atI_natD (by unfold sts; rw [List.getElem?_map, h]; rfl))
end VS

/-! VS, part 23: conditions, plainly. -/
namespace VS
open PySem PySem.Spec PyProof.Rows L2
def hdC : Cond → String
  | .all => "all" | .none => "none" | .is _ => "is" | .not _ => "not" | .bin b _ _ => binN b | .look l _ => l.nm
theorem ixC0 {c : Cond} {M : Store} {Q : DK} : wIx (encC c) (.int 0) M Q = Q (.str (hdC c)) M := by
  cases c <;> exact w_ixT at_0
theorem it_P {M : Store} {xs : List D} {p : Addr} {Q : List D → (Store → Prop) → Prop} (h : M p = some (.lst xs)) : itD (.ptr p) M Q = Q xs (fun M' : Store => M' p = some (MO.lst xs)) := by
  show (match M p with | some (.lst xs) => Q xs (fun M' : Store => M' p = some (MO.lst xs)) | _ => False) = _; rw [h]
/-- a comprehension whose turns change nothing, with no test -/
theorem lcGo_pure {g : Store → Prop} {f : D → Store → (Option D → Store → Prop) → Prop} {xs : List D} {M : Store} {Q : DK} (φ : D → D) (hg : g M) (hf : ∀ x ∈ xs, ∀ k : Option D → Store → Prop, k (some (φ x)) M → f x M k) (hq : Q (.lst (xs.map φ)) M) : lcGo g f xs [] M Q := by
  refine lcGo_map (fun M' => M' = M) (fun x => some (φ x)) (fun M' e => by subst e; exact hg) xs [] M Q (fun x hx M' k e hk => ?_) rfl fun M' e => ?_
  · subst e; exact hf x hx k (hk _ rfl)
  · subst e
    rw [List.nil_append, filterMap_some]
    exact .inl hq
def innerC : Cond → List Cond
  | .not c => [c] | .bin _ c d => [c, d] | .look _ c => [c] | _ => []
def partsC : Cond → Int
  | .not c => 1 + [partsC c].sum | .bin _ c d => 1 + [partsC c, partsC d].sum | .look _ c => 1 + [partsC c].sum | _ => 1
def looksC : Cond → Int
  | .not c => [looksC c].sum + 0 | .bin _ c d => [looksC c, looksC d].sum + 0 | .look _ c => [looksC c].sum + 1 | _ => 0
theorem ixN1 {c : Cond} {M : Store} {Q : DK} : wIx (encC (.not c)) (.int 1) M Q = Q (encC c) M := w_ixT at_1
theorem ixB1 {b : Bool} {c d : Cond} {M : Store} {Q : DK} : wIx (encC (.bin b c d)) (.int 1) M Q = Q (.tup [encC c, encC d]) M := w_ixT at_1
theorem ixL1 {l : Look} {c : Cond} {M : Store} {Q : DK} : wIx (encC (.look l c)) (.int 1) M Q = Q (encC c) M := w_ixT at_1
theorem ixI1 {s : String} {M : Store} {Q : DK} : wIx (encC (.is s)) (.int 1) M Q = Q (.str s) M := w_ixT at_1
theorem nm3 (l : Look) : decide (l.nm ∈ ["all", "none", "is"]) = false := by cases l <;> decide
theorem nm2 (l : Look) : decide (l.nm ∈ ["and", "or"]) = false := by cases l <;> decide
theorem nm2b (l : Look) : decide (l.nm ∈ ["and", "or", "not"]) = false := by cases l <;> decide
theorem nm2c (l : Look) : decide (l.nm ∈ ["all", "none"]) = false := by cases l <;> decide
theorem nmIs (l : Look) : decide (l.nm = "is") = false := by cases l <;> decide
theorem nmNot (l : Look) : decide (l.nm = "not") = false := by cases l <;> decide
theorem nmAnd (l : Look) : decide (l.nm = "and") = false := by cases l <;> decide
theorem nmOr (l : Look) : decide (l.nm = "or") = false := by cases l <;> decide
theorem bn3 (b : Bool) : decide (binN b ∈ ["all", "none", "is"]) = false := by cases b <;> decide
theorem bn2 (b : Bool) : decide (binN b ∈ ["and", "or"]) = true := by cases b <;> decide
theorem bn2b (b : Bool) : decide (binN b ∈ ["and", "or", "not"]) = true := by cases b <;> decide
theorem bn2c (b : Bool) : decide (binN b ∈ ["all", "none"]) = false := by cases b <;> decide
theorem bnIs (b : Bool) : decide (binN b = "is") = false := by cases b <;> decide
theorem bnNot (b : Bool) : decide (binN b = "not") = false := by cases b <;> decide
theorem lits : decide ("all" ∈ ["all", "none", "is"]) = true ∧ decide ("none" ∈ ["all", "none", "is"]) = true ∧ decide ("is" ∈ ["all", "none", "is"]) = true ∧ decide ("not" ∈ ["all", "none", "is"]) = false ∧ decide ("not" ∈ ["and", "or"]) = false ∧ decide ("not" ∈ ["and", "or", "not"]) = true := by decide
/-- as laws draw them: names, no and of an and, no or of an or -/
def wfC : Cond → Bool
  | .is s => decide (s ∈ ["a", "b", "ab", "is"]) | .not c => wfC c | .look _ c => wfC c
  | .bin b c d => wfC c && wfC d && !decide (hdC c = binN b) && !decide (hdC d = binN b) | _ => true
theorem w_nin {M : Store} {Q : DK} {s : String} (ss : List String) : wCmp .nin (.str s) (.tup (ss.map D.str)) M Q = Q (.bl (!decide (s ∈ ss))) M := in_strs (M := M) (P := fun b => Q (.bl (!b)) M) ss
theorem w_in1 {M : Store} {Q : DK} {s t : String} : wCmp .in_ (.str s) (.tup [.str t]) M Q = Q (.bl (decide (s ∈ [t]))) M := w_in [t]
theorem htC_pos : ∀ c : Cond, 1 ≤ htC c
  | .all => Nat.le_refl 1
  | .none => Nat.le_refl 1
  | .is _ => Nat.le_refl 1
  | .not c => Nat.succ_le_succ (Nat.zero_le _)
  | .bin _ c d => Nat.succ_le_succ (Nat.zero_le _)
  | .look _ c => Nat.succ_le_succ (Nat.zero_le _)
theorem w_ext {M : Store} {p : Addr} {xs ys : List D} {Q : DK} (h : M p = some (.lst xs)) : wMt .extend (.ptr p) [.lst ys] M Q = (xs.length + ys.length ≤ line ∧ Q .non (M.put p (.lst (xs ++ ys)))) := by
  show (match M p with
    | some (.lst xs) => (match asL M (.lst ys) with | some ys => xs.length + ys.length ≤ line ∧ Q .non (M.put p (.lst (xs ++ ys))) | none => False)
    | _ => False) = _
  rw [h]; rfl
end VS

/-! VS, part 24: constants that are tuples of texts. -/
namespace VS
open PySem PySem.Spec PyProof.Rows L2
theorem rpl_strs {G : Glob} {F : Hp} : ∀ ss : List String, RpL G F (ss.map fun s => V.str (Str.ofString s)) (ss.map D.str)
  | [] => .nil
  | s :: ss => .cons (.str s) (rpl_strs ss)
inductive ValS : List String → List Value → Prop
  | nil : ValS [] []
  | cons {s : String} {t : Tok} {ss : List String} {vs : List Value} : ValS ss vs → ValS (s :: ss) (.str (Str.ofString s) t :: vs)
theorem ValS.vals : ∀ {ss : List String} {vs : List Value}, ValS ss vs → Vals (ss.map fun s => V.str (Str.ofString s)) vs
  | _, _, .nil => .nil
  | _, _, .cons h => .cons ⟨_, rfl⟩ h.vals
theorem glob_tup {G : Glob} {x : String} {ss : List String} {A : Addr} {od : Option Addr} {its : Array Value} {n : Nat} {sl : Array (Option Value)} (h : G.mg (Str.ofString x) = some (.ref A)) (hl : G.K.lookup A = some ⟨.type "tuple", od, .seq its n, sl⟩) (hz : its.size ≤ sizeLine) (hv : ValS ss its.toList) : GlobF G x (.tup (ss.map D.str)) :=
  ⟨.ref A, .ref A, h, rfl, fun F => .tup (.inr ⟨_, its, n, hl, rfl, rfl, hz, hv.vals⟩) (rpl_strs ss)⟩
theorem glob_tab {G : Glob} {x : String} {l : List (String × String)} {A : Addr} {es : Array DictEntry} {n : Nat} (h : G.mg (Str.ofString x) = some (.ref A)) (hl : G.K.lookup A = some ⟨.type "dict", none, .dict es n, #[]⟩) (hk : PySem.W.KeysLit G.w.params es.toList) (hs : (A == sysModules) = false) (he : TabE l es.toList) : GlobF G x (.tab l) :=
  ⟨.ref A, .ref A, h, rfl, fun F => .tab ⟨es, n, ⟨hl, hk, hs⟩, he⟩⟩
theorem w_inTab {M : Store} {Q : DK} {s : String} {l : List (String × String)} : wCmp .in_ (.str s) (.tab l) M Q = Q (.bl (lookT s l).isSome) M := rfl
theorem w_ixTab {M : Store} {Q : DK} {s t : String} {l : List (String × String)} (h : lookT s l = some t) : wIx (.tab l) (.str s) M Q = Q (.str t) M := by
  show (match lookT s l with | some t => Q (.str t) M | none => False) = _
  rw [h]
end VS

/-! VS, part 25: contents and schemas, plainly. -/
namespace VS
open PySem PySem.Spec PyProof.Rows L2
inductive Sg | many | som | may
def Sg.nm : Sg → String
  | .many => "many" | .som => "some" | .may => "maybe"
def Sg.sg : Sg → String
  | .many => "*" | .som => "+" | .may => "?"
inductive Ct | empty | ty (s : String) | suf (k : Sg) (c : Ct) | bin (b : Bool) (c d : Ct)
def kbN (b : Bool) : String := if b = true then "row" else "choice"
def encT : Ct → D
  | .empty => .tup [.str "empty"] | .ty s => .tup [.str "type", .str s] | .suf k c => .tup [.str k.nm, encT c] | .bin b c d => .tup [.str (kbN b), .tup [encT c, encT d]]
def hdT : Ct → String
  | .empty => "empty" | .ty _ => "type" | .suf k _ => k.nm | .bin b _ _ => kbN b
def htT : Ct → Nat
  | .empty => 1 | .ty _ => 1 | .suf _ c => htT c + 1 | .bin _ c d => max (htT c) (htT d) + 1
def tysT : Ct → List String
  | .empty => [] | .ty s => [s] | .suf _ c => tysT c | .bin _ c d => tysT c ++ tysT d
def szT : Ct → Nat
  | .empty => 1 | .ty _ => 1 | .suf _ c => szT c + 1 | .bin _ c d => szT c + szT d + 1
def wfT : Ct → Bool
  | .empty => true | .ty s => decide (s ∈ ["t", "u", "vv"]) | .suf _ c => wfT c
  | .bin b c d => wfT c && wfT d && !decide (hdT c = kbN b) && !decide (hdT d = kbN b)
theorem htT_pos (c : Ct) : 1 ≤ htT c := by cases c <;> simp [htT]
theorem szT_pos (c : Ct) : 1 ≤ szT c := by cases c <;> simp [szT]
theorem tys_sz : ∀ c : Ct, (tysT c).length ≤ szT c
  | .empty => Nat.zero_le _
  | .ty _ => Nat.le_refl _
  | .suf _ c => by have := tys_sz c; show (tysT c).length ≤ szT c + 1; omega
  | .bin _ c d => by have := tys_sz c; have := tys_sz d; show (tysT c ++ tysT d).length ≤ szT c + szT d + 1; rw [List.length_append]; omega
section
variable {M : Store} {Q : DK} {s : String} {k : Sg} {b : Bool} {c d : Ct}
theorem ixT0 : wIx (encT c) (.int 0) M Q = Q (.str (hdT c)) M := by cases c <;> exact w_ixT at_0
theorem ixT1 : wIx (encT (.ty s)) (.int 1) M Q = Q (.str s) M := w_ixT at_1
theorem ixS1 : wIx (encT (.suf k c)) (.int 1) M Q = Q (encT c) M := w_ixT at_1
theorem ixB1' : wIx (encT (.bin b c d)) (.int 1) M Q = Q (.tup [encT c, encT d]) M := w_ixT at_1
end
theorem wfT_bin {b : Bool} {c d : Ct} (h : wfT (.bin b c d) = true) : wfT c = true ∧ wfT d = true ∧ hdT c ≠ kbN b ∧ hdT d ≠ kbN b := by
  obtain ⟨w1, w4⟩ := and_of (show (wfT c && wfT d && !decide (hdT c = kbN b) && !decide (hdT d = kbN b)) = true from h)
  obtain ⟨w1, w3⟩ := and_of w1
  obtain ⟨w1, w2⟩ := and_of w1
  have n3 : hdT c ≠ kbN b := by intro z; rw [decide_eq_true z] at w3; cases w3
  have n4 : hdT d ≠ kbN b := by intro z; rw [decide_eq_true z] at w4; cases w4
  exact ⟨w1, w2, n3, n4⟩
structure Rl where
  k : String
  nm : String
  c : Ct
def encRl (r : Rl) : D := .tup [.str r.k, .str r.nm, encT r.c]
/-- a schema as laws draw it -/
structure RlOk (R : List Rl) : Prop where
  len : R.length ≤ 3
  pos : 0 < R.length
  nod : (R.map (·.k)).Nodup
  ks : ∀ r ∈ R, r.k ∈ ["t", "u", "vv"] ∧ r.nm ∈ ["a", "b", "ab"]
  cs : ∀ r ∈ R, htT r.c ≤ 5 ∧ szT r.c ≤ 13 ∧ (tysT r.c).length ≤ 4 ∧ wfT r.c = true ∧ ∀ s ∈ tysT r.c, s ∈ R.map (·.k)
end VS

/-! VS, part 26: the tokens at a reader's place. -/
namespace VS
open PySem PySem.Spec PyProof.Rows L2
/-- all that stands but p stays -/
def Adv (p : Addr) (M M' : Store) : Prop := ∀ a, a ≠ p → M a ≠ none → M' a = M a
theorem Adv.refl (p : Addr) (M : Store) : Adv p M M := fun _ _ _ => rfl
theorem Adv.trans {p : Addr} {M M1 M2 : Store} (a : Adv p M M1) (b : Adv p M1 M2) : Adv p M M2 := fun x hx h => by rw [b x hx (by rw [a x hx h]; exact h), a x hx h]
theorem Adv.put {p : Addr} {M M1 : Store} {o : MO} (a : Adv p M M1) : Adv p M (M1.put p o) := fun x hx h => by rw [put_ne hx]; exact a x hx h
theorem Adv.new {p q : Addr} {M M1 : Store} {o : MO} (a : Adv p M M1) (h : M q = none) : Adv p M (M1.put q o) := fun x hx hm => by
  rw [put_ne fun z => hm (by rw [z]; exact h)]; exact a x hx hm
theorem Adv.dr {p : Addr} {M M1 M2 : Store} (a : Adv p M M1) (d : Dr M1 M2) : Adv p M M2 := fun x hx hm => by rw [d x (by rw [a x hx hm]; exact hm)]; exact a x hx hm
theorem Adv.non {p q : Addr} {M M1 : Store} (a : Adv p M M1) (hq : q ≠ p) (h : M1 q = none) : M q = none := by
  cases e : M q with
  | none => rfl
  | some o =>
    have := a q hq (by rw [e]; exact fun z => by cases z)
    rw [h, e] at this; cases this
/-- the tokens at a place -/
structure At (all : List Tk) (k : Nat) (l r : List String) : Prop where
  e : (all.map (·.v)).drop k = l ++ r
  w : ∀ t ∈ all, t.w = wordB t.v
theorem At.app {all : List Tk} {k : Nat} {l m r : List String} (h : At all k (l ++ m) r) : At all k l (m ++ r) := ⟨by rw [h.e, List.append_assoc], h.w⟩
theorem At.next {all : List Tk} {k : Nat} {l r : List String} (h : At all k l r) : At all (k + l.length) [] r := ⟨by rw [← List.drop_drop, h.e, List.drop_left]; rfl, h.w⟩
theorem At.shift {all : List Tk} {k : Nat} {l r m s : List String} (h : At all k l r) (e : r = m ++ s) : At all (k + l.length) m s := ⟨by rw [h.next.e, List.nil_append, e], h.w⟩
theorem At.head {all : List Tk} {k : Nat} {s : String} {l r : List String} (h : At all k (s :: l) r) : ∃ a, all[k]? = some ⟨wordB s, s, a⟩ := by
  have h0 : (all.map (·.v))[k]? = some s := by
    have := congrArg (fun l => l[0]?) h.e
    simpa [List.getElem?_drop] using this
  rw [List.getElem?_map] at h0
  cases e : all[k]? with
  | none => rw [e] at h0; cases h0
  | some t =>
    rw [e] at h0
    have hv : t.v = s := by simpa using h0
    have hw := h.w t (List.mem_of_getElem? e)
    obtain ⟨w, v, a⟩ := t
    have hv : v = s := hv
    have hw : w = wordB v := hw
    subst hv; subst hw
    exact ⟨a, rfl⟩
theorem At.tail {all : List Tk} {k : Nat} {s : String} {l r : List String} (h : At all k (s :: l) r) : At all (k + 1) l r := by
  have e : (all.map (·.v)).drop (k + 1) = [] ++ (l ++ r) := (At.app (l := [s]) (m := l) (r := r) h).next.e
  exact ⟨e, h.w⟩
theorem At.end_ {all : List Tk} {k : Nat} (h : At all k [] []) : all[k]? = Option.none := by
  have h0 : (all.map (·.v))[k]? = Option.none := by
    have := congrArg (fun l => l[0]?) h.e
    simpa [List.getElem?_drop] using this
  rw [List.getElem?_map] at h0
  cases e : all[k]? with
  | none => rfl
  | some t => rw [e] at h0; cases h0
/-- the next token is not this word -/
def NotW (s : String) (r : List String) : Prop := ∀ x r', r = x :: r' → x ≠ s
/-- all that stands but p and q stays -/
def Ad2 (p q : Addr) (M M' : Store) : Prop := ∀ a, a ≠ p → a ≠ q → M a ≠ none → M' a = M a
section
variable {p q : Addr} {M M1 M2 : Store}
theorem Ad2.refl (p q : Addr) (M : Store) : Ad2 p q M M := fun _ _ _ _ => rfl
theorem Ad2.trans (a : Ad2 p q M M1) (b : Ad2 p q M1 M2) : Ad2 p q M M2 := fun x hx hy h => by rw [b x hx hy (by rw [a x hx hy h]; exact h), a x hx hy h]
theorem Ad2.putp {o : MO} (a : Ad2 p q M M1) : Ad2 p q M (M1.put p o) := fun x hx hy h => by rw [put_ne hx]; exact a x hx hy h
theorem Ad2.putq {o : MO} (a : Ad2 p q M M1) : Ad2 p q M (M1.put q o) := fun x hx hy h => by rw [put_ne hy]; exact a x hx hy h
theorem Ad2.new {z : Addr} {o : MO} (a : Ad2 p q M M1) (h : M z = none) : Ad2 p q M (M1.put z o) := fun x hx hy hm => by
  rw [put_ne fun e => hm (by rw [e]; exact h)]; exact a x hx hy hm
theorem Ad2.dr (a : Ad2 p q M M1) (d : Dr M1 M2) : Ad2 p q M M2 := fun x hx hy hm => by rw [d x (by rw [a x hx hy hm]; exact hm)]; exact a x hx hy hm
theorem Ad2.non {z : Addr} (a : Ad2 p q M M1) (hp : z ≠ p) (hq : z ≠ q) (h : M1 z = none) : M z = none := by
  cases e : M z with
  | none => rfl
  | some o =>
    have := a z hp hq (by rw [e]; exact fun z => by cases z)
    rw [h, e] at this; cases this
end
end VS

/-! VS, part 27: constants that are tuples of tuples of texts. -/
namespace VS
open PySem PySem.Spec PyProof.Rows L2
inductive TupR (K : PySem.W.Frag) : List (List String) → List Value → Prop
  | nil : TupR K [] []
  | cons {A : Addr} {od : Option Addr} {its : Array Value} {n : Nat} {sl : Array (Option Value)} {ss : List String} {sss : List (List String)} {vs : List Value} : K.lookup A = some ⟨.type "tuple", od, .seq its n, sl⟩ → its.size ≤ sizeLine → ValS ss its.toList → TupR K sss vs → TupR K (ss :: sss) (.ref A :: vs)
theorem TupR.ex {G : Glob} : ∀ {sss : List (List String)} {vs : List Value}, TupR G.K sss vs → ∃ xs : List V, Vals xs vs ∧ ∀ F, RpL G F xs (sss.map fun ss => .tup (ss.map D.str))
  | _, _, .nil => ⟨[], .nil, fun _ => .nil⟩
  | _, _, .cons (A := A) (its := its) (n := n) (ss := ss) hl hz hv h => by
    obtain ⟨xs, h1, h2⟩ := h.ex
    exact ⟨.ref A :: xs, .cons rfl h1, fun F => .cons (.tup (.inr ⟨_, its, n, hl, rfl, rfl, hz, hv.vals⟩) (rpl_strs ss)) (h2 F)⟩
theorem glob_tt {G : Glob} {x : String} {sss : List (List String)} {A : Addr} {od : Option Addr} {its : Array Value} {n : Nat} {sl : Array (Option Value)} (h : G.mg (Str.ofString x) = some (.ref A)) (hl : G.K.lookup A = some ⟨.type "tuple", od, .seq its n, sl⟩) (hz : its.size ≤ sizeLine) (hv : TupR G.K sss its.toList) : GlobF G x (.tup (sss.map fun ss => .tup (ss.map D.str))) := by
  obtain ⟨xs, h1, h2⟩ := hv.ex
  exact ⟨.ref A, .ref A, h, rfl, fun F => .tup (.inr ⟨_, its, n, hl, rfl, rfl, hz, h1⟩) (h2 F)⟩
end VS

/-! VS, part 28: words of contents over the types of children, plainly. -/
namespace VS
open PySem PySem.Spec PyProof.Rows L2
def nulT : Ct → Bool
  | .empty => true | .ty _ => false | .suf .som c => nulT c | .suf .many _ => true | .suf .may _ => true
  | .bin true c d => nulT c && nulT d | .bin false c d => nulT c || nulT d
/-- what is left behind a first child of the type n -/
def aftT (n : String) : Ct → List Ct
  | .empty => [] | .ty s => if s = n then [.empty] else []
  | .suf .may c => aftT n c | .suf .many c => (aftT n c).map fun r => .bin true r (.suf .many c) | .suf .som c => (aftT n c).map fun r => .bin true r (.suf .many c)
  | .bin true c d => ((aftT n c).map fun r => .bin true r d) ++ (if nulT c = true then aftT n d else [])
  | .bin false c d => aftT n c ++ aftT n d
/-- a word of a content stands from s to e, S the types of each child -/
inductive En (S : List (List String)) : Ct → Nat → Nat → Prop
  | empty {s : Nat} : En S .empty s s
  | ty {s : Nat} {l : List String} {t : String} : S[s]? = some l → t ∈ l → En S (.ty t) s (s + 1)
  | row {c d : Ct} {s m e : Nat} : En S c s m → En S d m e → En S (.bin true c d) s e
  | chl {c d : Ct} {s e : Nat} : En S c s e → En S (.bin false c d) s e
  | chr {c d : Ct} {s e : Nat} : En S d s e → En S (.bin false c d) s e
  | may0 {c : Ct} {s : Nat} : En S (.suf .may c) s s
  | may {c : Ct} {s e : Nat} : En S c s e → En S (.suf .may c) s e
  | many0 {c : Ct} {s : Nat} : En S (.suf .many c) s s
  | many {c : Ct} {s m e : Nat} : En S c s m → En S (.suf .many c) m e → En S (.suf .many c) s e
  | som {c : Ct} {s m e : Nat} : En S c s m → En S (.suf .many c) m e → En S (.suf .som c) s e
theorem En.le {S : List (List String)} {c : Ct} {s e : Nat} (h : En S c s e) : s ≤ e := by
  induction h <;> omega
theorem En.len {S : List (List String)} {c : Ct} {s e : Nat} (h : En S c s e) : s ≤ S.length → e ≤ S.length := by
  induction h with
  | empty => exact id
  | ty h _ => exact fun _ => (List.getElem?_eq_some_iff.mp h).1
  | row _ _ i j => exact fun z => j (i z)
  | chl _ i => exact i
  | chr _ i => exact i
  | may0 => exact id
  | may _ i => exact i
  | many0 => exact id
  | many _ _ i j => exact fun z => j (i z)
  | som _ _ i j => exact fun z => j (i z)
theorem nul_en (S : List (List String)) : ∀ (c : Ct) (s : Nat), nulT c = true → En S c s s
  | .empty, s, _ => .empty
  | .ty _, _, h => by cases h
  | .suf .many c, s, _ => .many0
  | .suf .may c, s, _ => .may0
  | .suf .som c, s, h => .som (nul_en S c s h) .many0
  | .bin true c d, s, h => by
    obtain ⟨a, b⟩ := and_of (show (nulT c && nulT d) = true from h)
    exact .row (nul_en S c s a) (nul_en S d s b)
  | .bin false c d, s, h => by
    have h : (nulT c || nulT d) = true := h
    cases hc : nulT c with
    | true => exact .chl (nul_en S c s hc)
    | false => rw [hc] at h; exact .chr (nul_en S d s h)
theorem en_nul {S : List (List String)} {c : Ct} {s e : Nat} (h : En S c s e) : s = e → nulT c = true := by
  induction h with
  | empty => exact fun _ => rfl
  | ty _ _ => exact fun z => by omega
  | row a b i j =>
    intro z
    have := a.le
    have := b.le
    show (nulT _ && nulT _) = true
    rw [i (by omega), j (by omega)]; rfl
  | chl _ i => intro z; show (nulT _ || nulT _) = true; rw [i z]; rfl
  | chr _ i => intro z; show (nulT _ || nulT _) = true; rw [i z, Bool.or_true]
  | may0 => exact fun _ => rfl
  | may _ _ => exact fun _ => rfl
  | many0 => exact fun _ => rfl
  | many _ _ _ _ => exact fun _ => rfl
  | som a b i _ =>
    intro z
    have := a.le
    have := b.le
    exact i (by omega)
/-- a first child is taken -/
def Fst (S : List (List String)) (c : Ct) (s e : Nat) : Prop := ∃ l t r, S[s]? = some l ∧ t ∈ l ∧ r ∈ aftT t c ∧ En S r (s + 1) e
theorem en_fst {S : List (List String)} {c : Ct} {s e : Nat} (h : En S c s e) : s < e → Fst S c s e := by
  induction h with
  | empty => exact fun z => by omega
  | @ty s l t h1 h2 => exact fun _ => ⟨l, t, .empty, h1, h2, by show _ ∈ (if t = t then [Ct.empty] else []); rw [if_pos rfl]; exact List.mem_singleton_self _, .empty⟩
  | @row c d s m e a b i j =>
    intro z
    have := a.le
    by_cases hm : s < m
    · obtain ⟨l, t, r, h1, h2, h3, h4⟩ := i hm
      exact ⟨l, t, .bin true r d, h1, h2, List.mem_append_left _ (List.mem_map.mpr ⟨r, h3, rfl⟩), .row h4 b⟩
    · have hm : s = m := by omega
      subst hm
      obtain ⟨l, t, r, h1, h2, h3, h4⟩ := j z
      refine ⟨l, t, r, h1, h2, List.mem_append_right _ ?_, h4⟩
      rw [if_pos (en_nul a rfl)]; exact h3
  | chl _ i => intro z; obtain ⟨l, t, r, h1, h2, h3, h4⟩ := i z; exact ⟨l, t, r, h1, h2, List.mem_append_left _ h3, h4⟩
  | chr _ i => intro z; obtain ⟨l, t, r, h1, h2, h3, h4⟩ := i z; exact ⟨l, t, r, h1, h2, List.mem_append_right _ h3, h4⟩
  | may0 => exact fun z => by omega
  | may _ i => exact i
  | many0 => exact fun z => by omega
  | @many c s m e a b i j =>
    intro z
    have := a.le
    by_cases hm : s < m
    · obtain ⟨l, t, r, h1, h2, h3, h4⟩ := i hm
      exact ⟨l, t, .bin true r (.suf .many c), h1, h2, List.mem_map.mpr ⟨r, h3, rfl⟩, .row h4 b⟩
    · have hm : s = m := by omega
      subst hm
      exact j z
  | @som c s m e a b i j =>
    intro z
    have := a.le
    by_cases hm : s < m
    · obtain ⟨l, t, r, h1, h2, h3, h4⟩ := i hm
      exact ⟨l, t, .bin true r (.suf .many c), h1, h2, List.mem_map.mpr ⟨r, h3, rfl⟩, .row h4 b⟩
    · have hm : s = m := by omega
      subst hm
      obtain ⟨l, t, r, h1, h2, h3, h4⟩ := j z
      exact ⟨l, t, r, h1, h2, h3, h4⟩
theorem fst_en {S : List (List String)} {s : Nat} {l : List String} {t : String} (h1 : S[s]? = some l) (h2 : t ∈ l) : ∀ (c : Ct) (r : Ct) (e : Nat), r ∈ aftT t c → En S r (s + 1) e → En S c s e
  | .empty, _, _, h, _ => by cases h
  | .ty u, r, e, h, g => by
    have h : r ∈ (if u = t then [Ct.empty] else []) := h
    by_cases z : u = t
    · rw [if_pos z, List.mem_singleton] at h
      subst h; subst z
      cases g
      exact .ty h1 h2
    · rw [if_neg z] at h; cases h
  | .suf .may c, r, e, h, g => .may (fst_en h1 h2 c r e h g)
  | .suf .many c, r, e, h, g => by
    obtain ⟨r', h', rfl⟩ := List.mem_map.mp (show r ∈ (aftT t c).map _ from h)
    cases g with
    | row a b => exact .many (fst_en h1 h2 c r' _ h' a) b
  | .suf .som c, r, e, h, g => by
    obtain ⟨r', h', rfl⟩ := List.mem_map.mp (show r ∈ (aftT t c).map _ from h)
    cases g with
    | row a b => exact .som (fst_en h1 h2 c r' _ h' a) b
  | .bin true c d, r, e, h, g => by
    rcases List.mem_append.mp (show r ∈ ((aftT t c).map fun r => Ct.bin true r d) ++ (if nulT c = true then aftT t d else []) from h) with z | z
    · obtain ⟨r', h', rfl⟩ := List.mem_map.mp z
      cases g with
      | row a b => exact .row (fst_en h1 h2 c r' _ h' a) b
    · by_cases hn : nulT c = true
      · rw [if_pos hn] at z
        exact .row (nul_en S c s hn) (fst_en h1 h2 d r e z g)
      · rw [if_neg hn] at z; cases z
  | .bin false c d, r, e, h, g => by
    rcases List.mem_append.mp (show r ∈ aftT t c ++ aftT t d from h) with z | z
    · exact .chl (fst_en h1 h2 c r e z g)
    · exact .chr (fst_en h1 h2 d r e z g)
/-- a step: rests before a child, and behind it -/
theorem en_step {S : List (List String)} {k n : Nat} {l : List String} (hk : S[k]? = some l) (hn : k < n) (rs rs' : List Ct) (h : ∀ r', r' ∈ rs' ↔ ∃ t ∈ l, ∃ r ∈ rs, r' ∈ aftT t r) : (∃ r ∈ rs, En S r k n) ↔ ∃ r' ∈ rs', En S r' (k + 1) n := by
  constructor
  · rintro ⟨r, hr, g⟩
    obtain ⟨l', t, r', h1, h2, h3, h4⟩ := en_fst g hn
    rw [hk] at h1; cases h1
    exact ⟨r', (h r').mpr ⟨t, h2, r, hr, h3⟩, h4⟩
  · rintro ⟨r', hr', g⟩
    obtain ⟨t, ht, r, hr, h3⟩ := (h r').mp hr'
    exact ⟨r, hr, fst_en hk ht r r' n h3 g⟩
/-! how deep keys are -/
def ndT : Ct → Nat
  | .empty => 1 | .ty _ => 1 | .suf _ c => ndT c + 1 | .bin _ c d => max (ndT c) (ndT d) + 2
def nrT : Ct → Nat
  | .empty => 1 | .ty _ => 1 | .suf .may c => nrT c | .suf .many c => max (nrT c) (ndT c + 1) + 2 | .suf .som c => max (nrT c) (ndT c + 1) + 2
  | .bin true c d => max (max (nrT c) (ndT d) + 2) (nrT d) | .bin false c d => max (nrT c) (nrT d)
theorem nr_pos : ∀ c : Ct, 1 ≤ nrT c
  | .empty => Nat.le_refl 1
  | .ty _ => Nat.le_refl 1
  | .suf .may c => nr_pos c
  | .suf .many c => by show 1 ≤ max (nrT c) (ndT c + 1) + 2; omega
  | .suf .som c => by show 1 ≤ max (nrT c) (ndT c + 1) + 2; omega
  | .bin true c d => by show 1 ≤ max (max (nrT c) (ndT d) + 2) (nrT d); omega
  | .bin false c d => by have := nr_pos c; show 1 ≤ max (nrT c) (nrT d); omega
theorem aft_nd (t : String) : ∀ (c r : Ct), r ∈ aftT t c → ndT r ≤ nrT c ∧ nrT r ≤ nrT c
  | .empty, _, h => by cases h
  | .ty u, r, h => by
    have h : r ∈ (if u = t then [Ct.empty] else []) := h
    split at h
    · rw [List.mem_singleton] at h; subst h; exact ⟨Nat.le_refl 1, Nat.le_refl 1⟩
    · cases h
  | .suf .may c, r, h => aft_nd t c r h
  | .suf .many c, r, h => by
    obtain ⟨r', h', rfl⟩ := List.mem_map.mp (show r ∈ (aftT t c).map _ from h)
    obtain ⟨i, j⟩ := aft_nd t c r' h'
    constructor
    · show max (ndT r') (ndT c + 1) + 2 ≤ max (nrT c) (ndT c + 1) + 2; omega
    · show max (max (nrT r') (ndT c + 1) + 2) (max (nrT c) (ndT c + 1) + 2) ≤ max (nrT c) (ndT c + 1) + 2; omega
  | .suf .som c, r, h => by
    obtain ⟨r', h', rfl⟩ := List.mem_map.mp (show r ∈ (aftT t c).map _ from h)
    obtain ⟨i, j⟩ := aft_nd t c r' h'
    constructor
    · show max (ndT r') (ndT c + 1) + 2 ≤ max (nrT c) (ndT c + 1) + 2; omega
    · show max (max (nrT r') (ndT c + 1) + 2) (max (nrT c) (ndT c + 1) + 2) ≤ max (nrT c) (ndT c + 1) + 2; omega
  | .bin true c d, r, h => by
    rcases List.mem_append.mp (show r ∈ ((aftT t c).map fun r => Ct.bin true r d) ++ (if nulT c = true then aftT t d else []) from h) with z | z
    · obtain ⟨r', h', rfl⟩ := List.mem_map.mp z
      obtain ⟨i, j⟩ := aft_nd t c r' h'
      constructor
      · show max (ndT r') (ndT d) + 2 ≤ max (max (nrT c) (ndT d) + 2) (nrT d); omega
      · show max (max (nrT r') (ndT d) + 2) (nrT d) ≤ max (max (nrT c) (ndT d) + 2) (nrT d); omega
    · by_cases hn : nulT c = true
      · rw [if_pos hn] at z
        obtain ⟨i, j⟩ := aft_nd t d r z
        constructor
        · show ndT r ≤ max (max (nrT c) (ndT d) + 2) (nrT d); omega
        · show nrT r ≤ max (max (nrT c) (ndT d) + 2) (nrT d); omega
      · rw [if_neg hn] at z; cases z
  | .bin false c d, r, h => by
    rcases List.mem_append.mp (show r ∈ aftT t c ++ aftT t d from h) with z | z
    · obtain ⟨i, j⟩ := aft_nd t c r z
      exact ⟨by show _ ≤ max (nrT c) (nrT d); omega, by show _ ≤ max (nrT c) (nrT d); omega⟩
    · obtain ⟨i, j⟩ := aft_nd t d r z
      exact ⟨by show _ ≤ max (nrT c) (nrT d); omega, by show _ ≤ max (nrT c) (nrT d); omega⟩
/-! how many rests there are -/
def tcT : Ct → Nat
  | .empty => 0 | .ty _ => 1 | .suf _ c => tcT c | .bin _ c d => tcT c + tcT d
theorem tc_tys : ∀ c : Ct, tcT c = (tysT c).length
  | .empty => rfl
  | .ty _ => rfl
  | .suf _ c => tc_tys c
  | .bin _ c d => by show tcT c + tcT d = (tysT c ++ tysT d).length; rw [List.length_append, tc_tys c, tc_tys d]
theorem aft_len (t : String) : ∀ c : Ct, (aftT t c).length ≤ tcT c
  | .empty => Nat.le_refl 0
  | .ty u => by show (if u = t then [Ct.empty] else []).length ≤ 1; split <;> decide
  | .suf .may c => aft_len t c
  | .suf .many c => by show ((aftT t c).map _).length ≤ tcT c; rw [List.length_map]; exact aft_len t c
  | .suf .som c => by show ((aftT t c).map _).length ≤ tcT c; rw [List.length_map]; exact aft_len t c
  | .bin true c d => by
    have := aft_len t c
    have := aft_len t d
    show (((aftT t c).map fun r => Ct.bin true r d) ++ (if nulT c = true then aftT t d else [])).length ≤ tcT c + tcT d
    rw [List.length_append, List.length_map]
    split
    · omega
    · show _ + 0 ≤ _; omega
  | .bin false c d => by
    have := aft_len t c
    have := aft_len t d
    show (aftT t c ++ aftT t d).length ≤ tcT c + tcT d
    rw [List.length_append]; omega
def qcT : Ct → Nat
  | .empty => 0 | .ty _ => 0 | .suf .may c => qcT c | .suf .many c => qcT c + tcT c | .suf .som c => qcT c + tcT c
  | .bin true c d => max (qcT c + tcT d) (qcT d) | .bin false c d => max (qcT c) (qcT d)
theorem aft_qc (t : String) : ∀ (c r : Ct), r ∈ aftT t c → tcT r ≤ qcT c ∧ qcT r ≤ qcT c
  | .empty, _, h => by cases h
  | .ty u, r, h => by
    have h : r ∈ (if u = t then [Ct.empty] else []) := h
    split at h
    · rw [List.mem_singleton] at h; subst h; exact ⟨Nat.le_refl 0, Nat.le_refl 0⟩
    · cases h
  | .suf .may c, r, h => aft_qc t c r h
  | .suf .many c, r, h => by
    obtain ⟨r', h', rfl⟩ := List.mem_map.mp (show r ∈ (aftT t c).map _ from h)
    obtain ⟨i, j⟩ := aft_qc t c r' h'
    constructor
    · show tcT r' + tcT c ≤ qcT c + tcT c; omega
    · show max (qcT r' + tcT c) (qcT c + tcT c) ≤ qcT c + tcT c; omega
  | .suf .som c, r, h => by
    obtain ⟨r', h', rfl⟩ := List.mem_map.mp (show r ∈ (aftT t c).map _ from h)
    obtain ⟨i, j⟩ := aft_qc t c r' h'
    constructor
    · show tcT r' + tcT c ≤ qcT c + tcT c; omega
    · show max (qcT r' + tcT c) (qcT c + tcT c) ≤ qcT c + tcT c; omega
  | .bin true c d, r, h => by
    rcases List.mem_append.mp (show r ∈ ((aftT t c).map fun r => Ct.bin true r d) ++ (if nulT c = true then aftT t d else []) from h) with z | z
    · obtain ⟨r', h', rfl⟩ := List.mem_map.mp z
      obtain ⟨i, j⟩ := aft_qc t c r' h'
      constructor
      · show tcT r' + tcT d ≤ max (qcT c + tcT d) (qcT d); omega
      · show max (qcT r' + tcT d) (qcT d) ≤ max (qcT c + tcT d) (qcT d); omega
    · by_cases hn : nulT c = true
      · rw [if_pos hn] at z
        obtain ⟨i, j⟩ := aft_qc t d r z
        exact ⟨by show _ ≤ max (qcT c + tcT d) (qcT d); omega, by show _ ≤ max (qcT c + tcT d) (qcT d); omega⟩
      · rw [if_neg hn] at z; cases z
  | .bin false c d, r, h => by
    rcases List.mem_append.mp (show r ∈ aftT t c ++ aftT t d from h) with z | z
    · obtain ⟨i, j⟩ := aft_qc t c r z
      exact ⟨by show _ ≤ max (qcT c) (qcT d); omega, by show _ ≤ max (qcT c) (qcT d); omega⟩
    · obtain ⟨i, j⟩ := aft_qc t d r z
      exact ⟨by show _ ≤ max (qcT c) (qcT d); omega, by show _ ≤ max (qcT c) (qcT d); omega⟩
theorem qc_le : ∀ c : Ct, qcT c ≤ htT c * tcT c
  | .empty => Nat.le_refl 0
  | .ty _ => Nat.zero_le _
  | .suf .may c => by have := qc_le c; show qcT c ≤ (htT c + 1) * tcT c; rw [Nat.succ_mul]; omega
  | .suf .many c => by have := qc_le c; show qcT c + tcT c ≤ (htT c + 1) * tcT c; rw [Nat.succ_mul]; omega
  | .suf .som c => by have := qc_le c; show qcT c + tcT c ≤ (htT c + 1) * tcT c; rw [Nat.succ_mul]; omega
  | .bin true c d => by
    have i := qc_le c
    have j := qc_le d
    have h1 : htT c * tcT c ≤ max (htT c) (htT d) * tcT c := Nat.mul_le_mul_right _ (Nat.le_max_left _ _)
    have h2 : htT d * tcT d ≤ max (htT c) (htT d) * tcT d := Nat.mul_le_mul_right _ (Nat.le_max_right _ _)
    show max (qcT c + tcT d) (qcT d) ≤ (max (htT c) (htT d) + 1) * (tcT c + tcT d)
    rw [Nat.succ_mul, Nat.mul_add]; omega
  | .bin false c d => by
    have i := qc_le c
    have j := qc_le d
    have h1 : htT c * tcT c ≤ max (htT c) (htT d) * tcT c := Nat.mul_le_mul_right _ (Nat.le_max_left _ _)
    have h2 : htT d * tcT d ≤ max (htT c) (htT d) * tcT d := Nat.mul_le_mul_right _ (Nat.le_max_right _ _)
    show max (qcT c) (qcT d) ≤ (max (htT c) (htT d) + 1) * (tcT c + tcT d)
    rw [Nat.succ_mul, Nat.mul_add]; omega
end VS

/-! VS, part 29: dicts whose keys are nested tuples, over the hand layer: {}, d[k] = True, list(d). -/
namespace VS
open PySem PySem.Spec PyProof.Rows L2
abbrev KE3 := NestedKey × Addr × Value
/-- at d: a dict with these keys; nothing is said of the keys' own tuples -/
def rawK (P : Program) (w : World) (xs : List KE3) (d : Addr) (h : Heap) : Prop := ∃ o es ep, h.get? d = some o ∧ o.ExactDict ∧ o.data = .dict es ep ∧ es.toList = xs.map (entryOfKey (nestedKind P w)) ∧ (xs.map (·.1)).Nodup
def kdO (P : Program) (w : World) (d : Addr) (xs : List KE3) : HO := .ext (rawK P w xs d)
theorem kd_ok {P : Program} {w : World} {H : Hp} {h : Heap} {d : Addr} {xs : List KE3} (r : rawK P w xs d h) : ObjOk P w H h d (kdO P w d xs) :=
  ⟨r, let ⟨o, _, _, e, _⟩ := r; ⟨o, e⟩, fun _ _ ⟨o, es, ep, e, x⟩ k => ⟨o, es, ep, k o e, x⟩⟩
theorem kd_at {P : Program} {w : World} {H : Hp} {h : Heap} {d : Addr} {xs : List KE3} (x : HOk P w H h) (e : H d = some (kdO P w d xs)) : rawK P w xs d h := (x d _ e).1
section
variable {X : Cx} {pos pos' tpos : Pos} {o i value : Expr} {td ty tv : TE}
/-- {} -/
theorem pe_kd0 : PE X (.Dict [] [] pos) (fun _ H Q => ∀ p, H p = none → (p == sysModules) = false → Q (.ref p) (upd H p (kdO X.prog X.w p []))) := ⟨fun pins s σ H Q I h =>
  wpAny_Dict_empty ⟨.ref s.heap.objs.size, _, I.laid (a := s.heap.objs.size) (o := kdO X.prog X.w s.heap.objs.size []) (t' := s.toks) (fun _ _ q => Heap.get?_push_of_some _ q) (Nat.le_refl _) (kd_ok ⟨_, #[], 0, Heap.get?_push_size _ rfl, ⟨rfl, rfl, rfl⟩, rfl, rfl, List.nodup_nil⟩), rfl, h _ (I.hok.fresh (Nat.le_refl _)) (beq_eq_false_iff_ne.mpr (Ne.symm (Nat.ne_of_lt I.big)))⟩⟩
/-- d[k] = v -/
def sKput (X : Cx) (td ty tv : TE) : TS := fun D σ H => tv σ H fun y H1 => td σ H1 fun x H2 => ty σ H2 fun z H3 => ∃ (p b : Addr) (k : NestedKey) (xs : List KE3) (u : Value),
  x = .ref p ∧ z = .ref b ∧ y = .bl true ∧ u = .bool true ∧ H3 p = some (kdO X.prog X.w p xs) ∧ xs.length ≤ sizeLine ∧
  (∀ pins s, Inv X pins σ H3 s → (nestedKind X.prog X.w).is s.heap k b ∧ ∀ e ∈ xs, (nestedKind X.prog X.w).is s.heap e.1 e.2.1) ∧ D.nx σ (upd H3 p (kdO X.prog X.w p (storedH xs k b u)))
theorem ps_kput (hu : X.A.units + 9 < cLine) (ho : PE X o td) (hi : PE X i ty) (hv : PE X value tv) (hs : swapsWith value (some (.Subscript o i pos')) pos.line X.env = pure false) :
    PS X (.Assign [.Subscript o i pos'] value pos) (sKput X td ty tv) := by
  refine ⟨fun pins s σ H D I h => ?_⟩
  refine wpAny_Assign_Subscript (thn (hv.run pins s σ H _ I h) fun r s1 ⟨v, H1, I1, rv, q1⟩ => thn (ho.run pins s1 σ H1 _ I1 q1) fun u s2 ⟨x, H2, I2, rx, q2⟩ => thn (hi.run pins s2 σ H2 _ I2 q2) fun iv s3 ⟨y, H3, I3, ry, p, b, k, xs, u0, ex, ey, ev, eu, hp, hl, hk, q3⟩ => ?_) hs
  subst ex; subst ey; subst ev; subst eu
  obtain rfl : u = Value.ref p := rx
  obtain rfl : iv = Value.ref b := ry
  obtain rfl : r = Value.bool true := rv
  obtain ⟨k1, k2⟩ := hk pins s3 I3
  obtain ⟨o', es, ep, e1, e2, e3, e4, e5⟩ := kd_at I3.hok hp
  refine wpAny_setItem_heap (knd := nestedKind X.prog X.w) (xs := xs) (hsz := hl) (by show X.A.units + 1 + 8 < cLine; omega) k1 ⟨o', es, ep, e1, e2, e3, e4, k2, e5⟩ fun h' hm' hs' => ?_
  obtain ⟨o2, es2, ep2, f1, f2, f3, f4, _, f5⟩ := hm'
  exact ⟨σ, _, I3.write (x := p) (e := p) (o := kdO X.prog X.w p (storedH xs k b (.bool true))) (by rw [hp]; exact True.intro) (.inl rfl) (fun c u hc e => hs'.extBut c u hc e) ⟨_, f1⟩ (kd_ok ⟨o2, es2, ep2, f1, f2, f3, f4, f5⟩), q3⟩
/-- list(d) -/
theorem call_list_kd (hc : X.calm = true) : CallR X (.type "list") (fun xs H Q => ∃ (p : Addr) (ks : List KE3), xs = [.ref p] ∧ H p = some (kdO X.prog X.w p ks) ∧ (p == sysModules) = false ∧ ks.length ≤ sizeLine ∧ ∀ l, H l = none → Q (.ref l) (upd H l (.lst (ks.map fun k => V.ref k.2.1)))) := by
  intro pins s σ H xs us Q I r h
  obtain ⟨p, ks, rfl, hp, hs, hz, q⟩ := h
  obtain ⟨u, rfl, rx⟩ := vals1 r
  cases rx
  obtain ⟨o', es, ep, e1, e2, e3, e4, e5⟩ := kd_at I.hok hp
  have hl : es.size = ks.length := size_of_entries e4
  refine PySem.W.kdl_call (prog := X.prog) (w := X.w) (PySem.KdlSrc.rawDict (es := es) (ep := ep) hs) (I.ok.hd hc) ⟨o', e1, e2, e3⟩ (by omega) fun h' tk acc c' kp e it => ?_
  have hv : Vals (ks.map fun k => V.ref k.2.1) acc.toList := by
    have key : ∀ (l : List KE3) (vs : List Value), vs.length = l.length → (∀ (j : Nat) (v : Value) (k : KE3), vs[j]? = some v → l[j]? = some k → v = .ref k.2.1) → Vals (l.map fun k => V.ref k.2.1) vs := fun l => by
      induction l with
      | nil => intro vs h1 _; cases vs with | nil => exact .nil | cons _ _ => cases h1
      | cons k l ih =>
        intro vs h1 h2
        cases vs with
        | nil => cases h1
        | cons v vs => exact .cons (show v = Value.ref k.2.1 from h2 0 v k rfl rfl) (ih vs (by simpa using h1) fun j v' k' a b => h2 (j + 1) v' k' (by simpa using a) (by simpa using b))
    refine key ks acc.toList (by rw [Array.length_toList]; have := it.1; omega) fun j v k hv hk => ?_
    obtain ⟨hi, ev⟩ := it.2 j v (by rw [← Array.getElem?_toList]; exact hv)
    have en := entry_at (knd := nestedKind X.prog X.w) e4 j
    rw [hk, Array.getElem?_eq_getElem hi] at en
    have en2 : es[j] = entryOfKey (nestedKind X.prog X.w) k := by injection en
    rw [ev, en2]; rfl
  have ea : acc.toList.toArray = acc := by simp
  exact ⟨.ref s.heap.objs.size, _, I.laid (t' := tk) kp (Nat.le_refl _) (show ObjOk X.prog X.w _ h' _ (.lst (ks.map fun k => V.ref k.2.1)) from ⟨by rw [List.length_map]; exact hz, acc.toList, c', hv, by rw [ea]; exact e⟩), rfl, q _ (I.hok.fresh (Nat.le_refl _))⟩
end
end VS

/-! VS, part 30: found = {}; for value in values: found[value] = True; return list(found). -/
namespace VS
open PySem PySem.Spec PyProof.Rows L2
abbrev rKd (X : Cx) : List V → Hp → VK → Prop := fun xs H Q => ∃ (p : Addr) (ks : List KE3), xs = [.ref p] ∧ H p = some (kdO X.prog X.w p ks) ∧ (p == sysModules) = false ∧ ks.length ≤ sizeLine ∧ ∀ l, H l = none → Q (.ref l) (upd H l (.lst (ks.map fun k => V.ref k.2.1)))
def tDi (X : Cx) : TS := tSeq (tAsg (fun _ H Q => ∀ p, H p = none → (p == sysModules) = false → Q (.ref p) (upd H p (kdO X.prog X.w p []))) (gName 1))
  (tSeq (tFor (iList X.K (tVar 0)) (gName 2) (sKput X (tVar 1) (tVar 2) (tC (.bl true)))) (tRet (tCB (rKd X) (tCons (tVar 1) tNil))))
theorem di_pss {X : Cx} {fo va vs : Str} {a1 a2 a3 a4 a5 a6 a7 a8 a9 a10 a11 a12 a13 a14 a15 : Pos} (nd : X.N.Nodup) (calm : X.calm = true) (un : X.A.units + 65 < cLine) (own : PassesOwn (model X.prog X.w) X.A X.env X.xe)
    (n0 : X.N[0]? = some vs) (n1 : X.N[1]? = some fo) (n2 : X.N[2]? = some va) (v0 : Vis X.env.scope vs) (v1 : Vis X.env.scope fo) (v2 : Vis X.env.scope va) (l1 : Loc X.env.scope fo) (l2 : Loc X.env.scope va) (fn : ∀ x, X.fn x = true)
    (d0 : (vs == ("__debug__" : Str)) = false) (d1 : (fo == ("__debug__" : Str)) = false) (d2 : (va == ("__debug__" : Str)) = false) (e0 : (vs == ("__classdict__" : Str)) = false) (e1 : (fo == ("__classdict__" : Str)) = false) (e2 : (va == ("__classdict__" : Str)) = false)
    (gl : Gl X "list") (mg : X.mg "list" = none) {k0 : Nat} :
    PSs X [.Assign [.Name fo a1] (.Dict [] [] a2) a3, .For (.Name va a4) (.Name vs a5) [.Assign [.Subscript (.Name fo a6) (.Name va a7) a8] (.Constant (.bool true) k0 a9) a10] [] a11, .Return (some (.Call (.Name "list" a12) [.Name fo a13] [] a14)) a15] (tDi X) := by
  refine pss_cons (ps_asg pe_kd0 (pg_name nd n1 l1 (.inl (fn _)))) (pss_cons (ps_for own calm (pi_list (pe_var n0 v0 d0 e0)) (pg_name nd n2 l2 (.inl (fn _))) (pss_one (ps_kput (by omega) (pe_var n1 v1 d1 e1) (pe_var n2 v2 d2 e2) pe_bl rfl))) (pss_one (ps_ret (pe_callTy (call_list_kd calm) gl mg (by decide +kernel) (pa_cons (pe_var n1 v1 d1 e1) pa_nil)))))
end VS

/-! VS, part 31: contents as keys. -/
namespace VS
open PySem PySem.Spec PyProof.Rows L2
def tx (s : String) : NestedKey := .text (Str.ofString s)
def nkT : Ct → NestedKey
  | .empty => .tup [tx "empty"] | .ty s => .tup [tx "type", tx s] | .suf k c => .tup [tx k.nm, nkT c] | .bin b c d => .tup [tx (kbN b), .tup [nkT c, nkT d]]
theorem nk_depth : ∀ c : Ct, (nkT c).depth = ndT c
  | .empty => by simp [nkT, tx, NestedKey.depth, NestedKey.depthAll, ndT]
  | .ty s => by simp [nkT, tx, NestedKey.depth, NestedKey.depthAll, ndT]
  | .suf k c => by have := nk_depth c; simp [nkT, tx, NestedKey.depth, NestedKey.depthAll, ndT, this]
  | .bin b c d => by have := nk_depth c; have := nk_depth d; simp [nkT, tx, NestedKey.depth, NestedKey.depthAll, ndT, *]
theorem tx_inj {s t : String} (h : tx s = tx t) : s = t := by
  unfold tx at h
  injection h with h
  exact ofString_inj.mp h
theorem nk_tup : ∀ c : Ct, ∃ l, nkT c = .tup l := fun c => by cases c <;> exact ⟨_, rfl⟩
theorem nk_inj : ∀ c d : Ct, nkT c = nkT d → c = d
  | .empty, d, h => by
    cases d with
    | empty => rfl
    | ty _ => simp [nkT] at h
    | suf _ _ => simp [nkT] at h
    | bin _ _ _ => simp [nkT] at h
  | .ty s, d, h => by
    cases d with
    | empty => simp [nkT] at h
    | ty t => simp only [nkT, NestedKey.tup.injEq, List.cons.injEq, and_true, true_and] at h; rw [tx_inj h]
    | suf k c => obtain ⟨l, e⟩ := nk_tup c; simp [nkT, e, tx] at h
    | bin b c d => simp [nkT, tx] at h
  | .suf k c, d, h => by
    cases d with
    | empty => simp [nkT] at h
    | ty t => obtain ⟨l, e⟩ := nk_tup c; simp [nkT, e, tx] at h
    | suf k2 c2 =>
      simp only [nkT, NestedKey.tup.injEq, List.cons.injEq, and_true] at h
      rw [nk_inj c c2 h.2]
      have := tx_inj h.1
      cases k <;> cases k2 <;> first | rfl | (exact absurd this (by decide))
    | bin b c2 d2 =>
      simp only [nkT, NestedKey.tup.injEq, List.cons.injEq, and_true] at h
      have := tx_inj h.1
      cases k <;> cases b <;> exact absurd this (by decide)
  | .bin b c1 c2, d, h => by
    cases d with
    | empty => simp [nkT] at h
    | ty t => simp [nkT, tx] at h
    | suf k2 c3 =>
      simp only [nkT, NestedKey.tup.injEq, List.cons.injEq, and_true] at h
      have := tx_inj h.1
      cases b <;> cases k2 <;> exact absurd this (by decide)
    | bin b2 d1 d2 =>
      simp only [nkT, NestedKey.tup.injEq, List.cons.injEq, and_true] at h
      rw [nk_inj c1 d1 h.2.1, nk_inj c2 d2 h.2.2]
      have := tx_inj h.1
      cases b <;> cases b2 <;> first | rfl | (exact absurd this (by decide))
section
variable {G : Glob} {X : Cx} {pins : List (Addr × Obj)} {σ : L2.St} {H F : Hp} {s : Shared}
theorem nested_tup (I : Inv X pins σ H s) (hK : X.K = G.K) (e : Ex F H) {v : V} {u : Value} {ds : List D} {ks : List NestedKey} (r : Rp G F v (.tup ds)) (ru : RelV v u) (hall : ∀ vs its, RpL G F vs ds → Vals vs its → NestedAll s.heap ks its) : NestedIs s.heap (.tup ks) u := by
  obtain ⟨a, vs, rfl, h1, h2⟩ := rp_tup r
  obtain rfl : u = Value.ref a := ru
  obtain ⟨its, r', ⟨o, ho, hc, n, hd⟩, _⟩ := I.tuple (by rw [hK]; exact e.t h1)
  exact .tup ho hc hd (by simpa using hall vs its h2 r')
theorem nested_tx {v : V} {u : Value} {t : String} (r : Rp G F v (.str t)) (ru : RelV v u) : NestedIs s.heap (tx t) u := by
  cases r
  obtain ⟨k, rfl⟩ := ru
  exact .text _ _
theorem nested_of (I : Inv X pins σ H s) (hK : X.K = G.K) (e : Ex F H) : ∀ (c : Ct) (v : V) (u : Value), Rp G F v (encT c) → RelV v u → NestedIs s.heap (nkT c) u
  | .empty, v, u, r, ru => nested_tup I hK e r ru fun vs its h1 h2 => by
    cases h1 with | cons a b => cases b; cases h2 with | cons p q => cases q; exact .cons (nested_tx a p) .nil
  | .ty t, v, u, r, ru => nested_tup I hK e r ru fun vs its h1 h2 => by
    cases h1 with | cons a b => cases b with | cons a2 b2 => cases b2; cases h2 with | cons p q => cases q with | cons p2 q2 => cases q2; exact .cons (nested_tx a p) (.cons (nested_tx a2 p2) .nil)
  | .suf k c, v, u, r, ru => nested_tup I hK e r ru fun vs its h1 h2 => by
    cases h1 with | cons a b => cases b with | cons a2 b2 => cases b2; cases h2 with | cons p q => cases q with | cons p2 q2 => cases q2; exact .cons (nested_tx a p) (.cons (nested_of I hK e c _ _ a2 p2) .nil)
  | .bin b c d, v, u, r, ru => nested_tup I hK e r ru fun vs its h1 h2 => by
    cases h1 with | cons a b => cases b with | cons a2 b2 => cases b2; cases h2 with | cons p q => cases q with | cons p2 q2 =>
      cases q2
      refine .cons (nested_tx a p) (.cons (nested_tup I hK e a2 p2 fun vs its h1 h2 => ?_) .nil)
      cases h1 with | cons x y => cases y with | cons x2 y2 => cases y2; cases h2 with | cons z w => cases w with | cons z2 w2 => cases w2; exact .cons (nested_of I hK e c _ _ x z) (.cons (nested_of I hK e d _ _ x2 z2) .nil)
end
end VS

/-! VS, part 32: _law_distinct, read. -/
namespace VS
open PySem PySem.Spec PyProof.Rows L2
def ent (x : Ct × Addr) : KE3 := (nkT x.1, x.2, Value.bool true)
theorem at_key {k : NestedKey} : ∀ {cs : List (Ct × Addr)}, (atKey (cs.map ent) k).isSome = true → ∃ x ∈ cs, nkT x.1 = k := fun {cs} h => by
  unfold atKey at h
  rw [Option.isSome_map, List.find?_isSome] at h
  obtain ⟨x, hx, he⟩ := h
  obtain ⟨y, hy, rfl⟩ := List.mem_map.mp hx
  exact ⟨y, hy, of_decide_eq_true he⟩
theorem put_ent {k : NestedKey} (cs : List (Ct × Addr)) : (cs.map ent).map (putAt k (Value.bool true)) = cs.map ent := by
  rw [List.map_map]
  apply List.map_congr_left
  intro x _
  show (if nkT x.1 = k then (nkT x.1, x.2, Value.bool true) else (nkT x.1, x.2, Value.bool true)) = _
  split <;> rfl
theorem di_read {G : Glob} {X : Cx} (hK : X.K = G.K) {R F H : Hp} {M : Store} {a : Addr} {rs : List Ct} (g : Good G R F H M) (r : Rp G F (.ref a) (.lst (rs.map encT))) (hd : ∀ c ∈ rs, ndT c ≤ 8) (hl : rs.length ≤ 1000000) {Q : VK}
    (fin : ∀ (rs' : List Ct) (F' H' : Hp) (v : V), (∀ c, c ∈ rs' ↔ c ∈ rs) → rs'.length ≤ rs.length → Ex F F' → Good G R F' H' M → Rp G F' v (.lst (rs'.map encT)) → Q v H') :
    tDi X { nx := fun _ H' => Q .non H', rt := Q } [some (.ref a), none, none] H := by
  cases r with
  | lst ha rl =>
    rename_i us
    have hlen : us.length = rs.length := by rw [rl.length, List.length_map]
    intro p hp hs
    obtain ⟨_, hF, _⟩ := g.fresh hp
    have hap : a ≠ p := fun z => by subst z; rw [hF] at ha; cases ha
    have sq : ∀ o, SqL X.K (upd H p o) a us := fun o => SqL.of (by rw [upd_ne hap]; exact g.ex _ _ ha)
    have exF : ∀ o, Ex F (upd H p o) := fun o => g.ex.mut hF
    refine ⟨.ref a, rfl, a, rfl, ⟨us, sq _⟩, fun i m σ H' => ∃ (cs : List (Ct × Addr)) (o2 : Option V), σ = [some (.ref a), some (.ref p), o2] ∧ H' = upd H p (kdO X.prog X.w p (cs.map ent)) ∧ (∀ x ∈ cs, Rp G F (.ref x.2) (encT x.1) ∧ x.1 ∈ rs) ∧ (∀ c, (∃ b, (c, b) ∈ cs) ↔ c ∈ rs.take i) ∧ cs.length ≤ i ∧ i ≤ us.length ∧ m = us.length - i, ⟨_, [], none, rfl, rfl, fun x h => (by cases h), fun c => ⟨fun ⟨b, h⟩ => (by cases h), fun h => (by rw [List.take_zero] at h; cases h)⟩, Nat.zero_le _, Nat.zero_le _, rfl⟩, ?_⟩
    rintro i m σ H' ⟨cs, o2, rfl, rfl, hrp, hmem, hcl, hil, rfl⟩
    have ll : sizeLine = 16777216 := by rw [line_eq]; rfl
    by_cases hi : i < us.length
    · right
      refine ⟨⟨us, us[i], sq _, List.getElem?_eq_getElem hi⟩, fun σ' H' => ∃ (cs : List (Ct × Addr)) (o2 : Option V), σ' = [some (.ref a), some (.ref p), o2] ∧ H' = upd H p (kdO X.prog X.w p (cs.map ent)) ∧ (∀ x ∈ cs, Rp G F (.ref x.2) (encT x.1) ∧ x.1 ∈ rs) ∧ (∀ c, (∃ b, (c, b) ∈ cs) ↔ c ∈ rs.take (i + 1)) ∧ cs.length ≤ i + 1 ∧ i + 1 ≤ us.length, fun σ' H' ⟨cs, o2, h1, h2, h3, h4, h5, h6⟩ => ⟨us.length - (i + 1), by omega, cs, o2, h1, h2, h3, h4, h5, h6, rfl⟩, ?_⟩
      rintro x H2 ⟨rfl, hx⟩
      have hx := hx us (sq _)
      obtain ⟨c, hc⟩ : ∃ c, rs[i]? = some c := ⟨_, List.getElem?_eq_getElem (by omega)⟩
      have hcm := List.mem_of_getElem? hc
      have etk : rs.take (i + 1) = rs.take i ++ [c] := by rw [List.take_succ, hc]; rfl
      obtain ⟨v, hv, rv⟩ := rl.get (show (rs.map encT)[i]? = some (encT c) by rw [List.getElem?_map, hc]; rfl)
      rw [hx] at hv
      obtain rfl : x = v := by injection hv
      obtain ⟨b, rfl⟩ : ∃ b, x = .ref b := by
        obtain ⟨ds, e⟩ : ∃ ds, encT c = .tup ds := by cases c <;> exact ⟨_, rfl⟩
        rw [e] at rv
        obtain ⟨b, _, h, _⟩ := rp_tup rv
        exact ⟨b, h⟩
      refine ⟨.ref p, rfl, .ref b, rfl, p, b, nkT c, cs.map ent, .bool true, rfl, rfl, rfl, rfl, upd_same, by rw [List.length_map]; omega, fun pins s I => ?_, ?_⟩
      · refine ⟨⟨nested_of I hK (exF _) c _ _ rv rfl, by rw [nk_depth]; exact hd c hcm⟩, fun e he => ?_⟩
        obtain ⟨y, hy, rfl⟩ := List.mem_map.mp he
        obtain ⟨q1, q2⟩ := hrp y hy
        exact ⟨nested_of I hK (exF _) y.1 _ _ q1 rfl, by show (nkT y.1).depth ≤ 8; rw [nk_depth]; exact hd y.1 q2⟩
      · show ∃ (cs : List (Ct × Addr)) (o2 : Option V), _
        cases hk : (atKey (cs.map ent) (nkT c)).isSome with
        | true =>
          have es : storedH (cs.map ent) (nkT c) b (.bool true) = cs.map ent := by unfold storedH; rw [hk, if_pos rfl, put_ent]
          refine ⟨cs, some (.ref b), rfl, by rw [es, upd_upd], hrp, fun d => ?_, by omega, by omega⟩
          obtain ⟨y, hy, ey⟩ := at_key hk
          have ey := nk_inj _ _ ey
          rw [hmem, etk, List.mem_append, List.mem_singleton]
          refine ⟨.inl, fun h => ?_⟩
          rcases h with h | h
          · exact h
          · subst h; exact (hmem d).mp ⟨y.2, by rw [← ey]; exact hy⟩
        | false =>
          have es : storedH (cs.map ent) (nkT c) b (.bool true) = (cs ++ [(c, b)]).map ent := by unfold storedH; rw [hk, if_neg Bool.false_ne_true, List.map_append]; rfl
          refine ⟨cs ++ [(c, b)], some (.ref b), rfl, by rw [es, upd_upd], fun y hy => ?_, fun d => ?_, by rw [List.length_append]; show _ + 1 ≤ _; omega, by omega⟩
          · rcases List.mem_append.mp hy with w | w
            · exact hrp y w
            · rw [List.mem_singleton] at w; subst w; exact ⟨rv, hcm⟩
          · rw [etk, List.mem_append, List.mem_singleton, ← hmem]
            constructor
            · rintro ⟨b', h⟩
              rcases List.mem_append.mp h with w | w
              · exact .inl ⟨b', w⟩
              · rw [List.mem_singleton] at w; injection w with w _; exact .inr w
            · rintro (⟨b', h⟩ | h)
              · exact ⟨b', List.mem_append_left _ h⟩
              · subst h; exact ⟨b, List.mem_append_right _ (List.mem_singleton_self _)⟩
    · left
      refine ⟨⟨us, sq _, by omega⟩, ?_⟩
      refine ⟨.ref p, rfl, p, cs.map ent, rfl, upd_same, hs, by rw [List.length_map]; omega, fun l hl2 => ?_⟩
      have g1 : Good G R F (upd H p (kdO X.prog X.w p (cs.map ent))) M := g.side hp
      obtain ⟨g2, e2⟩ := g1.new (o := .lst (cs.map fun x => V.ref x.2)) hl2
      have em : (cs.map ent).map (fun k => V.ref k.2.1) = cs.map fun x => V.ref x.2 := by rw [List.map_map]; rfl
      rw [em]
      have it : rs.take i = rs := List.take_of_length_le (by omega)
      rw [it] at hmem
      have rl2 : ∀ l : List (Ct × Addr), (∀ x ∈ l, Rp G F (.ref x.2) (encT x.1) ∧ x.1 ∈ rs) → RpL G F (l.map fun x => V.ref x.2) ((l.map fun x => x.1).map encT) := fun l => by
        induction l with
        | nil => exact fun _ => .nil
        | cons x l ih => exact fun h => .cons (h x List.mem_cons_self).1 (ih fun y hy => h y (List.mem_cons_of_mem _ hy))
      refine fin (cs.map fun x => x.1) _ _ _ (fun c => ?_) (by rw [List.length_map]; omega) e2 g2 (.lst upd_same ((rl2 cs hrp).mono e2))
      rw [← hmem, List.mem_map]
      exact ⟨fun ⟨x, h1, h2⟩ => ⟨x.2, by rw [← h2]; exact h1⟩, fun ⟨b, h⟩ => ⟨_, h, rfl⟩⟩
end VS

/-! VS, part 33: an own exception class whose __init__ says super().__init__(f'..') and keeps two fields. -/
namespace VS
open PySem PySem.Spec PyProof.Rows L2
section
variable {M : Model} {prog : Program} {w : World} {A : Around} {E : Value → Shared → Prop} {h : Heap} {g : Array GenState} {d : Drawn} {t : Nat} {os : OsState}
variable {nm q : Str} {C N : Addr} {bs bm : List Value} {hdct : Bool} {sn : List Str} {sub : List Value} {ab : Bool} {col : Option Bool} {dd : Option Addr} {k0 k1 k2 k3 k5 : Option Value}
/-- ValueError.__init__, bound by super(), is called -/
theorem call_vw {u e t0 : Addr} {rest : List Value} {Q : Value → Shared → Prop}
    (hC : h.get? C = some (excClassObj nm q C N bs bm hdct sn sub ab col dd k0 k1 k2 k3 k5 "ValueError.__new__")) (he : h.get? e = some (HandSPX.excO C t0)) (hu : h.get? u = some (PySem.W.kxs_mw "ValueError.__init__" e)) (hz : rest.length ≤ sizeLine)
    (hq : ∀ h2 t1, (∀ b o, b ≠ e → h.get? b = some o → h2.get? b = some o) → h2.get? e = some (HandSPX.excO C t1) → Q .none ⟨h2, g, d, t, os⟩) :
    wpAny (model prog w) A (call (.ref u) rest) Q E ⟨h, g, d, t, os⟩ := by
  refine wpAny_call (codeAny_of_tree ?_)
  show wpAny _ A.in1 (callAny (.ref u) ⟨rest, []⟩) _ _ _
  simp only [callAny]
  refine wpAny_bind (wpAny_load hu ?_)
  simp only [PySem.W.kxs_mw, show (Value.type "method-wrapper" == Value.type "method" || Value.type "method-wrapper" == Value.type "builtin_function_or_method" || Value.type "method-wrapper" == Value.type "method-wrapper") = true by decide, if_true]
  refine PySem.W.KFB.if_so (by decide) ?_
  refine wpAny_bind (PySem.W.check_bound_init PySem.F.excBase_ValueError.toExcCallFacts hC he rfl ?_)
  refine wpAny_bind (wpAny_pure (wpAny_pure ?_))
  refine ⟨plainId_quiet PySem.F.excBase_ValueError.init.plain _, codeAny_builtin PySem.F.excBase_ValueError.initEntry ?_⟩
  rw [Around.under_plainId PySem.F.excBase_ValueError.init.plain _]
  wp_walk
  refine hq _ h.objs.size (fun b o hb ho => ?_) ?_
  · rw [Heap.get?_update_other _ _ (Ne.symm hb)]
    exact Heap.get?_push_of_some _ ho
  · rw [Heap.get?_update_self _ (Heap.get?_push_of_some _ he) rfl]
    rfl
end

/-! ### the def __init__ -/
/-- its text -/
structure IniText (st : Stmt) : Prop where
  body : ∃ (p0 p1 p2 p3 p4 p5 p6 p7 p8 p9 p10 p11 p12 p13 p14 p15 p16 p17 p18 : Pos) (j : Nat), defBody st =
    [.Expr (.Call (.Attribute (.Call (.Name "super" p0) [] [] p1) "__init__" p2) [.JoinedStr [.FormattedValue (.Name "message" p3) (-1) none p4, .Constant (.str " at ") j p5, .FormattedValue (.Name "place" p6) (-1) none p7] p8] [] p9) p10,
     .Assign [.Attribute (.Name "self" p11) "place" p12] (.Name "place" p13) p14, .Assign [.Attribute (.Name "self" p15) "message" p16] (.Name "message" p17) p18] ∧
    ∀ env : PySem.Env, ∃ pl : Sem Bool, eval (.Call (.Attribute (.Call (.Name "super" p0) [] [] p1) "__init__" p2) [.JoinedStr [.FormattedValue (.Name "message" p3) (-1) none p4, .Constant (.str " at ") j p5, .FormattedValue (.Name "place" p6) (-1) none p7] p8] [] p9) env = (do
      let ov ← attributeBase (.Call (.Name "super" p0) [] [] p1) "__init__" env (eval (.Call (.Name "super" p0) [] [] p1) env)
      standAt p2.atName
      let (f, first) ← holding [ov] (getMethod ov "__init__" pl)
      callWith p9 f first (backTo p9 (starEach [.JoinedStr [.FormattedValue (.Name "message" p3) (-1) none p4, .Constant (.str " at ") j p5, .FormattedValue (.Name "place" p6) (-1) none p7] p8] env)) [])
  kind : (defScope st).kind = .function
  co : (defScope st).isCoroutine = false
  gen : (defScope st).isGenerator = false
  nocell : ∀ x ∈ (defScope st).names, x.2 ≠ .cell
  onefree : ∀ x ∈ (defScope st).names, x.2 = .free → x.1 = ("__class__" : Str)
  lS : (defScope st).names.lookup ("self" : Str) = some .local
  lP : (defScope st).names.lookup ("place" : Str) = some .local
  lM : (defScope st).names.lookup ("message" : Str) = some .local
  gS : (defScope st).names.lookup ("super" : Str) = some .globalImplicit
  fC : (defScope st).names.lookup ("__class__" : Str) = some .free
  arg : ((defArgs st).posonlyargs ++ (defArgs st).args).head?.map (·.arg) = some "self"
/-- where it stands -/
structure IniAt (P : Program) (K : PySem.W.Frag) (D fI : Addr) (fd : FuncData) (st : Stmt) (qual : Str) : Prop where
  ex : ∃ (oc : Value) (od : Option Addr) (kV doc pm : Value) (an : Option Addr) (cda : Addr) (ct : Value) (osl : Array (Option Value)) (cc : Addr) (ccl : Value) (cdd : Option Addr) (vs : Array Value) (ccs : Array (Option Value)) (file : Str) (tf : Tok) (cl : Value) (cld : Option Addr) (csl : Array (Option Value)),
    fd = PySem.W.ksFn "__init__" qual (defArgs st) (defBody st) (defScope st) .none kV doc pm an (.ref cda) ct cc ∧ K.lookup fI = some ⟨oc, od, .func fd, osl⟩ ∧ PySem.W.codeIn K (.ref cda) qual = true ∧
    K.lookup cda = some ⟨ccl, cdd, .fields vs, ccs⟩ ∧ vs[2]? = some (.str file tf) ∧ ((P.main.file : Str) == file) = true ∧ K.lookup cc = some ⟨cl, cld, .cell (some (.ref D)), csl⟩
  cls : OexC K D
  sub : PySem.W.mroIn K D (.ref D) = some true
  sup : PySem.W.ks_superIn K D D "__init__" = some (some (.builtin "ValueError.__init__"))
  isV : PySem.W.subIn K (.ref D) (.type "ValueError") = some true
  noany : PySem.W.nsIn K cStatics "thirdparty.any" = some none
  htop : (P.main.scope.names.lookup ("super" : Str)).isSome = false
  nP : PySem.W.findIn K (.ref D) "place" = some none
  nM : PySem.W.findIn K (.ref D) "message" = some none
def cxI (P : Program) (w : World) (K : PySem.W.Frag) (mg : Str → Option Value) (base : Heap) (qual : Str) (scope : Scope) (f cda cc : Addr) (A : Around) (outer : List PySem.Env) (s : Shared) (H : Hp) : Cx where
  prog := P
  w := w
  K := K
  mg := mg
  base := base
  A := A.deeper (PySem.W.ksEnv qual scope s.heap.objs.size f (.ref cda) cc)
  N := ["self", "place", "message"]
  s_0 := s
  H_0 := H
  env := PySem.W.ksEnv qual scope s.heap.objs.size f (.ref cda) cc
  outer := outer
  stack := PySem.W.ksEnv qual scope s.heap.objs.size f (.ref cda) cc :: outer
  ex := []
  calm := true
  fn := fun x => !(x == ("__class__" : Str))
  pn := []
  xe := fun _ _ => False
theorem one_cell {x y : Str} {cc c : Addr} (h : List.lookup x [((y : Str), cc)] = some c) : x = y ∧ c = cc := by
  rw [List.lookup_cons] at h
  by_cases e : (x == y) = true
  · rw [e] at h
    exact ⟨by simpa using e, (Option.some.inj h).symm⟩
  · rw [Bool.not_eq_true] at e
    rw [e] at h
    cases h
theorem inv_ini {P : Program} {w : World} {K : PySem.W.Frag} {mg : Str → Option Value} {base : Heap} {qual : Str} {st : Stmt} {f cda cc D : Addr} {cl : Value} {cld : Option Addr} {csl : Array (Option Value)} {A : Around} {outer : List PySem.Env} {s : Shared} {H : Hp} {us : List Value} {vs : List V} {h1 : Heap} {t1 : Nat}
    (T : IniText st) (hcc : K.lookup cc = some ⟨cl, cld, .cell (some (.ref D)), csl⟩) (hd : A.handled = none) (e0 : Env0 P w K mg base A outer s H) (hl : vs.length = 3) (r : Vals vs us)
    (hns : h1.Ns s.heap.objs.size (fun x => ((["self", "place", "message"] : List Str).zip us).reverse.lookup x)) (hk : ∀ b o, s.heap.get? b = some o → h1.get? b = some o) :
    Inv (cxI P w K mg base qual (defScope st) f cda cc A outer s H) [] (vs.map some) H { s with heap := h1, toks := t1 } := by
  have kin0 := e0.mod.kin
  have bcc : base.get? cc = some ⟨cl, cld, .cell (some (.ref D)), csl⟩ := kin0 _ _ hcc
  have scc := e0.bs _ _ bcc
  have noA : ∀ b : Addr, b ∉ (cxI P w K mg base qual (defScope st) f cda cc A outer s H).ex := fun b z => absurd (show b ∈ ([] : List Addr) from z) (by simp)
  have lk1 : ∀ {x : Str} {c : Addr}, (cxI P w K mg base qual (defScope st) f cda cc A outer s H).env.cells.lookup x = some c → x = "__class__" ∧ c = cc := fun {x c} h => one_cell h
  refine ⟨⟨e0.mod, T.kind, rfl, rfl, Nat.le_refl _, fun y z c q1 q2 => (lk1 q1).1.trans (lk1 q2).1.symm, fun y hy => ?_, fun y c q q1 => ?_, fun _ => hd, Around.frames_deeper e0.frames, .inr ⟨rfl, rfl⟩, fun b z => absurd z (noA b), e0.bs, e0.bsz, fun b _ _ => noA b, fun b z => absurd z (noA b), e0.funs, e0.frf⟩,
    rfl, e0.bare, Un.kept hk, ⟨_, hns, fun i y v q1 q2 q3 => ?_⟩, fun y c q => ?_, e0.hok.fresh (Nat.le_refl _), fun y c q => ?_, fun p hp => absurd (show p ∈ ([] : List (Addr × Obj)) from hp) (by simp), e0.hok.kept hk, ?_⟩
  · have hy : (defScope st).names.lookup y = some .cell ∨ (defScope st).names.lookup y = some .free := hy
    rcases hy with hy | hy
    · exact absurd rfl (T.nocell _ (PySem.mem_of_lookup hy))
    · have z := T.onefree _ (PySem.mem_of_lookup hy) rfl
      refine ⟨cc, ?_⟩
      show List.lookup y [("__class__", cc)] = some cc
      have z' : y = "__class__" := z
      rw [z']
      rfl
  · obtain ⟨rfl, _⟩ := lk1 q1
    have q' : (!(("__class__" : Str) == ("__class__" : Str))) = true := q
    exact absurd q' (by decide)
  · have hi : i < 3 := by
      have := (List.getElem?_eq_some_iff.mp q1).1
      exact this
    have ha : vs[i]? = some v := by
      rw [List.getElem?_map] at q2
      cases z : vs[i]? with
      | none => rw [z] at q2; cases q2
      | some a => rw [z] at q2; cases q2; rfl
    obtain ⟨u, hu, rv⟩ := r.get ha
    have lus : us.length = 3 := by rw [← r.length, hl]
    match us, lus with
    | [u0, u1, u2], _ =>
      have look : (defScope st).names.lookup y = some .local ∧ ((["self", "place", "message"] : List Str).zip [u0, u1, u2]).reverse.lookup y = some u := by
        match i, hi with
        | 0, _ => cases q1; cases hu; exact ⟨T.lS, rfl⟩
        | 1, _ => cases q1; cases hu; exact ⟨T.lP, rfl⟩
        | 2, _ => cases q1; cases hu; exact ⟨T.lM, rfl⟩
      exact ⟨u, rv, .inl look⟩
  · obtain ⟨rfl, rfl⟩ := lk1 q
    exact ⟨_, _, hk _ _ scc.1, rfl⟩
  · obtain ⟨rfl, rfl⟩ := lk1 q
    exact scc.2
  · show (vs.map some).length = 3
    rw [List.length_map, hl]
/-- what it keeps: the two fields -/
def spIni (D : Addr) : Sp := fun vs H Q _ => ∃ (a : Addr) (i : Int) (m : String), vs = [.ref a, .int i, .str (Str.ofString m)] ∧ i.natAbs.log2 < 1920 ∧ (toString i).length ≤ 1000000 ∧ m.length ≤ 1000000 ∧ H a = some (exo a D none) ∧
  ∀ dx, H dx = none → dx ≠ a → Q .non (upd (upd (upd H dx (exd dx [("place", .int i)])) a (exo a D (some dx))) dx (exd dx [("message", .str (Str.ofString m)), ("place", .int i)]))
theorem ini_ok {P : Program} {w : World} {K : PySem.W.Frag} {mg : Str → Option Value} {base : Heap} {k : Nat} {D fI : Addr} {fd : FuncData} {st : Stmt} {qual : Str} (T : IniText st) (Z : IniAt P K D fI fd st qual) (hsup : mg "super" = none) :
    FnOk P w K mg base (L2.CX P w) (k + 1) fI fd ["self", "place", "message"] (spIni D) := by
  refine ⟨fun vs H Q E ⟨a, i, m, e, _⟩ => by rw [e]; rfl, fun A outer s H args us vs Q E hr e0 hb r hsp => ?_⟩
  obtain ⟨oc, od, kV, doc, pm, an, cda, ct, osl, cc, ccl, cdd, cvs, ccs, file, tf, cl, cld, csl, rfl, lk, hcd, lcd, hv2, hfile, lcc⟩ := Z.ex
  obtain ⟨a, i, m, rfl, i1, i2, m1, ha, hq⟩ := hsp
  obtain ⟨p0, p1, p2, p3, p4, p5, p6, p7, p8, p9, p10, p11, p12, p13, p14, p15, p16, p17, p18, j, hbody, hev⟩ := T.body
  have KX : K.In s.heap := e0.mod.kin.keeps fun b o e => (e0.bs b o e).1
  have lim : s.heap.NoLimit := e0.mod.nolimit.keeps fun b o e => (e0.bs b o e).1
  have hloc : ∀ x ∈ (["self", "place", "message"] : List Str).zip us, (defScope st).names.lookup x.1 = some .local := fun ⟨n, v⟩ hx => by
    have hn := (List.of_mem_zip hx).1
    simp only [List.mem_cons, List.not_mem_nil, or_false] at hn
    rcases hn with rfl | rfl | rfl
    · exact T.lS
    · exact T.lP
    · exact T.lM
  refine ks_codeAny_call_defAt (fd := PySem.W.ksFn "__init__" qual (defArgs st) (defBody st) (defScope st) .none kV doc pm an (.ref cda) ct cc) hr.depth (KX _ _ lk) rfl lim (PySem.W.codeRec_of KX hcd) rfl hb T.nocell hloc (fun h1 hns keep => ?_) T.co T.gen T.kind
  have I : Inv (cxI P w K mg base qual (defScope st) fI cda cc A outer s H) [] [some (.ref a), some (.int i), some (.str (Str.ofString m))] H { s with heap := h1, toks := s.toks + ((["self", "place", "message"] : List Str).zip us).length } :=
    inv_ini T lcc hr.hd e0 rfl r hns keep
  generalize hS : ({ s with heap := h1, toks := s.toks + ((["self", "place", "message"] : List Str).zip us).length } : Shared) = s1 at I ⊢
  have lc : ∀ B : List Stmt, PySem.wpAt (model P w) (A.deeper (PySem.W.ksEnv qual (defScope st) s.heap.objs.size fI (.ref cda) cc)) (.func B (PySem.W.ksEnv qual (defScope st) s.heap.objs.size fI (.ref cda) cc)) (execs (defBody st) (PySem.W.ksEnv qual (defScope st) s.heap.objs.size fI (.ref cda) cc))
      (fun f s' => CR (L2.CX P w) outer P w H s Q E (.ok (.ret (match f with | .ret v => v | _ => .none))) s') (fun _ _ => False) s1 := fun B => by
    rw [hbody]
    obtain ⟨pl, hev⟩ := hev (PySem.W.ksEnv qual (defScope st) s.heap.objs.size fI (.ref cda) cc)
    refine ks_wpAt_execs_cons (ks_wpAt_Expr_any (ks_wpAt_MethodCall ?_ hev) (by show interactive _ = false; unfold interactive; rw [show (PySem.W.ksEnv qual (defScope st) s.heap.objs.size fI (.ref cda) cc).scope.kind = .function from T.kind]; rfl))
    obtain ⟨nm, q, N, bs, bm, sn, sub, ab, col, dd, k0, k1, k2, k3, k5, hC, hbm⟩ := Z.cls.cls
    have hcl : PySem.W.clsIn K D = some { name := nm, bases := bs, mro := .ref D :: bm, ns := N, qualname := q, hasDict := true, slotNames := sn, subclasses := sub, abstract := ab, collection := col, hasDel := false } := by unfold PySem.W.clsIn; rw [hC] <;> rfl
    have hark : ∃ ar : Arg, ((defArgs st).posonlyargs ++ (defArgs st).args).head? = some ar ∧ ar.arg = "self" := by
      have z := T.arg
      cases y : ((defArgs st).posonlyargs ++ (defArgs st).args).head? with
      | none => rw [y] at z; cases z
      | some ar => rw [y] at z; exact ⟨ar, rfl, Option.some.inj z⟩
    obtain ⟨ar, har, hself⟩ := hark
    refine ks_wpAt_super_base (env := PySem.W.ksEnv qual (defScope st) s.heap.objs.size fI (.ref cda) cc) T.gS T.fC (by decide) rfl (I.kIn _ _ lk) rfl har rfl (I.kIn _ _ lcd) rfl hv2 hfile Z.htop ?_
    obtain ⟨mb, b1, b2⟩ := I.mod.blt
    refine PySem.W.ks_loadName_global T.kind T.gS (Calls.loadGlobal_builtin (env := PySem.W.ksEnv qual (defScope st) s.heap.objs.size fI (.ref cda) cc) (I.mod.glob.keeps I.bk) hsup (b1.keeps I.bk) ((b2 "super" (by decide)).trans (by first | boot_by_name | rfl | kernel_rfl)) ⟨rfl, ?_⟩)
    refine wpAny_loadName_free T.kind T.fC rfl ⟨_, I.kIn _ _ lcc, rfl⟩ ?_
    rw [hself]
    obtain ⟨m', hn, hl⟩ := id I.loc
    obtain ⟨u, ru, lu⟩ := hl 0 "self" (.ref a) rfl rfl (.inl T.lS)
    obtain rfl : u = Value.ref a := ru
    have hm' : m' "self" = some (.ref a) := by
      rcases lu with ⟨_, e⟩ | ⟨e, _⟩
      · exact e
      · have e : (defScope st).names.lookup ("self" : Str) = some .cell ∨ (defScope st).names.lookup ("self" : Str) = some .free := e
        rw [T.lS] at e
        rcases e with e | e <;> cases e
    refine wpAny_loadName_local T.kind T.lS hn hm' ?_
    obtain ⟨t1, ho⟩ := exo_at I.hok ha
    have hD := I.kIn _ _ hC
    obtain ⟨hh, g, d, tk, os⟩ := s1
    refine ks_wpAny_isType_cls hD rfl ⟨rfl, ?_⟩
    refine ks_wpAny_call_super hD rfl ho rfl (fun c z => by cases z) (PySem.W.looks_mroIn I.kIn Z.sub) (fun h2 e2 keep2 => ?_)
    have I2 := I.kept (t' := tk) keep2
    have ho2 := keep2 _ _ ho
    have J2 : PySem.W.InstAt h2 a { cls := .ref D, dict := none, data := .fields #[.ref t1, .none, .none, .none, .bool false, .none] } D none := ⟨ho2, rfl, rfl, trivial⟩
    have hIs : PySem.W.Looks (model P w) h2 (isInstance (.ref a) (.type "ValueError")) true := J2.type.andThen (PySem.W.looks_subIn I2.kIn Z.isV)
    have hsu := Z.sup
    unfold PySem.W.ks_superIn at hsu
    rw [hcl] at hsu
    refine PySem.W.kxs_getMethod PySem.W.kxs_ValueError e2 (PySem.W.looks_opaque I2.kIn Z.noany) (l₀ := .ref D :: bm) ?_ rfl I2.kIn hsu hIs (PySem.W.ks_ne I2.kIn J2 hcl) (by decide) ?_
    · exact fun A Q E s k q => wpAny_bind ((PySem.W.looks_clsIn I2.kIn hcl) A _ E s k (wpAny_pure q))
    have keep3 : ∀ b o, h2.get? b = some o → (h2.push (PySem.W.kxs_mw "ValueError.__init__" a)).get? b = some o := fun b o z => Heap.get?_push_of_some _ z
    have I3 := I2.kept (t' := tk + 1) keep3
    have I4 : Inv (cxI P w K mg base qual (defScope st) fI cda cc A outer s H) [(h2.objs.size, PySem.W.kxs_mw "ValueError.__init__" a)] [some (.ref a), some (.int i), some (.str (Str.ofString m))] H ⟨h2.push (PySem.W.kxs_mw "ValueError.__init__" a), g, d, tk + 1, os⟩ := I3.pins_of fun p hp => by
      rw [List.mem_singleton] at hp
      subst hp
      refine ⟨Heap.get?_push_size _ rfl, I2.hok.fresh (Nat.le_refl _), Nat.ne_of_gt I2.lt, I2.nofs (Nat.le_refl _), fun v z => by cases z⟩
    refine PySem.W.kxs_callWith (i := "ValueError.__init__") (x := a) (by rfl) (Calls.evalArgs_plain ?_)
    have pj : PJ (cxI P w K mg base qual (defScope st) fI cda cc A outer s H) [.FormattedValue (.Name "message" p3) (-1) none p4, .Constant (.str " at ") j p5, .FormattedValue (.Name "place" p6) (-1) none p7] [tFmt (tVar 2), tC (.str " at "), tFmt (tVar 1)] :=
      .cons (pe_fmt (pe_var rfl (.inl T.lM))) (.cons pe_str (.cons (pe_fmt (pe_var rfl (.inl T.lP))) .nil))
    have pa : PA (cxI P w K mg base qual (defScope st) fI cda cc A outer s H) [.JoinedStr [.FormattedValue (.Name "message" p3) (-1) none p4, .Constant (.str " at ") j p5, .FormattedValue (.Name "place" p6) (-1) none p7] p8] _ := pa_cons (pe_joined pj) pa_nil
    refine wpAny_mono (pa.run p9 [(h2.objs.size, PySem.W.kxs_mw "ValueError.__init__" a)] _ _ H (fun vs H1 => (∃ z, vs = [z]) ∧ H1 = H) I4 ?_) (fun us1 s3 ⟨vs1, H3, I5, r5, ⟨z, ez⟩, eH⟩ => ?_) fun _ _ z => z.elim
    · have lm : (Str.ofString m).length ≤ 1000000 := by rw [ofString_len]; exact m1
      have li : (Str.ofString (toString i)).length ≤ 1000000 := by rw [ofString_len]; exact i2
      have la : (Str.ofString " at ").length = 4 := by rw [ofString_len]; rfl
      have ap : ∀ x y : Str, (x ++ y).length = x.length + y.length := fun x y => Str.length_append x y
      have l0 : Str.empty.length = 0 := rfl
      have ls : sizeLine = 16777216 := line_eq
      have e4 : (Str.empty ++ Str.ofString m ++ Str.ofString " at " ++ Str.ofString (toString i)).length ≤ sizeLine := by rw [ap, ap, ap]; omega
      exact ⟨_, rfl, .inl ⟨_, rfl, by omega, _, rfl, by rw [ap]; omega, _, rfl, by rw [ap, ap]; omega, ⟨_, rfl, .inr ⟨i, rfl, i1, _, rfl, e4, ⟨_, rfl⟩, rfl⟩⟩⟩⟩
    · subst ez; subst eH
      cases r5 with
      | @cons _ u0 _ ur ru rn =>
        cases rn
        refine ⟨(I5.pin (h2.objs.size, PySem.W.kxs_mw "ValueError.__init__" a) (List.mem_append_right _ (List.mem_singleton.mpr rfl))).1, ?_⟩
        obtain ⟨h3, g3, d3, tk3, os3⟩ := s3
        obtain ⟨t3, ho3⟩ := exo_at I5.hok ha
        refine call_vw (I5.kIn _ _ hC) ho3 (I5.pin (h2.objs.size, PySem.W.kxs_mw "ValueError.__init__" a) (List.mem_append_right _ (List.mem_singleton.mpr rfl))).1 (by show 1 ≤ sizeLine; rw [sizeLine_eq]; omega) fun h4 t4 k4 hx4 => ?_
        have J := I5.write (t' := tk3) (x := a) (e := a) (o := exo a D none) (by rw [ha]; exact True.intro) (.inl rfl) k4 ⟨_, hx4⟩ (exo_ok hx4)
        have eu : upd H3 a (exo a D none) = H3 := by
          funext b
          by_cases hb : b = a
          · rw [hb, upd_same, ha]
          · rw [upd_ne hb]
        rw [eu] at J
        refine wpAt_of_wpAny (wpAny_mono ((pss_cons (X := cxI P w K mg base qual (defScope st) fI cda cc A outer s H3) (ps_ost (pe_var (i := 0) rfl (.inl T.lS)) (pe_var (i := 1) rfl (.inl T.lP))) (pss_one (ps_ost (pe_var (i := 0) rfl (.inl T.lS)) (pe_var (i := 2) rfl (.inl T.lM))))).run _ _ _ H3 { nx := fun _ H' => Q .non H', rt := Q } J ?_) (fun f s' hs => ?_) fun _ _ z => z.elim)
        · refine ⟨_, rfl, _, rfl, a, D, rfl, Z.cls, Z.nP, .inl ⟨ha, fun dx hdx hne => ⟨_, rfl, _, rfl, a, D, rfl, Z.cls, Z.nM, .inr ⟨dx, [("place", .int i)], upd_same, ?_, (by show 1 ≤ 900; omega), hq dx hdx hne⟩⟩⟩⟩
          rw [upd_ne hne, upd_same]
        · cases f with
          | ret u =>
            obtain ⟨v, σ', H', J, rv, q⟩ := hs
            exact ⟨v, H', J.os, J.bare, J.base, J.hok, rv, q⟩
          | next =>
            obtain ⟨σ', H', J, q⟩ := hs
            exact ⟨V.non, H', J.os, J.bare, J.base, J.hok, rfl, q⟩
          | brk =>
            obtain ⟨_, _, _, q⟩ := hs
            exact False.elim q
          | cont =>
            obtain ⟨_, _, _, q⟩ := hs
            exact False.elim q
  exact ks_wpAt_mono (lc _) (fun _ _ z => z) fun _ _ z => z.elim
end VS

/-! VS, part 34: raise C(place, message); raise C('..'); a def that is one try. -/
namespace VS
open PySem PySem.Spec PyProof.Rows L2
def noneB (xs : List Expr) : Bool := match xs with | [] => true | _ => false
def mRaise (x : String) : Ms := fun _ sc s => match s with
  | .Raise (some (.Call fn xs [] _)) none _ => if (isBi sc x fn && !noneB xs) = true then some xs else none
  | _ => none
theorem mRaise_shape {x : String} {N : List Str} {sc : Scope} {s : Stmt} {xs : List Expr} (h : mRaise x N sc s = some xs) : ∃ p pos pos' e es, s = .Raise (some (.Call (.Name (Str.ofString x) p) (e :: es) [] pos)) none pos' ∧ xs = e :: es ∧ glB sc (Str.ofString x) = true := by
  unfold mRaise at h
  split at h
  · rename_i fn ys pos pos'
    split at h
    · rename_i hb
      cases h
      obtain ⟨h1, h2⟩ := and_of hb
      obtain ⟨p, rfl, hg⟩ := bi_shape h1
      cases xs with
      | nil => cases h2
      | cons e es => exact ⟨p, pos, pos', e, es, rfl, rfl, hg⟩
    · cases h
  · cases h
def wRaise (x : String) : WS := fun ds _ _ M E => ∃ (i : Int) (m : String), ds = [.int i, .str m] ∧ i.natAbs.log2 < 1920 ∧ (toString i).length ≤ 1000000 ∧ m.length ≤ 1000000 ∧ E x (some [("message", .str m), ("place", .int i)]) M
structure ExFor (G : Glob) (x : String) : Prop where
  ex : ∃ (D fI : Addr) (fd : FuncData), G.mg (Str.ofString x) = some (.ref D) ∧ OexC G.K D ∧ PySem.W.findIn G.K (.ref D) "__init__" = some (some (.ref fI)) ∧ PySem.W.typeIn G.K (.ref fI) = some (.type "function") ∧
    FnOk G.prog G.w G.K G.mg G.base (L2.CX G.prog G.w) 1 fI fd ["self", "place", "message"] (spIni D) ∧ Binds G.K fd ["self", "place", "message"] []
theorem ps_raiseO {G : Glob} {k n : Nat} {x : String} (o : ExFor G x) (hk2 : 2 ≤ k) : PsF G k (mRaise x) (wRaise x) n := ⟨fun {C X} K hG hk {es e xs} hl hm hx ha => by
  subst hG; subst hk
  obtain ⟨p, pos, pos', e0, es0, rfl, rfl, hg⟩ := mRaise_shape hm
  obtain ⟨g1, g2⟩ := gl_of hg
  obtain ⟨D, fI, fd, hmg, T, iC, tI, F0, hb⟩ := o.ex
  have F1 : FnOk X.prog X.w X.K X.mg X.base (L2.CX X.prog X.w) 1 fI fd ["self", "place", "message"] (spIni D) := by
    rw [K.g.prog, K.g.w, K.g.K, K.g.mg, K.g.base]; exact F0
  have T1 : OexC X.K D := by rw [K.g.K]; exact T
  have iC1 : PySem.W.findIn X.K (.ref D) "__init__" = some (some (.ref fI)) := by rw [K.g.K]; exact iC
  have tI1 : PySem.W.typeIn X.K (.ref fI) = some (.type "function") := by rw [K.g.K]; exact tI
  have hb1 : Binds X.K fd ["self", "place", "message"] [] := by rw [K.g.K]; exact hb
  have hm1 : X.mg (Str.ofString x) = some (.ref D) := by rw [K.g.mg]; exact hmg
  obtain ⟨p1, p2⟩ := one_arg K.toCtx hx
  refine PS.imp (ps_raise K.g.calm K.tk (pmk_oex T1 iC1 tI1 F1 (K.room.mono hk2) hb1 .nil passL g1 hm1 (all_pa K.toCtx ha _ hx) g2 (star_of p1) (p2 _))) fun Dn σ H ⟨σd, M, R, F, Kd, s, q, w⟩ => ?_
  refine ⟨σd, M, R, F, _, s, q, fun ds M1 vs F1' H1 hn q1 e1 gd r1 => ?_⟩
  obtain ⟨i, m, rfl, i1, i2, i3, hE⟩ := q1
  cases r1 with
  | cons ra rr =>
    cases ra
    cases rr with
    | cons rb rr =>
      cases rb
      cases rr
      refine ⟨by show 2 ≤ 1000; omega, fun a hfa => ⟨a, i, m, rfl, i1, i2, i3, upd_same, fun dx hdx hne => ?_⟩⟩
      rw [upd_ne hne] at hdx
      refine ⟨rfl, dx, [("message", .str (Str.ofString m)), ("place", .int i)], ?_, upd_same, hdx, ?_⟩
      · rw [upd_ne (Ne.symm hne), upd_same]
      have eh : ∀ o1 o2 o3 o4 o5 : HO, upd (del (upd (upd (upd (upd H1 a o1) dx o2) a o3) dx o4) a) dx o5 = upd H1 dx o5 := fun o1 o2 o3 o4 o5 => by
        funext b
        by_cases h1 : b = dx
        · rw [h1, upd_same, upd_same]
        · rw [upd_ne h1, upd_ne h1]
          by_cases h2 : b = a
          · rw [h2, L2.del_same, hfa]
          · rw [L2.del_ne h2, upd_ne h1, upd_ne h2, upd_ne h1, upd_ne h2]
      rw [eh]
      have hR : R = C.R := by
        rcases s.e with z | z
        · rw [z] at hE; exact hE.elim
        · exact z
      subst hR
      exact ⟨x, _, M1, F1', hE, s.f0.trans e1, gd.side hdx, hmg, ⟨D, rfl⟩, _, upd_same, .cons (.str m) (.cons (.int i) .nil)⟩⟩
/-- raise C('..'), C without fields -/
def mRaise0 (x : String) : Ms := fun _ sc s => match s with
  | .Raise (some (.Call fn [.Constant (.str _) _ _] [] _)) none _ => if isBi sc x fn = true then some [] else none
  | _ => none
def wRaise0 (x : String) : WS := fun _ _ _ M E => E x none M
structure ExFor0 (G : Glob) (x : String) : Prop where
  ex : ∃ (D : Addr) (bm : List Value), G.mg (Str.ofString x) = some (.ref D) ∧ ExcBaseFacts "ValueError" "ValueError.__new__" "ValueError.__init__" bm ∧ PySem.W.excIn G.K D bm "ValueError.__new__" = true ∧ PySem.W.keepIn G.K (.ref D) = true ∧
    PySem.W.subIn G.K (.ref D) (.type "BaseException") = some true ∧ PySem.W.typeIn G.K (.ref D) = some (.type "type")
theorem ps_raise0 {G : Glob} {k n : Nat} {x : String} (o : ExFor0 G x) : PsF G k (mRaise0 x) (wRaise0 x) n := ⟨fun {C X} K hG hk {es e xs} hl hm hx ha => by
  subst hG; subst hk
  unfold mRaise0 at hm
  split at hm
  · rename_i fn m j p2 pos pos'
    split at hm
    · rename_i hb
      cases hm
      obtain ⟨p, rfl, hg⟩ := bi_shape hb
      obtain ⟨g1, g2⟩ := gl_of hg
      obtain ⟨D, bm, hmg, F, q, kC, h1, h2⟩ := o.ex
      cases es with
      | cons _ _ => exact absurd hx Bool.false_ne_true
      | nil =>
        refine PS.imp (ps_raise K.g.calm K.tk (pmk_own (X := X) (C := D) F (by rw [K.g.K]; exact q) (by rw [K.g.mg]; exact hmg) (by rw [K.g.K]; exact kC) (raises_own (by rw [K.g.K]; exact h1) (by rw [K.g.K]; exact h2)) g1 g2)) fun Dn σ H ⟨σd, M, R, F, Kd, s, q, w⟩ => ?_
        have hE : C.E x none M := q
        have hR : R = C.R := by
          rcases s.e with z | z
          · rw [z] at hE; exact hE.elim
          · exact z
        subst hR
        exact ⟨x, none, M, F, hE, s.f0, s.good, hmg, ⟨D, rfl⟩, True.intro⟩
    · cases hm
  · cases hm⟩
theorem takes_len {X : Cx} {W : WX} (t : Takes X W) : Takes X (fun c d σ H => σ.length = X.N.length → W c d σ H) := fun u s' ⟨a, B, sI, pins, σ, H, cls, d, e, I, nb, up, sky, na, os, ag, w⟩ =>
  t u s' ⟨a, B, sI, pins, σ, H, cls, d, e, I, nb, up, sky, na, os, ag, w I.len⟩
/-- the body of a try -/
theorem try_body {G : Glob} {k : Nat} {c : Sts} {B : List Stmt} {X : Cx} {W : WX} {pn : List (Addr × Obj)} {xe : Value → Shared → Prop} (g : CtxG G X) (room : Room k X.A) (kind : X.env.scope.kind = .function) (hfn : ∀ x, X.fn x = true) (stk : X.stack = X.env :: X.outer) (frm : X.env.frame = some X.env.locals)
    (tk : Takes (X.tr pn xe) W) (own : PassesOwn (model X.prog X.w) X.A X.env xe) (hm : isSs X.N X.env.scope c B = true) (ok : okSs G k c) :
    L2.PSs (X.tr pn xe) B (fun D σ H => ∃ C' : Cq, C'.G = G ∧ C'.k = k ∧ (∀ cls d σ' H', excK C' cls d H' → σ'.length = X.N.length → W cls d σ' H') ∧ rSs C' c D σ H) := ⟨fun pins s σ H D I ⟨C', hG, hk, hW, hr⟩ => by
  subst hG; subst hk
  have tk1 := takes_len tk
  have K : CtxS C' (X.tr pn xe) :=
    { g := ⟨g.prog, g.w, g.K, g.mg, g.base, g.calm, g.nd, g.un⟩
      room := room
      pass := passes_call tk1 fun cls d σ H' h => hW cls d σ H' h
      kind := kind
      own := own
      fn := hfn
      tk := tk1.imp fun cls d σ H' h => hW cls d σ H' h
      stk := stk
      frm := frm }
  exact (sSs c K ok B hm).run pins s σ H D I hr⟩
/-- the body of a def's try -/
def tryB (st : Stmt) : List Stmt := match defBody st with | [.Try b _ _ _ _] => b | _ => []
/-- a def that is one try: B, except x as n: return (n.message, n.place) -/
structure ToldText (st : Stmt) (x : String) (n : Str) (B : List Stmt) : Prop where
  ex : ∃ (np pos pos' q1 q2 q3 q4 q5 q6 : Pos) (k : Nat), defBody st = [.Try B [.ExceptHandler (some (.Name (Str.ofString x) np)) (some n) [.Return (some (.Tuple [.Attribute (.Name n q1) "message" q2, .Attribute (.Name n q3) "place" q4] k q5)) q6] pos'] [] [] pos]
/-- what a handler of the class wants to know of it -/
structure HdFor (G : Glob) (x : String) (D : Addr) : Prop where
  mg : G.mg (Str.ofString x) = some (.ref D)
  exm : PySem.W.exmOne G.K (.ref D) (.ref D) = some true
  xf : XfC G.K D
  nM : PySem.W.findIn G.K (.ref D) "message" = some none
  nP : PySem.W.findIn G.K (.ref D) "place" = some none
def EX (x : String) (Q : DK) : XP := fun cl fs M' => cl = x ∧ ∃ (m : String) (i : Int), fs = some [("message", .str m), ("place", .int i)] ∧ Q (.tup [.str m, .int i]) M'
theorem told_ok {G : Glob} {x qual : Str} {st : Stmt} {f : Addr} {fd : FuncData} {N ps : List Str} {k i : Nat} {sp : Spec} {cl : String} {n : Str} {B : List Stmt} {D : Addr} (c : Sts) (Fn : L2.Fun G.K x qual st f fd) (S : FnScope N ps (defScope st))
    (T : ToldText st cl n B) (hN : N[i]? = some n) (hln : (defScope st).names.lookup n = some .local) (hnd : (n == ("__debug__" : Str)) = false) (hnc : (n == ("__classdict__" : Str)) = false) (hg : glB (defScope st) (Str.ofString cl) = true) (Hd : HdFor G cl D) (hm : isSs N (defScope st) c B = true) (ok : okSs G k c)
    (hb1 : ∀ env pos, attributeBase (.Name n pos) "message" env (eval (.Name n pos) env) = eval (.Name n pos) env) (hb2 : ∀ env pos, attributeBase (.Name n pos) "place" env (eval (.Name n pos) env) = eval (.Name n pos) env)
    (hsp : ∀ ds M Q E, ds.length = ps.length → sp ds M Q E → dSs (EX cl Q) c { nx := fun _ _ => False, rt := Q } (startD N.length ds) M) :
    FnOk G.prog G.w G.K G.mg G.base (L2.CX G.prog G.w) (k + 1) f fd ps (toSp G ps.length sp) := by
  refine Fn.okX S (fun vs H Q E ⟨ds, F, M, R, Qd, Ed, hl, g, r, _⟩ => by rw [r.length, hl]) fun cdv A outer s H vs Q E hr ⟨ds, F, M, R, Qd, Ed, hl, g, r, hs, w, wx⟩ => ?_
  obtain ⟨np, pos, pos', q1, q2, q3, q4, q5, q6, kx, hbody⟩ := T.ex
  have gX : CtxG G (cxOf (L2.CX G.prog G.w) G.prog G.w G.K G.mg G.base N qual (defScope st) f cdv A outer s H E) :=
    ⟨rfl, rfl, rfl, rfl, rfl, rfl, S.nd, by have := hr.un; show (A.deeper (envOfC qual (defScope st) s.heap.objs.size f cdv)).units + 65 < cLine; omega⟩
  have hil : i < N.length := (List.getElem?_eq_some_iff.mp hN).1
  obtain ⟨g1, g2⟩ := gl_of (X := cxOf (L2.CX G.prog G.w) G.prog G.w G.K G.mg G.base N qual (defScope st) f cdv A outer s H E) hg
  have nm : Names (cxOf (L2.CX G.prog G.w) G.prog G.w G.K G.mg G.base N qual (defScope st) f cdv A outer s H E) (Str.ofString cl) (.ref D) := ⟨g1, g2, .inl Hd.mg⟩
  rw [hbody]
  refine ⟨_, pss_one (ps_try_as (X := cxOf (L2.CX G.prog G.w) G.prog G.w G.K G.mg G.base N qual (defScope st) f cdv A outer s H E) (Wout := fun _ _ _ _ => False) rfl rfl S.nd hN hln nm takes0
    (fun W pn xe tk own => try_body gX hr S.kind (fun _ => rfl) rfl rfl tk own hm ok)
    (fun a oe cls d pn hz hf => pss_one (ps_ret (pe_tup (pa_cons (pe_xf (C := D) Hd.xf Hd.nM hz hf (pe_var (i := i) hN (.inl hln) hnd hnc) (hb1 _ _)) (pa_cons (pe_xf (C := D) Hd.xf Hd.nP hz hf (pe_var (i := i) hN (.inl hln) hnd hnc) (hb2 _ _)) pa_nil)))))), ?_⟩
  refine ⟨{ G := G, R := R, F0 := F, E := EX cl Qd, k := k }, rfl, rfl, fun cls d σ' H' h hlen => ?_, startD N.length ds, M, R, F, _, ⟨.inr rfl, Ex.refl F, ?_, g⟩, hsp ds M Qd Ed hl hs, ?_⟩
  · obtain ⟨c', fs, M', F', ⟨rfl, m, j, rfl, hq⟩, ex, gd, hmg, _, hd⟩ := h
    have hmg' : G.mg (Str.ofString c') = some cls := hmg
    rw [Hd.mg] at hmg'
    cases hmg'
    cases d with
    | none => exact hd.elim
    | some da =>
      obtain ⟨xfs, hx, rf⟩ := hd
      cases rf with
      | cons rm rr =>
        cases rm
        cases rr with
        | cons rj rr =>
          cases rj
          cases rr
          refine ⟨true, Hd.exm, fun _ a ha => ?_, fun z => by cases z⟩
          have hv : (σ'.set i (some (V.ref a)))[i]? = some (some (.ref a)) := by rw [List.getElem?_set_self (by rw [hlen]; exact hil)]
          refine ⟨_, hv, rfl, rfl, da, _, .str (Str.ofString m), rfl, hx, rfl, _, hv, rfl, rfl, da, _, .int j, rfl, hx, rfl, ?_⟩
          refine ⟨by show 2 ≤ sizeLine; rw [sizeLine_eq]; omega, fun p hp => ?_⟩
          exact (w.mono ex).new gd hp (rp_new_tup (gd.fresh hp).2.1 (.cons (.str m) (.cons (.int j) .nil))) hq
  · have := env_start (G := G) (N.length - ds.length) r
    unfold startD L2.start
    rw [r.length]
    exact this
  · exact ⟨fun _ _ _ _ _ q => q.elim, fun d M v F' H' q e g r => w d M v F' H' q e g r, fun _ _ _ _ _ q => q.elim, fun _ _ _ _ _ q => q.elim⟩
end VS

/-! VS, part 35: texts with a character that belongs to no token; the fields of a text's error. -/
namespace VS
open PySem PySem.Spec PyProof.Rows L2
/-- the first character that belongs to no token stands at e -/
inductive LexB (S : List Char) : List Char → Nat → Nat → Prop
  | bad {c : Char} {r : List Char} {p : Nat} : isLet c = false → c ∉ S → c ≠ ' ' → c ≠ '\n' → LexB S (c :: r) p p
  | ws {c : Char} {r : List Char} {p e : Nat} : (c = ' ' ∨ c = '\n') → LexB S r (p + 1) e → LexB S (c :: r) p e
  | sign {c : Char} {r : List Char} {p e : Nat} : c ∈ S → isLet c = false → LexB S r (p + 1) e → LexB S (c :: r) p e
  | word {w r : List Char} {p e : Nat} : w ≠ [] → (∀ c ∈ w, isLet c = true) → (∀ c r', r = c :: r' → isLet c = false) → LexB S r (p + w.length) e → LexB S (w ++ r) p e
theorem LexB.le {S : List Char} {l : List Char} {p e : Nat} (h : LexB S l p e) : e < p + l.length := by
  induction h with
  | bad _ _ _ _ => rw [List.length_cons]; omega
  | ws _ _ ih => rw [List.length_cons]; omega
  | sign _ _ _ ih => rw [List.length_cons]; omega
  | word hw _ _ _ ih => rw [List.length_append]; omega
/-- fewer signs: the same tokens, or a first one that is none -/
theorem Lex.less {S T : List Char} (hST : ∀ c ∈ S, c ∈ T ∨ (c ∉ T ∧ c ≠ ' ' ∧ c ≠ '\n')) {l : List Char} {p : Nat} {ts : List Tk} (h : Lex S l p ts) :
    ((∀ t ∈ ts, t.w = true ∨ ∃ c ∈ T, t.v = String.singleton c) ∧ Lex T l p ts) ∨ ∃ d t r, ts = d ++ t :: r ∧ (∀ t ∈ d, t.w = true ∨ ∃ c ∈ T, t.v = String.singleton c) ∧ t.w = false ∧ (∀ c ∈ T, t.v ≠ String.singleton c) ∧ LexB T l p t.at_ := by
  induction h with
  | nil => exact .inl ⟨fun t h => (by cases h), .nil⟩
  | ws hc _ ih =>
    rcases ih with ⟨a, b⟩ | ⟨d, t, r, e, a, b1, b, c⟩
    · exact .inl ⟨a, .ws hc b⟩
    · exact .inr ⟨d, t, r, e, a, b1, b, .ws hc c⟩
  | @sign c r p ts hc hl _ ih =>
    rcases hST c hc with hT | ⟨hT, n1, n2⟩
    · rcases ih with ⟨a, b⟩ | ⟨d, t, r, e, a, b1, b, c'⟩
      · refine .inl ⟨fun t ht => ?_, .sign hT hl b⟩
        rcases List.mem_cons.mp ht with rfl | ht
        · exact .inr ⟨c, hT, rfl⟩
        · exact a t ht
      · refine .inr ⟨_ :: d, t, r, by rw [e]; rfl, fun t ht => ?_, b1, b, .sign hT hl c'⟩
        rcases List.mem_cons.mp ht with rfl | ht
        · exact .inr ⟨c, hT, rfl⟩
        · exact a t ht
    · refine .inr ⟨[], _, ts, rfl, fun t h => (by cases h), rfl, fun c' hc' z => ?_, .bad hl hT n1 n2⟩
      have : c = c' := by
        have := congrArg String.toList z
        simpa using this
      subst this
      exact hT hc'
  | word hw hl hr _ ih =>
    rcases ih with ⟨a, b⟩ | ⟨d, t, r, e, a, b1, b, c⟩
    · refine .inl ⟨fun t ht => ?_, .word hw hl hr b⟩
      rcases List.mem_cons.mp ht with rfl | ht
      · exact .inl rfl
      · exact a t ht
    · refine .inr ⟨_ :: d, t, r, by rw [e]; rfl, fun t ht => ?_, b1, b, .word hw hl hr c⟩
      rcases List.mem_cons.mp ht with rfl | ht
      · exact .inl rfl
      · exact a t ht
theorem Lex.at_lt {S : List Char} {l : List Char} {p : Nat} {ts : List Tk} (h : Lex S l p ts) : ∀ t ∈ ts, t.at_ < p + l.length := by
  induction h with
  | nil => intro t h; cases h
  | ws _ _ ih => intro t ht; have := ih t ht; rw [List.length_cons]; omega
  | sign _ _ _ ih =>
    intro t ht
    rw [List.length_cons]
    rcases List.mem_cons.mp ht with rfl | ht
    · show _ < _; dsimp only; omega
    · have := ih t ht; omega
  | word hw _ _ _ ih =>
    intro t ht
    rw [List.length_append]
    have := List.length_pos_iff.mpr hw
    rcases List.mem_cons.mp ht with rfl | ht
    · show _ < _; dsimp only; omega
    · have := ih t ht; omega
theorem Lex.v_le {S : List Char} {l : List Char} {p : Nat} {ts : List Tk} (h : Lex S l p ts) : ∀ t ∈ ts, t.v.length ≤ l.length := by
  induction h with
  | nil => intro t h; cases h
  | ws _ _ ih => intro t ht; have := ih t ht; rw [List.length_cons]; omega
  | sign _ _ _ ih =>
    intro t ht
    rw [List.length_cons]
    rcases List.mem_cons.mp ht with rfl | ht
    · show (String.singleton _).length ≤ _; rw [show ∀ c : Char, (String.singleton c).length = 1 from fun c => by rw [← String.length_toList]; simp]; omega
    · have := ih t ht; omega
  | word hw _ _ _ ih =>
    intro t ht
    rw [List.length_append]
    rcases List.mem_cons.mp ht with rfl | ht
    · show (String.ofList _).length ≤ _; rw [← String.length_toList, String.toList_ofList]; omega
    · have := ih t ht; omega
def errF (m : String) (e : Nat) : Option (List (String × D)) := some [("message", .str m), ("place", .int (e : Int))]
theorem small_nat {n : Nat} (h : n ≤ 100000) : (n : Int).natAbs.log2 < 1920 ∧ (toString (n : Int)).length ≤ 1000000 := by
  refine ⟨?_, ?_⟩
  · have : (n : Int).natAbs = n := rfl
    rw [this]
    have h2 : n < 2 ^ 20 := by omega
    by_cases h0 : n = 0
    · subst h0; decide
    · have := (Nat.log2_lt h0).mpr h2
      omega
  · have h10 : (n : Int) < 10 ^ 10 := by
      have : (10 : Int) ^ 10 = 10000000000 := by decide
      rw [this]; omega
    have := PyProof.Rows.toString_length_le (v := (n : Int)) (k := 10) (by omega) (by decide) h10
    rw [ofString_len] at this
    omega
theorem w_raise {x m : String} {e : Nat} {K : EndsD} {σ : Env} {M : Store} {E : XP} (h : e ≤ 100000) (hm : m.length ≤ 100) (q : E x (errF m e) M) : wRaise x [.int (e : Int), .str m] K σ M E :=
  ⟨e, m, rfl, (small_nat h).1, (small_nat h).2, by omega, q⟩
/-- both: the tokens up to the end, or up to the first character that belongs to none -/
inductive LexO (S : List Char) : List Char → Nat → List Tk → Option Nat → Prop
  | nil {p : Nat} : LexO S [] p [] none
  | bad {c : Char} {r : List Char} {p : Nat} : isLet c = false → c ∉ S → c ≠ ' ' → c ≠ '\n' → LexO S (c :: r) p [] (some p)
  | ws {c : Char} {r : List Char} {p : Nat} {ts : List Tk} {o : Option Nat} : (c = ' ' ∨ c = '\n') → LexO S r (p + 1) ts o → LexO S (c :: r) p ts o
  | sign {c : Char} {r : List Char} {p : Nat} {ts : List Tk} {o : Option Nat} : c ∈ S → isLet c = false → LexO S r (p + 1) ts o → LexO S (c :: r) p (⟨false, String.singleton c, p⟩ :: ts) o
  | word {w r : List Char} {p : Nat} {ts : List Tk} {o : Option Nat} : w ≠ [] → (∀ c ∈ w, isLet c = true) → (∀ c r', r = c :: r' → isLet c = false) → LexO S r (p + w.length) ts o → LexO S (w ++ r) p (⟨true, String.ofList w, p⟩ :: ts) o
theorem Lex.o {S : List Char} {l : List Char} {p : Nat} {ts : List Tk} (h : Lex S l p ts) : LexO S l p ts none := by
  induction h with
  | nil => exact .nil
  | ws a _ ih => exact .ws a ih
  | sign a b _ ih => exact .sign a b ih
  | word a b c _ ih => exact .word a b c ih
theorem LexB.o {S : List Char} {l : List Char} {p e : Nat} (h : LexB S l p e) : ∃ ts, LexO S l p ts (some e) := by
  induction h with
  | bad a b c d => exact ⟨[], .bad a b c d⟩
  | ws a _ ih => obtain ⟨ts, z⟩ := ih; exact ⟨ts, .ws a z⟩
  | sign a b _ ih => obtain ⟨ts, z⟩ := ih; exact ⟨_, .sign a b z⟩
  | word a b c _ ih => obtain ⟨ts, z⟩ := ih; exact ⟨_, .word a b c z⟩
theorem LexO.len {S : List Char} {l : List Char} {p : Nat} {ts : List Tk} {o : Option Nat} (h : LexO S l p ts o) : ts.length ≤ l.length := by
  induction h with
  | nil => exact Nat.le_refl _
  | bad _ _ _ _ => exact Nat.zero_le _
  | ws _ _ ih => rw [List.length_cons]; omega
  | sign _ _ _ ih => rw [List.length_cons, List.length_cons]; omega
  | word hw _ _ _ ih =>
    rw [List.length_append, List.length_cons]
    have := List.length_pos_iff.mpr hw
    omega
end VS

/-! VS, part 36: how far contents are read, whatever the tokens are. -/
namespace VS
open PySem PySem.Spec PyProof.Rows L2
def startB (l : List String) : Bool := match l with | x :: _ => wordB x || decide (x = "(") | [] => false
def sufB (l : List String) : Bool := match l with | x :: _ => decide (x ∈ ["*", "+", "?"]) | [] => false
def isHd (s : String) (l : List String) : Bool := match l with | x :: _ => decide (x = s) | [] => false
def nmB8 (l : List String) : Bool := match l with | x :: _ => wordB x && decide (x.length ≤ 8) | [] => false
/-- level, depth, tokens ahead; whether it is read; how many tokens are taken (a failure is at the next one) -/
inductive Pr : Nat → Nat → List String → Bool → Nat → Prop
  | wd {n : Nat} {l : List String} : isHd "(" l = false → nmB8 l = true → Pr 0 (n + 1) l true 1
  | no {n : Nat} {l : List String} : isHd "(" l = false → nmB8 l = false → Pr 0 (n + 1) l false 0
  | em {n : Nat} {l : List String} : isHd "(" l = true → isHd ")" (l.drop 1) = true → Pr 0 (n + 1) l true 2
  | par {n c : Nat} {l : List String} : isHd "(" l = true → isHd ")" (l.drop 1) = false → Pr 3 n (l.drop 1) true c → isHd ")" (l.drop (1 + c)) = true → Pr 0 (n + 1) l true (1 + c + 1)
  | parN {n c : Nat} {l : List String} : isHd "(" l = true → isHd ")" (l.drop 1) = false → Pr 3 n (l.drop 1) true c → isHd ")" (l.drop (1 + c)) = false → Pr 0 (n + 1) l false (1 + c)
  | parB {n c : Nat} {l : List String} : isHd "(" l = true → isHd ")" (l.drop 1) = false → Pr 3 n (l.drop 1) false c → Pr 0 (n + 1) l false (1 + c)
  | aN {n c : Nat} {l : List String} : Pr 0 n l false c → Pr 1 n l false c
  | aS {n c : Nat} {l : List String} : Pr 0 n l true c → sufB (l.drop c) = true → Pr 1 n l true (c + 1)
  | aP {n c : Nat} {l : List String} : Pr 0 n l true c → sufB (l.drop c) = false → Pr 1 n l true c
  | rN {n c : Nat} {l : List String} : Pr 1 n l false c → Pr 2 n l false c
  | rE {n c : Nat} {l : List String} : Pr 1 n l true c → startB (l.drop c) = false → Pr 2 n l true c
  | rM {n c c' : Nat} {b : Bool} {l : List String} : Pr 1 n l true c → startB (l.drop c) = true → Pr 2 n (l.drop c) b c' → Pr 2 n l b (c + c')
  | cN {n c : Nat} {l : List String} : Pr 2 n l false c → Pr 3 n l false c
  | cE {n c : Nat} {l : List String} : Pr 2 n l true c → isHd "|" (l.drop c) = false → Pr 3 n l true c
  | cM {n c c' : Nat} {b : Bool} {l : List String} : Pr 2 n l true c → isHd "|" (l.drop c) = true → Pr 3 n (l.drop (c + 1)) b c' → Pr 3 n l b (c + 1 + c')
theorem hd_len {s : String} {l : List String} (h : isHd s l = true) : 0 < l.length := by
  cases l with
  | nil => cases h
  | cons _ _ => exact Nat.succ_pos _
theorem Pr.le {lv n c : Nat} {l : List String} {b : Bool} (h : Pr lv n l b c) : c ≤ l.length ∧ (b = true → 1 ≤ c) := by
  induction h with
  | @wd n l _ h =>
    cases l with
    | nil => cases h
    | cons _ _ => exact ⟨by rw [List.length_cons]; omega, fun _ => Nat.le_refl _⟩
  | no _ _ => exact ⟨Nat.zero_le _, fun z => by cases z⟩
  | @em n l h1 h2 =>
    have := hd_len h2
    rw [List.length_drop] at this
    exact ⟨by omega, fun _ => by omega⟩
  | @par n c l h1 _ _ h2 _ =>
    have := hd_len h2
    rw [List.length_drop] at this
    exact ⟨by omega, fun _ => by omega⟩
  | @parN n c l h1 _ _ _ ih =>
    have := hd_len h1
    have := ih.1
    rw [List.length_drop] at this
    exact ⟨by omega, fun z => by cases z⟩
  | @parB n c l h1 _ _ ih =>
    have := hd_len h1
    have := ih.1
    rw [List.length_drop] at this
    exact ⟨by omega, fun z => by cases z⟩
  | aN _ ih => exact ih
  | @aS n c l _ h ih =>
    have : 0 < (l.drop c).length := by
      cases e : l.drop c with
      | nil => rw [e] at h; cases h
      | cons _ _ => exact Nat.succ_pos _
    rw [List.length_drop] at this
    exact ⟨by omega, fun _ => by omega⟩
  | aP _ _ ih => exact ih
  | rN _ ih => exact ih
  | rE _ _ ih => exact ih
  | @rM n c c' b l _ _ _ ih1 ih2 =>
    have := ih2.1
    rw [List.length_drop] at this
    have := ih1.2 rfl
    exact ⟨by omega, fun _ => by omega⟩
  | cN _ ih => exact ih
  | cE _ _ ih => exact ih
  | @cM n c c' b l _ h _ ih1 ih2 =>
    have := ih2.1
    have h' := hd_len h
    rw [List.length_drop] at this h'
    exact ⟨by omega, fun _ => by omega⟩
theorem Pr.pos {lv n c : Nat} {l : List String} {b : Bool} (h : Pr lv n l b c) : 0 < n := by
  induction h <;> first | exact Nat.succ_pos _ | assumption
/-- a content as data: enough of it to put it together with others -/
def CtOk (m : Nat) (d : D) : Prop := ∃ h rest, d = .tup (.str h :: rest) ∧ (h = "row" ∨ h = "choice" → ∃ xs, rest = [.tup xs] ∧ xs.length ≤ m)
theorem CtOk.mono {m k : Nat} {d : D} (h : CtOk m d) (l : m ≤ k) : CtOk k d := by
  obtain ⟨s, r, e, z⟩ := h
  exact ⟨s, r, e, fun y => by obtain ⟨xs, a, b⟩ := z y; exact ⟨xs, a, Nat.le_trans b l⟩⟩
inductive CtsOk : List Nat → List D → Prop
  | nil : CtsOk [] []
  | cons {m : Nat} {d : D} {ms : List Nat} {ds : List D} : 1 ≤ m → CtOk m d → CtsOk ms ds → CtsOk (m :: ms) (d :: ds)
theorem CtsOk.snoc {m : Nat} {d : D} : ∀ {ms : List Nat} {ds : List D}, CtsOk ms ds → 1 ≤ m → CtOk m d → CtsOk (ms ++ [m]) (ds ++ [d])
  | _, _, .nil, a, b => .cons a b .nil
  | _, _, .cons x y r, a, b => .cons x y (r.snoc a b)
theorem CtsOk.len : ∀ {ms : List Nat} {ds : List D}, CtsOk ms ds → ds.length ≤ ms.sum
  | _, _, .nil => Nat.le_refl _
  | _, _, .cons x _ r => by have := r.len; rw [List.length_cons, List.sum_cons]; omega
theorem CtsOk.get : ∀ {ms : List Nat} {ds : List D} {j : Nat} {d : D}, CtsOk ms ds → ds[j]? = some d → ∃ m, CtOk m d ∧ 1 ≤ m ∧ (ms.take j).sum + m = (ms.take (j + 1)).sum
  | _, _, _, _, .nil, h => by simp at h
  | _, _, 0, _, .cons (m := m) x y r, h => by
    have e := Option.some.inj h
    exact ⟨m, e ▸ y, x, by rw [List.take_succ_cons]; simp⟩
  | _, _, j + 1, _, .cons x y r, h => by
    obtain ⟨m, a, b, c⟩ := r.get (j := j) h
    refine ⟨m, a, b, ?_⟩
    rw [List.take_succ_cons, List.take_succ_cons, List.sum_cons, List.sum_cons]
    omega
/-- the words among some tokens, with their places -/
def uDk (e : String × Nat) : D := .tup [.str e.1, .int (e.2 : Int)]
def wds (all : List Tk) (k c : Nat) : List (String × Nat) := (((all.drop k).take c).filter (·.w)).map fun t => (t.v, t.at_)
theorem wds_zero {all : List Tk} {k : Nat} : wds all k 0 = [] := by unfold wds; rw [List.take_zero]; rfl
theorem wds_add {all : List Tk} {k a b : Nat} : wds all k (a + b) = wds all k a ++ wds all (k + a) b := by
  unfold wds
  rw [List.take_add, List.filter_append, List.map_append, List.drop_drop]
theorem wds_one {all : List Tk} {k : Nat} {t : Tk} (h : all[k]? = some t) : wds all k 1 = if t.w = true then [(t.v, t.at_)] else [] := by
  unfold wds
  have hl := (List.getElem?_eq_some_iff.mp h).1
  have e : all.drop k = t :: all.drop (k + 1) := by
    rw [List.drop_eq_getElem_cons hl]
    rw [(List.getElem?_eq_some_iff.mp h).2]
  rw [e, List.take_succ_cons, List.take_zero]
  cases hw : t.w with
  | true => rw [List.filter_cons_of_pos (by exact hw), if_pos rfl]; rfl
  | false => rw [List.filter_cons_of_neg (by rw [hw]; exact Bool.false_ne_true), if_neg Bool.false_ne_true]; rfl
theorem wds_len {all : List Tk} {k c : Nat} : (wds all k c).length ≤ c := by
  unfold wds
  rw [List.length_map]
  refine Nat.le_trans (List.length_filter_le _ _) ?_
  rw [List.length_take]; omega
/-- the tokens ahead -/
def rst (all : List Tk) (k : Nat) : List String := (all.map (·.v)).drop k
theorem rst_drop {all : List Tk} {k c : Nat} : (rst all k).drop c = rst all (k + c) := by unfold rst; rw [List.drop_drop]
structure Wk (all : List Tk) : Prop where
  w : ∀ t ∈ all, t.w = wordB t.v
theorem rst_nil {all : List Tk} {k : Nat} (h : all[k]? = none) : rst all k = [] := by
  unfold rst
  exact List.drop_eq_nil_of_le (by rw [List.length_map]; exact List.getElem?_eq_none_iff.mp h)
theorem rst_cons {all : List Tk} {k : Nat} {t : Tk} (h : all[k]? = some t) : rst all k = t.v :: rst all (k + 1) := by
  unfold rst
  have hl := (List.getElem?_eq_some_iff.mp h).1
  rw [List.drop_eq_getElem_cons (by rw [List.length_map]; exact hl), List.getElem_map, (List.getElem?_eq_some_iff.mp h).2]
theorem isHd_sg {all : List Tk} {k : Nat} {s : String} (W : Wk all) (hs : wordB s = false) : (match all[k]? with | none => false | some t => !t.w && decide (t.v = s)) = isHd s (rst all k) := by
  cases e : all[k]? with
  | none => rw [rst_nil e]; rfl
  | some t =>
    rw [rst_cons e]
    show (!t.w && decide (t.v = s)) = decide (t.v = s)
    rw [W.w t (List.mem_of_getElem? e)]
    by_cases h : t.v = s
    · rw [h, hs, decide_eq_true rfl]; rfl
    · rw [decide_eq_false h, Bool.and_false]
end VS

/-! VS, part 37: how far rules and schemas are read, whatever the tokens are. -/
namespace VS
open PySem PySem.Spec PyProof.Rows L2
/-- type = name ( -/
def hdR (l : List String) : Bool := nmB8 l && isHd "=" (l.drop 1) && nmB8 (l.drop 2) && isHd "(" (l.drop 3)
inductive Ru (n : Nat) : List String → Bool → Nat → Prop
  | f0 {l : List String} : nmB8 l = false → Ru n l false 0
  | f1 {l : List String} : nmB8 l = true → isHd "=" (l.drop 1) = false → Ru n l false 1
  | f2 {l : List String} : nmB8 l = true → isHd "=" (l.drop 1) = true → nmB8 (l.drop 2) = false → Ru n l false 2
  | f3 {l : List String} : nmB8 l = true → isHd "=" (l.drop 1) = true → nmB8 (l.drop 2) = true → isHd "(" (l.drop 3) = false → Ru n l false 3
  | em {l : List String} : hdR l = true → isHd ")" (l.drop 4) = true → Ru n l true 5
  | cb {l : List String} {c : Nat} : hdR l = true → isHd ")" (l.drop 4) = false → Pr 3 n (l.drop 4) false c → Ru n l false (4 + c)
  | cn {l : List String} {c : Nat} : hdR l = true → isHd ")" (l.drop 4) = false → Pr 3 n (l.drop 4) true c → isHd ")" (l.drop (4 + c)) = false → Ru n l false (4 + c)
  | ck {l : List String} {c : Nat} : hdR l = true → isHd ")" (l.drop 4) = false → Pr 3 n (l.drop 4) true c → isHd ")" (l.drop (4 + c)) = true → Ru n l true (5 + c)
section
variable {n c : Nat} {l : List String} {b : Bool}
theorem hdR_of (h : hdR l = true) : nmB8 l = true ∧ isHd "=" (l.drop 1) = true ∧ nmB8 (l.drop 2) = true ∧ isHd "(" (l.drop 3) = true := by
  unfold hdR at h
  obtain ⟨h, h4⟩ := and_of h
  obtain ⟨h, h3⟩ := and_of h
  obtain ⟨h1, h2⟩ := and_of h
  exact ⟨h1, h2, h3, h4⟩
theorem Ru.i0 (h : Ru n l b c) (e : nmB8 l = false) : b = false ∧ c = 0 := by
  cases h with
  | f0 _ => exact ⟨rfl, rfl⟩
  | f1 a _ => rw [e] at a; cases a
  | f2 a _ _ => rw [e] at a; cases a
  | f3 a _ _ _ => rw [e] at a; cases a
  | em a _ => have := (hdR_of a).1; rw [e] at this; cases this
  | cb a _ _ => have := (hdR_of a).1; rw [e] at this; cases this
  | cn a _ _ _ => have := (hdR_of a).1; rw [e] at this; cases this
  | ck a _ _ _ => have := (hdR_of a).1; rw [e] at this; cases this
theorem Ru.i1 (h : Ru n l b c) (e0 : nmB8 l = true) (e : isHd "=" (l.drop 1) = false) : b = false ∧ c = 1 := by
  cases h with
  | f0 a => rw [e0] at a; cases a
  | f1 _ _ => exact ⟨rfl, rfl⟩
  | f2 _ a _ => rw [e] at a; cases a
  | f3 _ a _ _ => rw [e] at a; cases a
  | em a _ => have := (hdR_of a).2.1; rw [e] at this; cases this
  | cb a _ _ => have := (hdR_of a).2.1; rw [e] at this; cases this
  | cn a _ _ _ => have := (hdR_of a).2.1; rw [e] at this; cases this
  | ck a _ _ _ => have := (hdR_of a).2.1; rw [e] at this; cases this
theorem Ru.i2 (h : Ru n l b c) (e0 : nmB8 l = true) (e1 : isHd "=" (l.drop 1) = true) (e : nmB8 (l.drop 2) = false) : b = false ∧ c = 2 := by
  cases h with
  | f0 a => rw [e0] at a; cases a
  | f1 _ a => rw [e1] at a; cases a
  | f2 _ _ _ => exact ⟨rfl, rfl⟩
  | f3 _ _ a _ => rw [e] at a; cases a
  | em a _ => have := (hdR_of a).2.2.1; rw [e] at this; cases this
  | cb a _ _ => have := (hdR_of a).2.2.1; rw [e] at this; cases this
  | cn a _ _ _ => have := (hdR_of a).2.2.1; rw [e] at this; cases this
  | ck a _ _ _ => have := (hdR_of a).2.2.1; rw [e] at this; cases this
theorem Ru.i3 (h : Ru n l b c) (e0 : nmB8 l = true) (e1 : isHd "=" (l.drop 1) = true) (e2 : nmB8 (l.drop 2) = true) (e : isHd "(" (l.drop 3) = false) : b = false ∧ c = 3 := by
  cases h with
  | f0 a => rw [e0] at a; cases a
  | f1 _ a => rw [e1] at a; cases a
  | f2 _ _ a => rw [e2] at a; cases a
  | f3 _ _ _ _ => exact ⟨rfl, rfl⟩
  | em a _ => have := (hdR_of a).2.2.2; rw [e] at this; cases this
  | cb a _ _ => have := (hdR_of a).2.2.2; rw [e] at this; cases this
  | cn a _ _ _ => have := (hdR_of a).2.2.2; rw [e] at this; cases this
  | ck a _ _ _ => have := (hdR_of a).2.2.2; rw [e] at this; cases this
theorem Ru.i4 (h : Ru n l b c) (e0 : nmB8 l = true) (e1 : isHd "=" (l.drop 1) = true) (e2 : nmB8 (l.drop 2) = true) (e3 : isHd "(" (l.drop 3) = true) :
    (isHd ")" (l.drop 4) = true ∧ b = true ∧ c = 5) ∨ (isHd ")" (l.drop 4) = false ∧ ∃ c0 b0, Pr 3 n (l.drop 4) b0 c0 ∧ ((b0 = false ∧ b = false ∧ c = 4 + c0) ∨ (b0 = true ∧ isHd ")" (l.drop (4 + c0)) = false ∧ b = false ∧ c = 4 + c0) ∨ (b0 = true ∧ isHd ")" (l.drop (4 + c0)) = true ∧ b = true ∧ c = 5 + c0))) := by
  cases h with
  | f0 a => rw [e0] at a; cases a
  | f1 _ a => rw [e1] at a; cases a
  | f2 _ _ a => rw [e2] at a; cases a
  | f3 _ _ _ a => rw [e3] at a; cases a
  | em a z => exact .inl ⟨z, rfl, rfl⟩
  | cb a z p => exact .inr ⟨z, _, _, p, .inl ⟨rfl, rfl, rfl⟩⟩
  | cn a z p y => exact .inr ⟨z, _, _, p, .inr (.inl ⟨rfl, y, rfl, rfl⟩)⟩
  | ck a z p y => exact .inr ⟨z, _, _, p, .inr (.inr ⟨rfl, y, rfl, rfl⟩)⟩
theorem Ru.le (h : Ru n l b c) : c ≤ l.length ∧ (b = true → 5 ≤ c) := by
  have nl : nmB8 l = true → 1 ≤ l.length := fun z => by cases l with | nil => cases z | cons _ _ => exact Nat.succ_pos _
  have n2 : nmB8 (l.drop 2) = true → 3 ≤ l.length := fun z => by
    cases e : l.drop 2 with
    | nil => rw [e] at z; cases z
    | cons x y =>
      have := congrArg List.length e
      rw [List.length_drop, List.length_cons] at this
      omega
  have hl : ∀ (s : String) (j : Nat), isHd s (l.drop j) = true → j + 1 ≤ l.length := fun s j z => by
    have := hd_len z
    rw [List.length_drop] at this; omega
  cases h with
  | f0 a => exact ⟨Nat.zero_le _, fun z => by cases z⟩
  | f1 a _ => exact ⟨nl a, fun z => by cases z⟩
  | f2 a b _ => exact ⟨hl _ _ b, fun z => by cases z⟩
  | f3 a b c _ => exact ⟨n2 c, fun z => by cases z⟩
  | em a z => exact ⟨hl _ _ z, fun _ => Nat.le_refl _⟩
  | cb a z p =>
    have := p.le.1
    have := hl _ _ (hdR_of a).2.2.2
    rw [List.length_drop] at *
    exact ⟨by omega, fun z => by cases z⟩
  | cn a z p _ =>
    have := p.le.1
    have := hl _ _ (hdR_of a).2.2.2
    rw [List.length_drop] at *
    exact ⟨by omega, fun z => by cases z⟩
  | ck a z p y =>
    have := hl _ _ y
    exact ⟨by omega, fun _ => by omega⟩
end
/-- the head of a rule at a place -/
def hdAt (all : List Tk) (k : Nat) : List (String × Nat) := match all[k]? with | some t => [(t.v, t.at_)] | none => []
/-- from the start of a rule on: the types, the words in contents, where the error is -/
inductive Sc (n : Nat) (all : List Tk) : Nat → List (String × Nat) → List (String × Nat) → Option Nat → Prop
  | bad {k c : Nat} : Ru n (rst all k) false c → Sc n all k [] [] (some (k + c))
  | last {k c : Nat} : Ru n (rst all k) true c → all.length = k + c → Sc n all k (hdAt all k) (wds all (k + 4) (c - 5)) none
  | junk {k c : Nat} : Ru n (rst all k) true c → k + c < all.length → isHd ";" (rst all (k + c)) = false → Sc n all k [] [] (some (k + c))
  | more {k c : Nat} {hs us : List (String × Nat)} {o : Option Nat} : Ru n (rst all k) true c → isHd ";" (rst all (k + c)) = true → Sc n all (k + c + 1) hs us o → Sc n all k (hdAt all k ++ hs) (wds all (k + 4) (c - 5) ++ us) o
/-- the first error of the types and words -/
def twice : List String → List (String × Nat) → Option Nat
  | _, [] => none
  | kn, (v, a) :: r => if v ∈ kn then some a else twice (kn ++ [v]) r
def nowhere (kn : List String) : List (String × Nat) → Option Nat
  | [] => none
  | (v, a) :: r => if v ∈ kn then nowhere kn r else some a
def chkO (hs us : List (String × Nat)) (st : Nat) : Option (String × Nat) :=
  match twice [] hs with
  | some a => some ("type twice", a)
  | none => match nowhere (hs.map (·.1)) us with
    | some a => some ("no such type", a)
    | none => if 6 < hs.length then some ("too many types", st) else if 16 < us.length then some ("too many parts", st) else none
end VS

/-! VS, part 38: the law's automaton over the tokens of a schema, plainly. -/
namespace VS
open PySem PySem.Spec PyProof.Rows L2
def frstL (t : String) : Bool := match t.toList with | c :: _ => isLet c | [] => false
def sgX : List String := ["=", "(", ")", "|", ";", "*", "+", "?"]
def tokX (t : String) : Bool := wordB t || decide (t ∈ sgX)
theorem frst_word {t : String} (h : tokX t = true) : frstL t = wordB t := by
  unfold tokX at h
  cases hw : wordB t with
  | true =>
    unfold wordB at hw
    obtain ⟨h1, h2⟩ := and_of hw
    unfold frstL
    cases e : t.toList with
    | nil => rw [e] at h1; cases h1
    | cons c r =>
      rw [e] at h2
      exact (and_of (show (isLet c && r.all isLet) = true from h2)).1
  | false =>
    rw [hw, Bool.false_or] at h
    have h := of_decide_eq_true h
    simp only [sgX, List.mem_cons, List.not_mem_nil, or_false] at h
    rcases h with rfl | rfl | rfl | rfl | rfl | rfl | rfl | rfl <;> decide
structure AuS where
  st : String
  lv : Int
  bf : String
def innB (t b : String) : Bool :=
  if t = ")" then !decide (b = "|") else if t = "|" then !decide (b ∈ ["(", "|"]) else if t ∈ ["*", "+", "?"] then !decide (b ∈ ["(", "|", "*", "+", "?"]) else !decide (t ∈ ["=", ";"])
def nxS (s : String) : String := if s = "=" then "name" else if s = "(" then "inner" else "type"
def lvA (t : String) (lv : Int) : Int := lv + (if t = "(" then 1 else 0) - (if t = ")" then 1 else 0)
def auStep (a : AuS) (t : String) : Option AuS :=
  if 8 < t.length then none
  else if a.st ∈ ["type", "name"] then (if frstL t = true then some ⟨if a.st = "type" then "=" else "(", a.lv, t⟩ else none)
  else if a.st ∈ ["=", "(", ";"] then (if t = a.st then some ⟨nxS a.st, 1, t⟩ else none)
  else if innB t a.bf = true then some ⟨if lvA t a.lv = 0 then ";" else "inner", lvA t a.lv, t⟩ else none
def auRun : AuS → Nat → List String → Int × String
  | a, _, [] => (-1, a.st)
  | a, k, t :: r => match auStep a t with | none => ((k : Int), a.st) | some a' => auRun a' (k + 1) r
def auSteps : AuS → List String → Option AuS
  | a, [] => some a
  | a, t :: r => match auStep a t with | none => none | some a' => auSteps a' r
theorem steps_app : ∀ (l m : List String) (a : AuS), auSteps a (l ++ m) = (auSteps a l).bind fun a' => auSteps a' m
  | [], m, a => rfl
  | t :: l, m, a => by
    show (match auStep a t with | none => none | some a' => auSteps a' (l ++ m)) = _
    cases e : auStep a t with
    | none => show none = (match auStep a t with | none => none | some a' => auSteps a' l).bind _; rw [e]; rfl
    | some a' => show auSteps a' (l ++ m) = (match auStep a t with | none => none | some a' => auSteps a' l).bind _; rw [e]; exact steps_app l m a'
theorem run_steps : ∀ (l m : List String) (a a' : AuS) (k : Nat), auSteps a l = some a' → auRun a k (l ++ m) = auRun a' (k + l.length) m
  | [], m, a, a', k, h => by cases h; rfl
  | t :: l, m, a, a', k, h => by
    have h : (match auStep a t with | none => none | some a' => auSteps a' l) = some a' := h
    show (match auStep a t with | none => ((k : Int), a.st) | some a' => auRun a' (k + 1) (l ++ m)) = _
    cases e : auStep a t with
    | none => rw [e] at h; cases h
    | some a2 =>
      rw [e] at h
      rw [List.length_cons]
      have := run_steps l m a2 a' (k + 1) h
      rw [show k + 1 + l.length = k + (l.length + 1) by omega] at this
      exact this
theorem in_word {t : String} (hw : wordB t = true) (b : String) : innB t b = true := by
  have n : ∀ s, wordB s = false → t ≠ s := fun s hs e => by rw [e, hs] at hw; cases hw
  unfold innB
  rw [if_neg (n _ (by decide)), if_neg (n _ (by decide)), if_neg, decide_eq_false]
  · rfl
  · intro h
    simp only [List.mem_cons, List.not_mem_nil, or_false] at h
    rcases h with rfl | rfl <;> exact absurd hw (by decide)
  · intro h
    simp only [List.mem_cons, List.not_mem_nil, or_false] at h
    rcases h with rfl | rfl | rfl <;> exact absurd hw (by decide)
theorem lv_word {t : String} (hw : wordB t = true) (lv : Int) : lvA t lv = lv := by
  have n : ∀ s, wordB s = false → t ≠ s := fun s hs e => by rw [e, hs] at hw; cases hw
  unfold lvA
  rw [if_neg (n _ (by decide)), if_neg (n _ (by decide))]; omega
theorem step_in {a : AuS} {t : String} (h : a.st = "inner") (h8 : t.length ≤ 8) (hi : innB t a.bf = true) (hl : lvA t a.lv ≠ 0) : auStep a t = some ⟨"inner", lvA t a.lv, t⟩ := by
  unfold auStep
  rw [h, if_neg (by omega), if_neg (by decide), if_neg (by decide), if_pos hi, if_neg hl]
theorem step_no {a : AuS} {t : String} (h : a.st = "inner") (hi : innB t a.bf = false) : auStep a t = none := by
  unfold auStep
  by_cases h8 : 8 < t.length
  · rw [if_pos h8]
  · rw [h, if_neg h8, if_neg (by decide), if_neg (by decide), hi, if_neg Bool.false_ne_true]
theorem step_long {a : AuS} {t : String} (h8 : 8 < t.length) : auStep a t = none := by unfold auStep; rw [if_pos h8]
def sufs : List String := ["*", "+", "?"]
/-- what a content that was read leaves: the last token, and what does not come next -/
def EndS (lv : Nat) (bf : String) (l : List String) : Prop := bf ∉ ["(", "|"] ∧ (lv = 0 → bf ∉ sufs) ∧ (1 ≤ lv → sufB l = true → bf ∈ sufs) ∧ (2 ≤ lv → startB l = false) ∧ (3 ≤ lv → isHd "|" l = false)
/-- what may come where a content begins -/
def BegS (bf : String) (l : List String) : Prop := startB l = true ∨ bf = "|" ∨ (bf = "(" ∧ isHd ")" l = false)
theorem hd_self {s : String} {r : List String} : isHd s (s :: r) = true := decide_eq_true rfl
theorem hd_cons {s : String} {l : List String} (h : isHd s l = true) : ∃ r, l = s :: r := by
  cases l with
  | nil => cases h
  | cons x r => exact ⟨r, by rw [of_decide_eq_true (show decide (x = s) = true from h)]⟩
theorem take_hd {s : String} {l : List String} {c : Nat} (h : isHd s (l.drop c) = true) : l.take (c + 1) = l.take c ++ [s] := by
  obtain ⟨r, e⟩ := hd_cons h
  rw [List.take_add, e]; rfl
theorem beg_no {bf : String} {l : List String} (hb : BegS bf l) (hp : isHd "(" l = false) (hn : nmB8 l = false) (ht : ∀ t ∈ l, tokX t = true) : ∀ x r, l = x :: r → 8 < x.length ∨ innB x bf = false := by
  rintro x r rfl
  by_cases h8 : 8 < x.length
  · exact .inl h8
  right
  have hnw : wordB x = false := by
    cases hw : wordB x with
    | false => rfl
    | true =>
      have : (wordB x && decide (x.length ≤ 8)) = false := hn
      rw [hw, decide_eq_true (by omega)] at this; cases this
  have hx := ht x List.mem_cons_self
  unfold tokX at hx
  rw [hnw, Bool.false_or] at hx
  have hx := of_decide_eq_true hx
  have np : x ≠ "(" := fun e => by subst e; rw [hd_self] at hp; cases hp
  have hns : startB (x :: r) = false := by
    show (wordB x || decide (x = "(")) = false
    rw [hnw, decide_eq_false np]; rfl
  have hbf : bf = "|" ∨ (bf = "(" ∧ x ≠ ")") := by
    rcases hb with z | z | ⟨z, y⟩
    · rw [hns] at z; cases z
    · exact .inl z
    · exact .inr ⟨z, fun e => by subst e; rw [hd_self] at y; cases y⟩
  simp only [sgX, List.mem_cons, List.not_mem_nil, or_false] at hx
  rcases hbf with rfl | ⟨rfl, h2⟩
  · rcases hx with rfl | rfl | rfl | rfl | rfl | rfl | rfl | rfl <;> first | decide | exact absurd rfl np
  · rcases hx with rfl | rfl | rfl | rfl | rfl | rfl | rfl | rfl <;> first | decide | exact absurd rfl np | exact absurd rfl h2
theorem end_no {bf : String} {l : List String} (he : EndS 3 bf l) (hp : isHd ")" l = false) (ht : ∀ t ∈ l, tokX t = true) : ∀ x r, l = x :: r → innB x bf = false := by
  rintro x r rfl
  obtain ⟨e1, _, e3, e4, e5⟩ := he
  have e4 : (wordB x || decide (x = "(")) = false := e4 (by decide)
  have e5 : decide (x = "|") = false := e5 (by decide)
  obtain ⟨hnw, np⟩ : wordB x = false ∧ x ≠ "(" := by
    cases hw : wordB x with
    | true => rw [hw] at e4; cases e4
    | false => rw [hw, Bool.false_or] at e4; exact ⟨rfl, of_decide_eq_false e4⟩
  have hx := ht x List.mem_cons_self
  unfold tokX at hx
  rw [hnw, Bool.false_or] at hx
  have hx := of_decide_eq_true hx
  have n1 : x ≠ ")" := fun e => by subst e; rw [hd_self] at hp; cases hp
  have n2 : x ≠ "|" := of_decide_eq_false e5
  have suf : x ∈ sufs → innB x bf = false := fun hs => by
    have hb : bf ∈ sufs := e3 (by decide) (decide_eq_true hs)
    simp only [sufs, List.mem_cons, List.not_mem_nil, or_false] at hs hb
    rcases hs with rfl | rfl | rfl <;> rcases hb with rfl | rfl | rfl <;> decide
  simp only [sgX, List.mem_cons, List.not_mem_nil, or_false] at hx
  have rest : ∀ b, innB "=" b = false ∧ innB ";" b = false := fun b => ⟨rfl, rfl⟩
  rcases hx with rfl | rfl | rfl | rfl | rfl | rfl | rfl | rfl
  · exact (rest bf).1
  · exact absurd rfl np
  · exact absurd rfl n1
  · exact absurd rfl n2
  · exact (rest bf).2
  · exact suf (by decide)
  · exact suf (by decide)
  · exact suf (by decide)
theorem take_two {l : List String} {c d : Nat} : l.take (c + d) = l.take c ++ (l.drop c).take d := List.take_add
/-- the automaton over what is read of a content -/
theorem Pr.au {lv n c : Nat} {l : List String} {b : Bool} (h : Pr lv n l b c) : ∀ (a : AuS), a.st = "inner" → 1 ≤ a.lv → BegS a.bf l → (∀ t ∈ l, tokX t = true) →
    ∃ a', auSteps a (l.take c) = some a' ∧ a'.st = "inner" ∧ (b = true → a'.lv = a.lv ∧ EndS lv a'.bf (l.drop c)) ∧ (b = false → ∀ x r, l.drop c = x :: r → auStep a' x = none) := by
  have tk : ∀ {l : List String} {k : Nat}, (∀ t ∈ l, tokX t = true) → ∀ t ∈ l.drop k, tokX t = true := fun h t ht => h t (List.mem_of_mem_drop ht)
  have open_ : ∀ (a : AuS), a.st = "inner" → 1 ≤ a.lv → auStep a "(" = some ⟨"inner", a.lv + 1, "("⟩ := fun a h1 h2 => by
    have e : lvA "(" a.lv = a.lv + 1 := by show a.lv + 1 - 0 = _; omega
    have := step_in (a := a) (t := "(") h1 (by decide) rfl (by rw [e]; omega)
    rw [e] at this; exact this
  have close_ : ∀ (a : AuS), a.st = "inner" → 2 ≤ a.lv → a.bf ≠ "|" → auStep a ")" = some ⟨"inner", a.lv - 1, ")"⟩ := fun a h1 h2 h3 => by
    have e : lvA ")" a.lv = a.lv - 1 := by show a.lv + 0 - 1 = _; omega
    have := step_in (a := a) (t := ")") h1 (by decide) (by show (!decide (a.bf = "|")) = true; rw [decide_eq_false h3]; rfl) (by rw [e]; omega)
    rw [e] at this; exact this
  induction h with
  | @wd n l h1 h2 =>
    intro a s1 s2 _ ht
    cases l with
    | nil => cases h2
    | cons x r =>
      obtain ⟨hw, h8⟩ := and_of (show (wordB x && decide (x.length ≤ 8)) = true from h2)
      have h8 := of_decide_eq_true h8
      have ne : ∀ s, wordB s = false → x ≠ s := fun s hs e => by rw [e, hs] at hw; cases hw
      have st := step_in (a := a) (t := x) s1 h8 (in_word hw _) (by rw [lv_word hw]; omega)
      refine ⟨_, by show (match auStep a x with | none => none | some a' => auSteps a' []) = _; rw [st]; rfl, rfl, fun _ => ⟨lv_word hw _, ?_, fun _ => ?_, fun z => by omega, fun z => by omega, fun z => by omega⟩, fun z => by cases z⟩
      · intro hm
        simp only [List.mem_cons, List.not_mem_nil, or_false] at hm
        rcases hm with e | e <;> exact absurd e (ne _ (by decide))
      · intro hm
        simp only [sufs, List.mem_cons, List.not_mem_nil, or_false] at hm
        rcases hm with e | e | e <;> exact absurd e (ne _ (by decide))
  | @no n l h1 h2 =>
    intro a s1 s2 hb ht
    refine ⟨a, rfl, s1, (fun z => by cases z), fun _ x r e => ?_⟩
    rcases beg_no hb h1 h2 ht x r e with z | z
    · exact step_long z
    · exact step_no s1 z
  | @em n l h1 h2 =>
    intro a s1 s2 hb ht
    obtain ⟨r, rfl⟩ := hd_cons h1
    obtain ⟨r', e⟩ := hd_cons h2
    have e : r = ")" :: r' := e
    subst e
    refine ⟨⟨"inner", a.lv + 1 - 1, ")"⟩, ?_, rfl, fun _ => ⟨by show a.lv + 1 - 1 = a.lv; omega, (by show ")" ∉ ["(", "|"]; decide), fun _ => (by show ")" ∉ sufs; decide), fun z => by omega, fun z => by omega, fun z => by omega⟩, fun z => by cases z⟩
    show (match auStep a "(" with | none => none | some a' => (match auStep a' ")" with | none => none | some a' => some a')) = _
    rw [open_ a s1 s2]
    show (match auStep (⟨"inner", a.lv + 1, "("⟩ : AuS) ")" with | none => none | some a' => some a') = _
    rw [close_ _ rfl (by show 2 ≤ a.lv + 1; omega) (by show "(" ≠ "|"; decide)]
  | @par n c l h1 h2 hp h3 ih =>
    intro a s1 s2 hb ht
    obtain ⟨r, rfl⟩ := hd_cons h1
    obtain ⟨a', i1, i2, i3, _⟩ := ih ⟨"inner", a.lv + 1, "("⟩ rfl (by show 1 ≤ a.lv + 1; omega) (.inr (.inr ⟨rfl, h2⟩)) (tk ht)
    obtain ⟨j1, j2⟩ := i3 rfl
    have j1 : a'.lv = a.lv + 1 := j1
    have nb : a'.bf ≠ "|" := fun z => j2.1 (by rw [z]; decide)
    refine ⟨⟨"inner", a'.lv - 1, ")"⟩, ?_, rfl, fun _ => ⟨by show a'.lv - 1 = a.lv; omega, (by show ")" ∉ ["(", "|"]; decide), fun _ => (by show ")" ∉ sufs; decide), fun z => by omega, fun z => by omega, fun z => by omega⟩, fun z => by cases z⟩
    rw [take_hd h3, steps_app]
    have e1 : auSteps a (("(" :: r).take (1 + c)) = some a' := by
      rw [Nat.add_comm]
      show (match auStep a "(" with | none => none | some a' => auSteps a' (r.take c)) = _
      rw [open_ a s1 s2]
      exact i1
    rw [e1]
    show (match auStep a' ")" with | none => none | some a' => some a') = _
    rw [close_ a' i2 (by omega) nb]
  | @parN n c l h1 h2 hp h3 ih =>
    intro a s1 s2 hb ht
    obtain ⟨r, rfl⟩ := hd_cons h1
    obtain ⟨a', i1, i2, i3, _⟩ := ih ⟨"inner", a.lv + 1, "("⟩ rfl (by show 1 ≤ a.lv + 1; omega) (.inr (.inr ⟨rfl, h2⟩)) (tk ht)
    obtain ⟨j1, j2⟩ := i3 rfl
    refine ⟨a', ?_, i2, (fun z => by cases z), fun _ x r' e => step_no i2 (end_no (l := ("(" :: r).drop (1 + c)) ?_ h3 (tk ht) x r' e)⟩
    · rw [Nat.add_comm]
      show (match auStep a "(" with | none => none | some a' => auSteps a' (r.take c)) = _
      rw [open_ a s1 s2]
      exact i1
    · rw [← List.drop_drop]; exact j2
  | @parB n c l h1 h2 hp ih =>
    intro a s1 s2 hb ht
    obtain ⟨r, rfl⟩ := hd_cons h1
    obtain ⟨a', i1, i2, _, i4⟩ := ih ⟨"inner", a.lv + 1, "("⟩ rfl (by show 1 ≤ a.lv + 1; omega) (.inr (.inr ⟨rfl, h2⟩)) (tk ht)
    refine ⟨a', ?_, i2, (fun z => by cases z), fun _ x r' e => i4 rfl x r' (by rw [List.drop_drop]; exact e)⟩
    rw [Nat.add_comm]
    show (match auStep a "(" with | none => none | some a' => auSteps a' (r.take c)) = _
    rw [open_ a s1 s2]
    exact i1
  | aN hp ih =>
    intro a s1 s2 hb ht
    obtain ⟨a', i1, i2, _, i4⟩ := ih a s1 s2 hb ht
    exact ⟨a', i1, i2, fun z => (by cases z), i4⟩
  | @aS n c l hp hs ih =>
    intro a s1 s2 hb ht
    obtain ⟨a', i1, i2, i3, _⟩ := ih a s1 s2 hb ht
    obtain ⟨j1, j2⟩ := i3 rfl
    cases e : l.drop c with
    | nil => rw [e] at hs; cases hs
    | cons x r =>
      rw [e] at hs
      have hx : x ∈ sufs := of_decide_eq_true hs
      have nb : a'.bf ∉ ["(", "|", "*", "+", "?"] := fun hm => by
        have n1 := j2.1
        have n2 := j2.2.1 rfl
        simp only [sufs, List.mem_cons, List.not_mem_nil, or_false, not_or] at n1 n2 hm
        rcases hm with z | z | z | z | z
        · exact n1.1 z
        · exact n1.2 z
        · exact n2.1 z
        · exact n2.2.1 z
        · exact n2.2.2 z
      have inx : innB x a'.bf = true := by
        have key : innB x a'.bf = !decide (a'.bf ∈ ["(", "|", "*", "+", "?"]) := by
          simp only [sufs, List.mem_cons, List.not_mem_nil, or_false] at hx
          rcases hx with rfl | rfl | rfl <;> rfl
        rw [key, decide_eq_false nb]; rfl
      have lvx : lvA x a'.lv = a'.lv := by
        simp only [sufs, List.mem_cons, List.not_mem_nil, or_false] at hx
        rcases hx with rfl | rfl | rfl <;> (show a'.lv + 0 - 0 = _; omega)
      have h8 : x.length ≤ 8 := by
        simp only [sufs, List.mem_cons, List.not_mem_nil, or_false] at hx
        rcases hx with rfl | rfl | rfl <;> decide
      have st := step_in (a := a') (t := x) i2 h8 inx (by rw [lvx, j1]; omega)
      refine ⟨⟨"inner", lvA x a'.lv, x⟩, ?_, rfl, fun _ => ⟨by show lvA x a'.lv = a.lv; rw [lvx, j1], ?_, fun z => by omega, fun _ _ => hx, fun z => by omega, fun z => by omega⟩, fun z => by cases z⟩
      · rw [take_two, steps_app, i1, e]
        show (match auStep a' x with | none => none | some a' => some a') = _
        rw [st]
      · show x ∉ ["(", "|"]
        simp only [sufs, List.mem_cons, List.not_mem_nil, or_false] at hx
        rcases hx with rfl | rfl | rfl <;> decide
  | @aP n c l hp hs ih =>
    intro a s1 s2 hb ht
    obtain ⟨a', i1, i2, i3, i4⟩ := ih a s1 s2 hb ht
    refine ⟨a', i1, i2, fun _ => ?_, fun z => by cases z⟩
    obtain ⟨j1, j2⟩ := i3 rfl
    exact ⟨j1, j2.1, fun z => by omega, (fun _ z => by rw [hs] at z; cases z), fun z => by omega, fun z => by omega⟩
  | rN hp ih =>
    intro a s1 s2 hb ht
    obtain ⟨a', i1, i2, _, i4⟩ := ih a s1 s2 hb ht
    exact ⟨a', i1, i2, fun z => (by cases z), i4⟩
  | rE hp hs ih =>
    intro a s1 s2 hb ht
    obtain ⟨a', i1, i2, i3, i4⟩ := ih a s1 s2 hb ht
    refine ⟨a', i1, i2, fun _ => ?_, fun z => by cases z⟩
    obtain ⟨j1, j2⟩ := i3 rfl
    exact ⟨j1, j2.1, fun z => by omega, fun _ => j2.2.2.1 (by decide), fun _ => hs, fun z => by omega⟩
  | @rM n c c' b l hp hs hp2 ih1 ih2 =>
    intro a s1 s2 hb ht
    obtain ⟨a1, i1, i2, i3, _⟩ := ih1 a s1 s2 hb ht
    obtain ⟨j1, j2⟩ := i3 rfl
    obtain ⟨a2, k1, k2, k3, k4⟩ := ih2 a1 i2 (by omega) (.inl hs) (tk ht)
    refine ⟨a2, by rw [take_two, steps_app, i1]; exact k1, k2, fun eb => ?_, fun eb x r e => k4 eb x r (by rw [List.drop_drop]; exact e)⟩
    obtain ⟨z1, z2⟩ := k3 eb
    rw [← List.drop_drop]
    exact ⟨by rw [z1, j1], z2⟩
  | cN hp ih =>
    intro a s1 s2 hb ht
    obtain ⟨a', i1, i2, _, i4⟩ := ih a s1 s2 hb ht
    exact ⟨a', i1, i2, fun z => (by cases z), i4⟩
  | cE hp hs ih =>
    intro a s1 s2 hb ht
    obtain ⟨a', i1, i2, i3, i4⟩ := ih a s1 s2 hb ht
    refine ⟨a', i1, i2, fun _ => ?_, fun z => by cases z⟩
    obtain ⟨j1, j2⟩ := i3 rfl
    exact ⟨j1, j2.1, fun z => by omega, fun _ => j2.2.2.1 (by decide), fun _ => j2.2.2.2.1 (by decide), fun _ => hs⟩
  | @cM n c c' b l hp hs hp2 ih1 ih2 =>
    intro a s1 s2 hb ht
    obtain ⟨a1, i1, i2, i3, _⟩ := ih1 a s1 s2 hb ht
    obtain ⟨j1, j2⟩ := i3 rfl
    have lvx : lvA "|" a1.lv = a1.lv := by show a1.lv + 0 - 0 = _; omega
    have st := step_in (a := a1) (t := "|") i2 (by decide) (by show (!decide (a1.bf ∈ ["(", "|"])) = true; rw [decide_eq_false j2.1]; rfl) (by rw [lvx]; omega)
    obtain ⟨a2, k1, k2, k3, k4⟩ := ih2 ⟨"inner", lvA "|" a1.lv, "|"⟩ rfl (by show 1 ≤ lvA "|" a1.lv; rw [lvx]; omega) (.inr (.inl rfl)) (tk ht)
    refine ⟨a2, ?_, k2, fun eb => ?_, fun eb x r e => k4 eb x r (by rw [List.drop_drop]; exact e)⟩
    · rw [take_two, steps_app, take_hd hs, steps_app, i1]
      show ((match auStep a1 "|" with | none => none | some a' => some a').bind _) = _
      rw [st]
      exact k1
    · obtain ⟨z1, z2⟩ := k3 eb
      rw [← List.drop_drop]
      exact ⟨by rw [z1]; show lvA "|" a1.lv = _; rw [lvx, j1], z2⟩
end VS

/-! VS, part 39: the law's automaton over rules and schemas; the words. -/
namespace VS
open PySem PySem.Spec PyProof.Rows L2
theorem steps_one {a a' : AuS} {t : String} (h : auStep a t = some a') : auSteps a [t] = some a' := by
  show (match auStep a t with | none => none | some a' => some a') = _
  rw [h]
theorem step_nm {a : AuS} {t : String} (h : a.st = "type" ∨ a.st = "name") (h8 : t.length ≤ 8) (hf : frstL t = true) : auStep a t = some ⟨if a.st = "type" then "=" else "(", a.lv, t⟩ := by
  unfold auStep
  rw [if_neg (by omega), if_pos (by rcases h with e | e <;> rw [e] <;> decide), if_pos hf]
theorem step_nm0 {a : AuS} {t : String} (h : a.st = "type" ∨ a.st = "name") (hf : 8 < t.length ∨ frstL t = false) : auStep a t = none := by
  unfold auStep
  by_cases h8 : 8 < t.length
  · rw [if_pos h8]
  · rcases hf with z | z
    · exact absurd z h8
    · rw [if_neg h8, if_pos (by rcases h with e | e <;> rw [e] <;> decide), z, if_neg Bool.false_ne_true]
theorem step_sg {a : AuS} {t : String} (h : a.st = "=" ∨ a.st = "(" ∨ a.st = ";") (e : t = a.st) : auStep a t = some ⟨nxS a.st, 1, t⟩ := by
  unfold auStep
  have hl : t.length ≤ 8 := by rw [e]; rcases h with e | e | e <;> rw [e] <;> decide
  rw [if_neg (by omega), if_neg (by rcases h with e | e | e <;> rw [e] <;> decide), if_pos (by rcases h with e | e | e <;> rw [e] <;> decide), if_pos e]
theorem step_sg0 {a : AuS} {t : String} (h : a.st = "=" ∨ a.st = "(" ∨ a.st = ";") (e : t ≠ a.st) : auStep a t = none := by
  unfold auStep
  by_cases h8 : 8 < t.length
  · rw [if_pos h8]
  · rw [if_neg h8, if_neg (by rcases h with e | e | e <;> rw [e] <;> decide), if_pos (by rcases h with e | e | e <;> rw [e] <;> decide), if_neg e]
theorem nm_cons {l : List String} (h : nmB8 l = true) : ∃ x r, l = x :: r ∧ wordB x = true ∧ x.length ≤ 8 := by
  cases l with
  | nil => cases h
  | cons x r =>
    obtain ⟨h1, h2⟩ := and_of (show (wordB x && decide (x.length ≤ 8)) = true from h)
    exact ⟨x, r, rfl, h1, of_decide_eq_true h2⟩
theorem nm_step {a : AuS} {l : List String} (hs : a.st = "type" ∨ a.st = "name") (h : nmB8 l = false) (ht : ∀ t ∈ l, tokX t = true) : ∀ x r, l = x :: r → auStep a x = none := by
  rintro x r rfl
  have h : (wordB x && decide (x.length ≤ 8)) = false := h
  refine step_nm0 hs ?_
  by_cases h8 : 8 < x.length
  · exact .inl h8
  · right
    rw [frst_word (ht x List.mem_cons_self)]
    rw [decide_eq_true (by omega), Bool.and_true] at h
    exact h
theorem sg_step {a : AuS} {l : List String} {s : String} (hs : a.st = s) (h3 : s = "=" ∨ s = "(" ∨ s = ";") (h : isHd s l = false) : ∀ x r, l = x :: r → auStep a x = none := by
  rintro x r rfl
  refine step_sg0 (by rw [hs]; exact h3) ?_
  rw [hs]
  exact of_decide_eq_false h
/-- the head of a rule: the automaton stands within the parentheses -/
theorem hdR_au {l : List String} (h : hdR l = true) (ht : ∀ t ∈ l, tokX t = true) : ∃ x y m, l = x :: "=" :: y :: "(" :: m ∧ wordB x = true ∧ wordB y = true ∧ ∀ a : AuS, a.st = "type" → auSteps a [x, "=", y, "("] = some ⟨"inner", 1, "("⟩ := by
  obtain ⟨h1, h2, h3, h4⟩ := hdR_of h
  obtain ⟨x, r1, rfl, x1, x2⟩ := nm_cons h1
  obtain ⟨r2, e2⟩ := hd_cons h2
  have e2 : r1 = "=" :: r2 := e2
  subst e2
  obtain ⟨y, r3, e3, y1, y2⟩ := nm_cons h3
  have e3 : r2 = y :: r3 := e3
  subst e3
  obtain ⟨m, e4⟩ := hd_cons h4
  have e4 : r3 = "(" :: m := e4
  subst e4
  have fx : frstL x = true := by rw [frst_word (ht x List.mem_cons_self)]; exact x1
  have fy : frstL y = true := by rw [frst_word (ht y (by simp))]; exact y1
  refine ⟨x, y, m, rfl, x1, y1, fun a ha => ?_⟩
  have s1 := step_nm (a := a) (.inl ha) x2 fx
  rw [ha, if_pos rfl] at s1
  have s2 := step_sg (a := ⟨"=", a.lv, x⟩) (t := "=") (.inl rfl) rfl
  have s3 := step_nm (a := ⟨nxS "=", 1, "="⟩) (t := y) (.inr rfl) y2 fy
  have s4 := step_sg (a := ⟨"(", 1, y⟩) (t := "(") (.inr (.inl rfl)) rfl
  show (match auStep a x with | none => none | some a' => auSteps a' ["=", y, "("]) = _
  rw [s1]
  show (match auStep ⟨"=", a.lv, x⟩ "=" with | none => none | some a' => auSteps a' [y, "("]) = _
  rw [s2]
  show (match auStep ⟨nxS "=", 1, "="⟩ y with | none => none | some a' => auSteps a' ["("]) = _
  rw [s3]
  show (match auStep ⟨"(", 1, y⟩ "(" with | none => none | some a' => some a') = _
  rw [s4]; rfl
theorem Ru.au {n c : Nat} {l : List String} {b : Bool} (h : Ru n l b c) (ht : ∀ t ∈ l, tokX t = true) (a : AuS) (ha : a.st = "type") :
    ∃ a', auSteps a (l.take c) = some a' ∧ (b = true → a'.st = ";") ∧ (b = false → a'.st ≠ ";" ∧ ∀ x r, l.drop c = x :: r → auStep a' x = none) := by
  have tk : ∀ {k : Nat}, ∀ t ∈ l.drop k, tokX t = true := fun t h => ht t (List.mem_of_mem_drop h)
  have cl : ∀ a2 : AuS, a2.st = "inner" → a2.lv = 1 → a2.bf ≠ "|" → auStep a2 ")" = some ⟨";", 0, ")"⟩ := fun a2 h1 h2 h3 => by
    unfold auStep
    have e : lvA ")" a2.lv = 0 := by rw [h2]; rfl
    rw [h1, if_neg (by decide), if_neg (by decide), if_neg (by decide), if_pos (by show (!decide (a2.bf = "|")) = true; rw [decide_eq_false h3]; rfl), e, if_pos rfl]
  cases h with
  | f0 h0 => exact ⟨a, rfl, fun z => (by cases z), fun _ => ⟨by rw [ha]; decide, nm_step (.inl ha) h0 ht⟩⟩
  | f1 h0 h1 =>
    obtain ⟨x, r, rfl, x1, x2⟩ := nm_cons h0
    have s1 := step_nm (a := a) (.inl ha) x2 (by rw [frst_word (ht x List.mem_cons_self)]; exact x1)
    rw [ha, if_pos rfl] at s1
    exact ⟨_, steps_one s1, fun z => (by cases z), fun _ => ⟨(show "=" ≠ ";" by decide), sg_step rfl (.inl rfl) h1⟩⟩
  | f2 h0 h1 h2 =>
    obtain ⟨x, r, rfl, x1, x2⟩ := nm_cons h0
    obtain ⟨r2, e2⟩ := hd_cons h1
    have e2 : r = "=" :: r2 := e2
    subst e2
    have s1 := step_nm (a := a) (.inl ha) x2 (by rw [frst_word (ht x List.mem_cons_self)]; exact x1)
    rw [ha, if_pos rfl] at s1
    have s2 := step_sg (a := ⟨"=", a.lv, x⟩) (t := "=") (.inl rfl) rfl
    refine ⟨⟨"name", 1, "="⟩, ?_, fun z => (by cases z), fun _ => ⟨(show "name" ≠ ";" by decide), nm_step (.inr rfl) h2 tk⟩⟩
    show (match auStep a x with | none => none | some a' => auSteps a' ["="]) = _
    rw [s1]
    exact steps_one s2
  | f3 h0 h1 h2 h3 =>
    obtain ⟨x, r, rfl, x1, x2⟩ := nm_cons h0
    obtain ⟨r2, e2⟩ := hd_cons h1
    have e2 : r = "=" :: r2 := e2
    subst e2
    obtain ⟨y, r3, e3, y1, y2⟩ := nm_cons h2
    have e3 : r2 = y :: r3 := e3
    subst e3
    have s1 := step_nm (a := a) (.inl ha) x2 (by rw [frst_word (ht x List.mem_cons_self)]; exact x1)
    rw [ha, if_pos rfl] at s1
    have s2 := step_sg (a := ⟨"=", a.lv, x⟩) (t := "=") (.inl rfl) rfl
    have s3 := step_nm (a := ⟨nxS "=", 1, "="⟩) (t := y) (.inr rfl) y2 (by rw [frst_word (ht y (by simp))]; exact y1)
    refine ⟨⟨"(", 1, y⟩, ?_, fun z => (by cases z), fun _ => ⟨(show "(" ≠ ";" by decide), sg_step rfl (.inr (.inl rfl)) h3⟩⟩
    show (match auStep a x with | none => none | some a' => auSteps a' ["=", y]) = _
    rw [s1]
    show (match auStep ⟨"=", a.lv, x⟩ "=" with | none => none | some a' => auSteps a' [y]) = _
    rw [s2]
    exact steps_one s3
  | em hh h4 =>
    obtain ⟨x, y, m, rfl, _, _, hs⟩ := hdR_au hh ht
    obtain ⟨r, e⟩ := hd_cons h4
    have e : m = ")" :: r := e
    subst e
    refine ⟨⟨";", 0, ")"⟩, ?_, fun _ => rfl, fun z => by cases z⟩
    show auSteps a ([x, "=", y, "("] ++ [")"]) = _
    rw [steps_app, hs a ha]
    exact steps_one (cl ⟨"inner", 1, "("⟩ rfl rfl (show "(" ≠ "|" by decide))
  | @cb c0 hh h4 hp =>
    obtain ⟨x, y, m, rfl, _, _, hs⟩ := hdR_au hh ht
    obtain ⟨a', i1, i2, _, i4⟩ := hp.au ⟨"inner", 1, "("⟩ rfl (Int.le_refl _) (.inr (.inr ⟨rfl, h4⟩)) tk
    refine ⟨a', ?_, fun z => (by cases z), fun _ => ⟨by rw [i2]; decide, fun z r e => i4 rfl z r (by rw [List.drop_drop]; exact e)⟩⟩
    rw [List.take_add]
    show auSteps a ([x, "=", y, "("] ++ m.take c0) = _
    rw [steps_app, hs a ha]
    exact i1
  | @cn c0 hh h4 hp h5 =>
    obtain ⟨x, y, m, rfl, _, _, hs⟩ := hdR_au hh ht
    obtain ⟨a', i1, i2, i3, _⟩ := hp.au ⟨"inner", 1, "("⟩ rfl (Int.le_refl _) (.inr (.inr ⟨rfl, h4⟩)) tk
    obtain ⟨j1, j2⟩ := i3 rfl
    rw [List.drop_drop] at j2
    refine ⟨a', ?_, fun z => (by cases z), fun _ => ⟨by rw [i2]; decide, fun z r e => step_no i2 (end_no j2 h5 tk z r e)⟩⟩
    rw [List.take_add]
    show auSteps a ([x, "=", y, "("] ++ m.take c0) = _
    rw [steps_app, hs a ha]
    exact i1
  | @ck c0 hh h4 hp h5 =>
    obtain ⟨x, y, m, rfl, _, _, hs⟩ := hdR_au hh ht
    obtain ⟨a', i1, i2, i3, _⟩ := hp.au ⟨"inner", 1, "("⟩ rfl (Int.le_refl _) (.inr (.inr ⟨rfl, h4⟩)) tk
    obtain ⟨j1, j2⟩ := i3 rfl
    have nb : a'.bf ≠ "|" := fun z => j2.1 (by rw [z]; decide)
    refine ⟨⟨";", 0, ")"⟩, ?_, fun _ => rfl, fun z => by cases z⟩
    rw [show 5 + c0 = 4 + c0 + 1 by omega, take_hd h5, List.take_add, steps_app]
    have e1 : auSteps a ([x, "=", y, "("] ++ m.take c0) = some a' := by rw [steps_app, hs a ha]; exact i1
    show (auSteps a ([x, "=", y, "("] ++ m.take c0)).bind _ = _
    rw [e1]
    exact steps_one (cl a' i2 j1 nb)
/-- the automaton over a schema -/
theorem Sc.au {n k : Nat} {all : List Tk} {hs us : List (String × Nat)} {r : Option Nat} (h : Sc n all k hs us r) (ht : ∀ t ∈ all, tokX t.v = true) (hk : k ≤ all.length) : ∀ (a : AuS), a.st = "type" →
    ∃ w st, auRun a k (rst all k) = (w, st) ∧ (r = none → w = -1 ∧ st = ";") ∧ ∀ e, r = some e → (e < all.length → w = (e : Int)) ∧ (all.length ≤ e → w = -1 ∧ st ≠ ";") := by
  have tk : ∀ j, ∀ t ∈ rst all j, tokX t = true := fun j t h => by
    unfold rst at h
    obtain ⟨x, hx, rfl⟩ := List.mem_map.mp (List.mem_of_mem_drop h)
    exact ht x hx
  have rlen : ∀ j, (rst all j).length = all.length - j := fun j => by unfold rst; rw [List.length_drop, List.length_map]
  -- wrong at a place, or at the end
  have wrong : ∀ (k c : Nat) (a a' : AuS), k ≤ all.length → c ≤ (rst all k).length → auSteps a ((rst all k).take c) = some a' → a'.st ≠ ";" ∨ k + c < all.length → (∀ x r, (rst all k).drop c = x :: r → auStep a' x = none) →
      ∃ w st, auRun a k (rst all k) = (w, st) ∧ ((k + c < all.length → w = ((k + c : Nat) : Int)) ∧ (all.length ≤ k + c → w = -1 ∧ st ≠ ";")) := fun k c a a' hk hc h1 h2 h3 => by
    rw [rlen] at hc
    have e := run_steps _ ((rst all k).drop c) a a' k h1
    have hl : ((rst all k).take c).length = c := by rw [List.length_take, rlen]; omega
    rw [List.take_append_drop, hl] at e
    cases hd : (rst all k).drop c with
    | nil =>
      rw [hd] at e
      have hl2 : (rst all k).length ≤ c := List.drop_eq_nil_iff.mp hd
      rw [rlen] at hl2
      refine ⟨_, _, e, fun z => by omega, fun _ => ⟨rfl, ?_⟩⟩
      rcases h2 with z | z
      · exact z
      · omega
    | cons x r =>
      rw [hd] at e
      have e2 : auRun a' (k + c) (x :: r) = (((k + c : Nat) : Int), a'.st) := by
        show (match auStep a' x with | none => (((k + c : Nat) : Int), a'.st) | some a2 => auRun a2 (k + c + 1) r) = _
        rw [h3 x r hd]
      rw [e2] at e
      refine ⟨_, _, e, fun _ => rfl, fun z => ?_⟩
      have := congrArg List.length hd
      rw [List.length_drop, rlen, List.length_cons] at this
      omega
  induction h with
  | @bad k c hr =>
    intro a ha
    obtain ⟨a', i1, _, i3⟩ := hr.au (tk k) a ha
    obtain ⟨j1, j2⟩ := i3 rfl
    obtain ⟨w, st, e, z⟩ := wrong k c a a' hk hr.le.1 i1 (.inl j1) j2
    exact ⟨w, st, e, fun z => (by cases z), fun e h => by cases h; exact z⟩
  | @last k c hr hc =>
    intro a ha
    obtain ⟨a', i1, i2, _⟩ := hr.au (tk k) a ha
    have e := run_steps _ ((rst all k).drop c) a a' k i1
    have hd : (rst all k).drop c = [] := List.drop_eq_nil_of_le (by rw [rlen]; omega)
    rw [List.take_append_drop, hd] at e
    exact ⟨_, _, e, fun _ => ⟨rfl, i2 rfl⟩, fun e h => by cases h⟩
  | @junk k c hr hlt hn =>
    intro a ha
    obtain ⟨a', i1, i2, _⟩ := hr.au (tk k) a ha
    rw [← rst_drop] at hn
    obtain ⟨w, st, e, z⟩ := wrong k c a a' hk hr.le.1 i1 (.inr hlt) (sg_step (i2 rfl) (.inr (.inr rfl)) hn)
    exact ⟨w, st, e, fun z => (by cases z), fun e h => by cases h; exact z⟩
  | @more k c hs us o hr hn _ ih =>
    intro a ha
    obtain ⟨a', i1, i2, _⟩ := hr.au (tk k) a ha
    have e := run_steps _ ((rst all k).drop c) a a' k i1
    have hle := hr.le.1
    have hl : ((rst all k).take c).length = c := by rw [List.length_take]; omega
    have hlt := hd_len hn
    rw [rlen] at hlt hle
    rw [List.take_append_drop, hl, rst_drop] at e
    obtain ⟨m, em⟩ := hd_cons hn
    have em2 : rst all (k + c + 1) = m := by rw [← rst_drop, em]; rfl
    have st := step_sg (a := a') (t := ";") (.inr (.inr (i2 rfl))) (i2 rfl).symm
    obtain ⟨w, s, e2, z⟩ := ih (by omega) ⟨nxS a'.st, 1, ";"⟩ (by rw [i2 rfl]; rfl)
    refine ⟨w, s, ?_, z⟩
    rw [e, em]
    show (match auStep a' ";" with | none => (((k + c : Nat) : Int), a'.st) | some a2 => auRun a2 (k + c + 1) m) = _
    rw [st, ← em2]
    exact e2
end VS

/-! VS, part 40: by the net of the parentheses: how far contents, rules, schemas are read is always told. -/
namespace VS
open PySem PySem.Spec PyProof.Rows L2
def pv (t : String) : Int := if t = "(" then 1 else if t = ")" then -1 else 0
def nt : List String → Int
  | [] => 0 | t :: r => pv t + nt r
def mx : List String → Int
  | [] => 0 | t :: r => max 0 (pv t + mx r)
theorem mx_pos : ∀ l, 0 ≤ mx l
  | [] => Int.le_refl _
  | t :: r => by show 0 ≤ max 0 (pv t + mx r); omega
theorem nt_app : ∀ a b, nt (a ++ b) = nt a + nt b
  | [], b => by show nt b = 0 + nt b; omega
  | t :: a, b => by show pv t + nt (a ++ b) = pv t + nt a + nt b; rw [nt_app a b]; omega
theorem mx_app : ∀ a b, mx (a ++ b) = max (mx a) (nt a + mx b)
  | [], b => by show mx b = max 0 (0 + mx b); have := mx_pos b; omega
  | t :: a, b => by show max 0 (pv t + mx (a ++ b)) = max (max 0 (pv t + mx a)) (pv t + nt a + mx b); rw [mx_app a b]; omega
theorem nt_le : ∀ l, nt l ≤ mx l
  | [] => Int.le_refl _
  | t :: r => by show pv t + nt r ≤ max 0 (pv t + mx r); have := nt_le r; omega
theorem mx_drop (l : List String) (k : Nat) : nt (l.take k) + mx (l.drop k) ≤ mx l := by
  have := mx_app (l.take k) (l.drop k)
  rw [List.take_append_drop] at this
  omega
theorem pv_word {x : String} (h : wordB x = true) : pv x = 0 := by
  unfold pv
  rw [if_neg (fun e => by rw [e] at h; exact absurd h (by decide)), if_neg (fun e => by rw [e] at h; exact absurd h (by decide))]
theorem nt_one (x : String) : nt [x] = pv x := by show pv x + 0 = pv x; omega
theorem nt_snoc (l : List String) (x : String) : nt (l ++ [x]) = nt l + pv x := by rw [nt_app, nt_one]
theorem nt_hd {s : String} {l : List String} {c : Nat} (h : isHd s (l.drop c) = true) : nt (l.take (c + 1)) = nt (l.take c) + pv s := by rw [take_hd h, nt_snoc]
theorem suf_cons {l : List String} (h : sufB l = true) : ∃ x r, l = x :: r ∧ x ∈ sufs := by
  cases l with
  | nil => cases h
  | cons x r => exact ⟨x, r, rfl, of_decide_eq_true h⟩
theorem pv_suf {x : String} (h : x ∈ sufs) : pv x = 0 := by
  simp only [sufs, List.mem_cons, List.not_mem_nil, or_false] at h
  rcases h with rfl | rfl | rfl <;> decide
theorem nt_suf {l : List String} {c : Nat} (h : sufB (l.drop c) = true) : nt (l.take (c + 1)) = nt (l.take c) := by
  obtain ⟨x, r, e, hx⟩ := suf_cons h
  rw [List.take_add, e]
  show nt (l.take c ++ [x]) = _
  rw [nt_snoc, pv_suf hx]; omega
theorem st_ne {l : List String} (h : startB l = true) : 0 < l.length := by
  cases l with
  | nil => cases h
  | cons _ _ => exact Nat.succ_pos _
theorem Pr.exi : ∀ (n : Nat) (l : List String), mx l < (n : Int) → ∀ lv, lv ≤ 3 → ∃ b c, Pr lv n l b c ∧ (b = true → nt (l.take c) = 0) := by
  intro n
  induction n with
  | zero => intro l h; have := mx_pos l; omega
  | succ n ih =>
    have A : ∀ l, mx l < ((n + 1 : Nat) : Int) → ∃ b c, Pr 0 (n + 1) l b c ∧ (b = true → nt (l.take c) = 0) := fun l h => by
      cases h1 : isHd "(" l with
      | false =>
        cases h2 : nmB8 l with
        | false => exact ⟨_, _, .no h1 h2, fun z => by cases z⟩
        | true =>
          refine ⟨_, _, .wd h1 h2, fun _ => ?_⟩
          obtain ⟨x, r, rfl, w, _⟩ := nm_cons h2
          show nt [x] = 0
          rw [nt_one, pv_word w]
      | true =>
        cases h2 : isHd ")" (l.drop 1) with
        | true =>
          refine ⟨_, _, .em h1 h2, fun _ => ?_⟩
          rw [nt_hd h2]
          obtain ⟨r, rfl⟩ := hd_cons h1
          show nt ["("] + _ = 0
          decide
        | false =>
          obtain ⟨r, e⟩ := hd_cons h1
          have hr : mx r < (n : Int) := by
            rw [e] at h
            have h : max 0 (pv "(" + mx r) < ((n + 1 : Nat) : Int) := h
            have : pv "(" = 1 := by decide
            omega
          obtain ⟨b, c, p, z⟩ := ih r hr 3 (Nat.le_refl _)
          have er : l.drop 1 = r := by rw [e]; rfl
          rw [← er] at p z
          cases b with
          | false => exact ⟨_, _, .parB h1 h2 p, fun z => by cases z⟩
          | true =>
            cases h3 : isHd ")" (l.drop (1 + c)) with
            | false => exact ⟨_, _, .parN h1 h2 p h3, fun z => by cases z⟩
            | true =>
              refine ⟨_, _, .par h1 h2 p h3, fun _ => ?_⟩
              rw [nt_hd h3, List.take_add, nt_app, z rfl, e]
              show nt ["("] + 0 + _ = 0
              decide
    have B : ∀ l, mx l < ((n + 1 : Nat) : Int) → ∃ b c, Pr 1 (n + 1) l b c ∧ (b = true → nt (l.take c) = 0) := fun l h => by
      obtain ⟨b, c, p, z⟩ := A l h
      cases b with
      | false => exact ⟨_, _, .aN p, fun z => by cases z⟩
      | true =>
        cases h3 : sufB (l.drop c) with
        | false => exact ⟨_, _, .aP p h3, z⟩
        | true => exact ⟨_, _, .aS p h3, fun _ => by rw [nt_suf h3]; exact z rfl⟩
    have C : ∀ k l, l.length < k → mx l < ((n + 1 : Nat) : Int) → ∃ b c, Pr 2 (n + 1) l b c ∧ (b = true → nt (l.take c) = 0) := fun k => by
      induction k with
      | zero => intro l h; omega
      | succ k ihk =>
        intro l hl h
        obtain ⟨b, c, p, z⟩ := B l h
        cases b with
        | false => exact ⟨_, _, .rN p, fun z => by cases z⟩
        | true =>
          cases h3 : startB (l.drop c) with
          | false => exact ⟨_, _, .rE p h3, z⟩
          | true =>
            have hp := p.le
            have := hp.2 rfl
            have hd := mx_drop l c
            rw [z rfl] at hd
            obtain ⟨b', c', p', z'⟩ := ihk (l.drop c) (by rw [List.length_drop]; omega) (by omega)
            exact ⟨_, _, .rM p h3 p', fun hb => by rw [List.take_add, nt_app, z rfl, z' hb]; rfl⟩
    have D : ∀ k l, l.length < k → mx l < ((n + 1 : Nat) : Int) → ∃ b c, Pr 3 (n + 1) l b c ∧ (b = true → nt (l.take c) = 0) := fun k => by
      induction k with
      | zero => intro l h; omega
      | succ k ihk =>
        intro l hl h
        obtain ⟨b, c, p, z⟩ := C (l.length + 1) l (by omega) h
        cases b with
        | false => exact ⟨_, _, .cN p, fun z => by cases z⟩
        | true =>
          cases h3 : isHd "|" (l.drop c) with
          | false => exact ⟨_, _, .cE p h3, z⟩
          | true =>
            have hp := p.le
            have := hp.2 rfl
            have hz : nt (l.take (c + 1)) = 0 := by rw [nt_hd h3, z rfl]; decide
            have hd := mx_drop l (c + 1)
            rw [hz] at hd
            obtain ⟨b', c', p', z'⟩ := ihk (l.drop (c + 1)) (by rw [List.length_drop]; omega) (by omega)
            exact ⟨_, _, .cM p h3 p', fun hb => by rw [List.take_add, nt_app, hz, z' hb]; rfl⟩
    intro l h lv hlv
    match lv, hlv with
    | 0, _ => exact A l h
    | 1, _ => exact B l h
    | 2, _ => exact C (l.length + 1) l (by omega) h
    | 3, _ => exact D (l.length + 1) l (by omega) h
    | k + 4, z => omega
theorem Ru.exi {n : Nat} {l : List String} (h : mx l < (n : Int)) : ∃ b c, Ru n l b c ∧ (b = true → nt (l.take c) = 0) := by
  cases h0 : nmB8 l with
  | false => exact ⟨_, _, .f0 h0, fun z => by cases z⟩
  | true =>
  cases h1 : isHd "=" (l.drop 1) with
  | false => exact ⟨_, _, .f1 h0 h1, fun z => by cases z⟩
  | true =>
  cases h2 : nmB8 (l.drop 2) with
  | false => exact ⟨_, _, .f2 h0 h1 h2, fun z => by cases z⟩
  | true =>
  cases h3 : isHd "(" (l.drop 3) with
  | false => exact ⟨_, _, .f3 h0 h1 h2 h3, fun z => by cases z⟩
  | true =>
    have hh : hdR l = true := by unfold hdR; rw [h0, h1, h2, h3]; rfl
    have n4 : nt (l.take 4) = 1 := by
      rw [nt_hd h3, show (3 : Nat) = 2 + 1 from rfl, List.take_add, nt_app, nt_hd h1]
      obtain ⟨x, r, e, w, _⟩ := nm_cons h0
      obtain ⟨y, r', e', w', _⟩ := nm_cons h2
      rw [e', e]
      show pv x + 0 + pv "=" + (pv y + 0) + pv "(" = 1
      rw [pv_word w, pv_word w']; decide
    cases h4 : isHd ")" (l.drop 4) with
    | true => exact ⟨_, _, .em hh h4, fun _ => by rw [nt_hd h4, n4]; decide⟩
    | false =>
      have hd := mx_drop l 4
      obtain ⟨b, c, p, z⟩ := Pr.exi n (l.drop 4) (by omega) 3 (Nat.le_refl _)
      cases b with
      | false => exact ⟨_, _, .cb hh h4 p, fun z => by cases z⟩
      | true =>
        cases h5 : isHd ")" (l.drop (4 + c)) with
        | false => exact ⟨_, _, .cn hh h4 p h5, fun z => by cases z⟩
        | true => exact ⟨_, _, .ck hh h4 p h5, fun _ => by rw [show 5 + c = 4 + c + 1 by omega, nt_hd h5, List.take_add, nt_app, n4, z rfl]; decide⟩
theorem Sc.exi {n : Nat} {ts : List Tk} : ∀ m k, ts.length - k < m → k ≤ ts.length → mx (rst ts k) < (n : Int) → ∃ hs us r, Sc n ts k hs us r := by
  intro m
  induction m with
  | zero => intro k h; omega
  | succ m ih =>
    intro k hm hk h
    obtain ⟨b, c, p, z⟩ := Ru.exi h
    have hle := p.le
    have rl : (rst ts k).length = ts.length - k := by unfold rst; rw [List.length_drop, List.length_map]
    rw [rl] at hle
    cases b with
    | false => exact ⟨_, _, _, .bad p⟩
    | true =>
      have := hle.2 rfl
      by_cases e : ts.length = k + c
      · exact ⟨_, _, _, .last p e⟩
      cases h2 : isHd ";" (rst ts (k + c)) with
      | false => exact ⟨_, _, _, .junk p (by omega) h2⟩
      | true =>
        have hd := mx_drop (rst ts k) (c + 1)
        have h2' := h2
        rw [← rst_drop] at h2'
        rw [nt_hd h2', z rfl, rst_drop] at hd
        have : pv ";" = 0 := by decide
        obtain ⟨hs, us, r, s⟩ := ih (k + c + 1) (by omega) (by omega) (by show mx (rst ts (k + (c + 1))) < _; omega)
        exact ⟨_, _, _, .more p h2 s⟩
end VS

/-! VS, part 41: the heads and the parts of a schema, by the places of the tokens. -/
namespace VS
open PySem PySem.Spec PyProof.Rows L2
def headA (l : List String) (k : Nat) : Bool := match l[k]? with | some x => frstL x && decide (l[k + 1]? = some "=") | none => false
def partA (l : List String) (k : Nat) : Bool := match l[k]? with | some x => frstL x && (!decide (l[k + 1]? = some "=") && !(decide (0 < k) && decide (l[k - 1]? = some "="))) | none => false
def entA (ts : List Tk) (k : Nat) : String × Nat := match ts[k]? with | some t => (t.v, t.at_) | none => ("", 0)
theorem headA_no {l : List String} {k : Nat} {x : String} (h : l[k]? = some x) (hf : frstL x = false ∨ l[k + 1]? ≠ some "=") : headA l k = false := by
  unfold headA
  rw [h]
  rcases hf with z | z
  · show (frstL x && _) = false; rw [z]; rfl
  · show (frstL x && decide _) = false; rw [decide_eq_false z, Bool.and_false]
theorem headA_yes {l : List String} {k : Nat} {x : String} (h : l[k]? = some x) (hf : frstL x = true) (hn : l[k + 1]? = some "=") : headA l k = true := by
  unfold headA
  rw [h]
  show (frstL x && decide _) = true
  rw [hf, decide_eq_true hn]; rfl
theorem partA_no {l : List String} {k : Nat} {x : String} (h : l[k]? = some x) (hf : frstL x = false ∨ l[k + 1]? = some "=" ∨ (0 < k ∧ l[k - 1]? = some "=")) : partA l k = false := by
  unfold partA
  rw [h]
  rcases hf with z | z | ⟨z, y⟩
  · show (frstL x && _) = false; rw [z]; rfl
  · show (frstL x && (!decide _ && _)) = false; rw [decide_eq_true z]; show (frstL x && false) = false; rw [Bool.and_false]
  · show (frstL x && (_ && !(decide _ && decide _))) = false
    rw [decide_eq_true z, decide_eq_true y]
    show (frstL x && (_ && false)) = false
    rw [Bool.and_false, Bool.and_false]
theorem partA_in {l : List String} {k : Nat} {x : String} (h : l[k]? = some x) (hn : l[k + 1]? ≠ some "=") (hp : l[k - 1]? ≠ some "=") : partA l k = frstL x := by
  unfold partA
  rw [h]
  show (frstL x && (!decide _ && !(decide _ && decide _))) = _
  rw [decide_eq_false hn, decide_eq_false hp, Bool.and_false]
  show (frstL x && true) = _
  rw [Bool.and_true]
theorem sg_neq {x s : String} (h : wordB x = true) (hs : wordB s = false) : x ≠ s := fun e => by rw [e, hs] at h; cases h
theorem Pr.neq {lv n c : Nat} {l : List String} {b : Bool} (h : Pr lv n l b c) : ∀ x ∈ l.take c, x ≠ "=" := by
  have tk1 : ∀ {s : String} {l : List String} {c : Nat}, isHd s (l.drop c) = true → s ≠ "=" → (∀ x ∈ l.take c, x ≠ "=") → ∀ x ∈ l.take (c + 1), x ≠ "=" := fun {s l c} h hs ih x hx => by
    rw [take_hd h] at hx
    rcases List.mem_append.mp hx with z | z
    · exact ih x z
    · rw [List.mem_singleton] at z; rw [z]; exact hs
  have one : ∀ {l : List String}, isHd "(" l = true → ∀ x ∈ l.take 1, x ≠ "=" := fun {l} h x hx => by
    obtain ⟨r, rfl⟩ := hd_cons h
    have hx : x ∈ ["("] := hx
    rw [List.mem_singleton] at hx; rw [hx]; decide
  have app : ∀ {l : List String} {a b : Nat}, (∀ x ∈ l.take a, x ≠ "=") → (∀ x ∈ (l.drop a).take b, x ≠ "=") → ∀ x ∈ l.take (a + b), x ≠ "=" := fun {l a b} h1 h2 x hx => by
    rw [List.take_add] at hx
    rcases List.mem_append.mp hx with z | z
    · exact h1 x z
    · exact h2 x z
  induction h with
  | wd _ h2 =>
    obtain ⟨x, r, rfl, w, _⟩ := nm_cons h2
    intro z hz
    have hz : z ∈ [x] := hz
    rw [List.mem_singleton] at hz; rw [hz]; exact sg_neq w (by decide)
  | no _ _ => intro x hx; rw [List.take_zero] at hx; cases hx
  | em h1 h2 => exact tk1 h2 (by decide) (one h1)
  | par h1 _ _ h3 ih => exact tk1 h3 (by decide) (app (one h1) ih)
  | parN h1 _ _ _ ih => exact app (one h1) ih
  | parB h1 _ _ ih => exact app (one h1) ih
  | aN _ ih => exact ih
  | @aS n c l _ h3 ih =>
    intro x hx
    obtain ⟨y, r, e, hy⟩ := suf_cons h3
    rw [List.take_add, e] at hx
    rcases List.mem_append.mp hx with z | z
    · exact ih x z
    · have z : x ∈ [y] := z
      rw [List.mem_singleton] at z; subst z
      intro e; subst e; exact absurd hy (by decide)
  | aP _ _ ih => exact ih
  | rN _ ih => exact ih
  | rE _ _ ih => exact ih
  | rM _ _ _ i1 i2 => exact app i1 i2
  | cN _ ih => exact ih
  | cE _ _ ih => exact ih
  | cM _ h _ i1 i2 => exact app (tk1 h (by decide) i1) i2
theorem Ru.form {n c : Nat} {l : List String} (h : Ru n l true c) : ∃ x y m c0, l = x :: "=" :: y :: "(" :: m ∧ c = 5 + c0 ∧ wordB x = true ∧ wordB y = true ∧ (∀ z ∈ m.take c0, z ≠ "=") ∧ m[c0]? = some ")" := by
  have hd : hdR l = true → ∃ x y m, l = x :: "=" :: y :: "(" :: m ∧ wordB x = true ∧ wordB y = true := fun h => by
    obtain ⟨h1, h2, h3, h4⟩ := hdR_of h
    obtain ⟨x, r1, rfl, x1, _⟩ := nm_cons h1
    obtain ⟨r2, e2⟩ := hd_cons h2
    have e2 : r1 = "=" :: r2 := e2
    subst e2
    obtain ⟨y, r3, e3, y1, _⟩ := nm_cons h3
    have e3 : r2 = y :: r3 := e3
    subst e3
    obtain ⟨m, e4⟩ := hd_cons h4
    have e4 : r3 = "(" :: m := e4
    subst e4
    exact ⟨x, y, m, rfl, x1, y1⟩
  have at0 : ∀ {s : String} {l : List String} {k : Nat}, isHd s (l.drop k) = true → l[k]? = some s := fun {s l k} h => by
    obtain ⟨r, e⟩ := hd_cons h
    have := List.getElem?_drop (xs := l) (i := k) (j := 0)
    rw [e] at this
    exact this.symm
  cases h with
  | em hh h4 =>
    obtain ⟨x, y, m, rfl, x1, y1⟩ := hd hh
    exact ⟨x, y, m, 0, rfl, rfl, x1, y1, fun z hz => (by rw [List.take_zero] at hz; cases hz), at0 (l := m) (k := 0) h4⟩
  | @ck c0 hh _ p h5 =>
    obtain ⟨x, y, m, rfl, x1, y1⟩ := hd hh
    refine ⟨x, y, m, c0, rfl, rfl, x1, y1, p.neq, at0 ?_⟩
    rw [← List.drop_drop] at h5
    exact h5
theorem range_split (k c : Nat) : List.range' k (5 + c) = [k, k + 1, k + 2, k + 3] ++ (List.range' (k + 4) c ++ [k + 4 + c]) := by
  rw [show 5 + c = 4 + (c + 1) by omega, ← List.range'_append_1 (s := k) (m := 4) (n := c + 1), List.range'_concat (s := k + 4) (n := c)]
  rw [Nat.one_mul]; rfl
theorem wds_filter {all : List Tk} (W : ∀ t ∈ all, frstL t.v = t.w) (k : Nat) : ∀ c, k + c ≤ all.length → ((List.range' k c).filter fun j => match (all.map (·.v))[j]? with | some x => frstL x | none => false).map (entA all) = wds all k c
  | 0, _ => by rw [wds_zero]; rfl
  | c + 1, h => by
    have e : all[k + c]? = some all[k + c] := List.getElem?_eq_getElem (by omega)
    have em : (all.map (·.v))[k + c]? = some all[k + c].v := by rw [List.getElem?_map, e]; rfl
    rw [List.range'_concat (s := k) (n := c), Nat.one_mul, List.filter_append, List.map_append, wds_filter W k c (by omega), wds_add, wds_one e]
    congr 1
    have hw := W all[k + c] (List.mem_of_getElem? e)
    by_cases hf : all[k + c].w = true
    · rw [if_pos hf, List.filter_cons_of_pos (by rw [em]; exact hw.trans hf)]
      show [entA all (k + c)] = _
      unfold entA; rw [e]
    · rw [if_neg hf, List.filter_cons_of_neg (by rw [em]; exact fun z => hf (hw.symm.trans z))]; rfl
theorem filter_one {p : Nat → Bool} {k : Nat} (h : p k = false) : [k].filter p = [] := List.filter_cons_of_neg (by rw [h]; exact Bool.false_ne_true)
theorem Ru.words {n k c : Nat} {all : List Tk} (W : ∀ t ∈ all, frstL t.v = t.w) (hX : ∀ t ∈ all, tokX t.v = true) (h : Ru n (rst all k) true c) (hk : k + c ≤ all.length) :
    ((List.range' k c).filter (headA (all.map (·.v)))).map (entA all) = hdAt all k ∧ ((List.range' k c).filter (partA (all.map (·.v)))).map (entA all) = wds all (k + 4) (c - 5) := by
  obtain ⟨x, y, m, c0, e, rfl, x1, y1, h1, h2⟩ := h.form
  have at_ : ∀ j, (all.map (·.v))[k + j]? = (x :: "=" :: y :: "(" :: m)[j]? := fun j => by rw [← e]; unfold rst; rw [List.getElem?_drop]
  have a0 : (all.map (·.v))[k]? = some x := at_ 0
  have a1 : (all.map (·.v))[k + 1]? = some "=" := at_ 1
  have a2 : (all.map (·.v))[k + 2]? = some y := at_ 2
  have a3 : (all.map (·.v))[k + 3]? = some "(" := at_ 3
  have a4 : ∀ j, (all.map (·.v))[k + 4 + j]? = m[j]? := fun j => by rw [show k + 4 + j = k + (j + 4) by omega, at_]; rfl
  have ne : ∀ j, j ≤ c0 → m[j]? ≠ some "=" := fun j hj z => by
    by_cases ej : j = c0
    · subst ej; rw [h2] at z; exact absurd (Option.some.inj z) (by decide)
    · exact h1 "=" (List.mem_of_getElem? (by rw [List.getElem?_take_of_lt (show j < c0 by omega)]; exact z)) rfl
  have fx : frstL x = true := by
    obtain ⟨t, ht, rfl⟩ : ∃ t ∈ all, t.v = x := List.mem_map.mp (List.mem_of_getElem? a0)
    rw [frst_word (hX t ht)]; exact x1
  have f1 : frstL "=" = false := by decide
  have f3 : frstL "(" = false := by decide
  have f4 : frstL ")" = false := by decide
  have ac : (all.map (·.v))[k + 4 + c0]? = some ")" := by rw [a4]; exact h2
  rw [range_split, show 5 + c0 - 5 = c0 by omega]
  have nx : ∀ j ∈ List.range' (k + 4) c0, ∃ x, (all.map (·.v))[j]? = some x ∧ (all.map (·.v))[j + 1]? ≠ some "=" ∧ (all.map (·.v))[j - 1]? ≠ some "=" := fun j hj => by
    obtain ⟨i, hi, rfl⟩ := List.mem_range'.mp hj
    rw [Nat.one_mul]
    have lt : k + 4 + i < (all.map (·.v)).length := by rw [List.length_map]; omega
    refine ⟨_, List.getElem?_eq_getElem lt, ?_, ?_⟩
    · rw [show k + 4 + i + 1 = k + 4 + (i + 1) by omega, a4]; exact ne _ (by omega)
    · cases i with
      | zero => rw [show k + 4 + 0 - 1 = k + 3 by omega, a3]; exact fun z => absurd (Option.some.inj z) (by decide)
      | succ i => rw [show k + 4 + (i + 1) - 1 = k + 4 + i by omega, a4]; exact ne _ (by omega)
  refine ⟨?_, ?_⟩
  · have e1 : [k, k + 1, k + 2, k + 3].filter (headA (all.map (·.v))) = [k] := by
      rw [List.filter_cons_of_pos (headA_yes a0 fx a1), List.filter_cons_of_neg (by rw [headA_no a1 (.inl f1)]; exact Bool.false_ne_true), List.filter_cons_of_neg (by rw [headA_no a2 (.inr (by rw [a3]; exact fun z => absurd (Option.some.inj z) (by decide)))]; exact Bool.false_ne_true), List.filter_cons_of_neg (by rw [headA_no a3 (.inl f3)]; exact Bool.false_ne_true)]
      rfl
    have e2 : (List.range' (k + 4) c0).filter (headA (all.map (·.v))) = [] := List.filter_eq_nil_iff.mpr fun j hj => by
      obtain ⟨z, z1, z2, _⟩ := nx j hj
      rw [headA_no z1 (.inr z2)]; exact Bool.false_ne_true
    rw [List.filter_append, List.filter_append, e1, e2, filter_one (headA_no ac (.inl f4))]
    show [entA all k] = hdAt all k
    unfold entA hdAt
    rw [List.getElem?_map] at a0
    cases ea : all[k]? with
    | none => rw [ea] at a0; cases a0
    | some t => rfl
  · have e1 : [k, k + 1, k + 2, k + 3].filter (partA (all.map (·.v))) = [] := by
      rw [List.filter_cons_of_neg (by rw [partA_no a0 (.inr (.inl a1))]; exact Bool.false_ne_true), List.filter_cons_of_neg (by rw [partA_no a1 (.inl f1)]; exact Bool.false_ne_true), List.filter_cons_of_neg (by rw [partA_no a2 (.inr (.inr ⟨by omega, by rw [show k + 2 - 1 = k + 1 by omega]; exact a1⟩))]; exact Bool.false_ne_true), List.filter_cons_of_neg (by rw [partA_no a3 (.inl f3)]; exact Bool.false_ne_true)]
      rfl
    have e2 : (List.range' (k + 4) c0).filter (partA (all.map (·.v))) = (List.range' (k + 4) c0).filter fun j => match (all.map (·.v))[j]? with | some x => frstL x | none => false := List.filter_congr fun j hj => by
      obtain ⟨z, z1, z2, z3⟩ := nx j hj
      rw [partA_in z1 z2 z3, z1]
    rw [List.filter_append, List.filter_append, e1, e2, filter_one (partA_no ac (.inl f4)), List.nil_append, List.append_nil]
    exact wds_filter W (k + 4) c0 (by omega)
theorem Sc.words {n k : Nat} {all : List Tk} {hs us : List (String × Nat)} {r : Option Nat} (W : ∀ t ∈ all, frstL t.v = t.w) (hX : ∀ t ∈ all, tokX t.v = true) (h : Sc n all k hs us r) (hk : k ≤ all.length) (hr : r = none) :
    ((List.range' k (all.length - k)).filter (headA (all.map (·.v)))).map (entA all) = hs ∧ ((List.range' k (all.length - k)).filter (partA (all.map (·.v)))).map (entA all) = us := by
  induction h with
  | bad _ => cases hr
  | @last k c hu e => rw [e, show k + c - k = c by omega]; exact hu.words W hX (by omega)
  | junk _ _ _ => cases hr
  | @more k c hs us o hu hn _ ih =>
    have hl := hd_len hn
    have rl : (rst all (k + c)).length = all.length - (k + c) := by unfold rst; rw [List.length_drop, List.length_map]
    rw [rl] at hl
    obtain ⟨i1, i2⟩ := ih (by omega) hr
    obtain ⟨j1, j2⟩ := hu.words W hX (by omega)
    have as : (all.map (·.v))[k + c]? = some ";" := by
      obtain ⟨r, e⟩ := hd_cons hn
      have := List.getElem?_drop (xs := all.map (·.v)) (i := k + c) (j := 0)
      rw [show (all.map (·.v)).drop (k + c) = rst all (k + c) from rfl, e] at this
      exact this.symm
    have es : List.range' k (all.length - k) = List.range' k c ++ ([k + c] ++ List.range' (k + c + 1) (all.length - (k + c + 1))) := by
      rw [show all.length - k = c + (1 + (all.length - (k + c + 1))) by omega, ← List.range'_append_1 (s := k) (m := c), ← List.range'_append_1 (s := k + c) (m := 1)]; rfl
    have f0 : frstL ";" = false := by decide
    rw [es]
    constructor
    · rw [List.filter_append, List.filter_append, filter_one (headA_no as (.inl f0)), List.nil_append, List.map_append, j1, i1]
    · rw [List.filter_append, List.filter_append, filter_one (partA_no as (.inl f0)), List.nil_append, List.map_append, j2, i2]
end VS

/-! VS, part 42: an exception class with its own __init__, put together. -/
namespace VS
open PySem PySem.Spec PyProof.Rows L2
theorem ex_for {G : Glob} {x : String} {D fI : Addr} {fd : FuncData} {st : Stmt} {qual : Str} (T : IniText st) (Z : IniAt G.prog G.K D fI fd st qual) (hm : G.mg (Str.ofString x) = some (.ref D)) (iC : PySem.W.findIn G.K (.ref D) "__init__" = some (some (.ref fI))) (tI : PySem.W.typeIn G.K (.ref fI) = some (.type "function"))
    (hs : G.mg "super" = none) (hb : Binds G.K fd ["self", "place", "message"] []) : ExFor G x := ⟨D, fI, fd, hm, Z.cls, iC, tI, ini_ok T Z hs, hb⟩
theorem exm_self {K : PySem.W.Frag} {C : Addr} (T : OexC K C) (x : PySem.W.subIn K (.ref C) (.ref C) = some true) : PySem.W.exmOne K (.ref C) (.ref C) = some true := by
  obtain ⟨nm, q, N, bs, bm, sn, sub, ab, col, dd, k0, k1, k2, k3, k5, hC, hbm⟩ := T.cls
  have hcl : PySem.W.clsIn K C = some { name := nm, bases := bs, mro := .ref C :: bm, ns := N, qualname := q, hasDict := true, slotNames := sn, subclasses := sub, abstract := ab, collection := col, hasDel := false } := by unfold PySem.W.clsIn; rw [hC] <;> rfl
  unfold PySem.W.exmOne
  rw [T.exC, if_pos (by decide)]
  show (if ((PySem.W.clsIn K C).isSome && PySem.W.typeIn K (.ref C) == some (.type "type")) = true then PySem.W.subIn K (.ref C) (.ref C) else none) = some true
  rw [hcl, T.tyC, x]
  exact if_pos rfl
end VS

/-! VS, part 43: how far conditions are read, whatever the tokens are, and what is read. -/
namespace VS
open PySem PySem.Spec PyProof.Rows L2
def hdD : D → String
  | .tup (.str h :: _) => h | _ => ""
def inD : D → List D
  | .tup [_, .tup es] => es | _ => []
def flD (k : String) (ds : List D) : List D := ds.flatMap fun d => if hdD d = k then inD d else [d]
def joD (k : String) (ds : List D) : D := match ds with | [d] => d | ds => .tup [.str k, .tup (flD k ds)]
def lfL : List String := ["all", "none", "is"]
def unL : List String := ["not", "child", "below", "parent", "above", "earlier", "later"]
/-- a condition as data: how high, the parts of it -/
inductive CvD : Nat → D → List D → Prop
  | lf {h : Nat} {s : String} {r : List D} : s ∈ lfL → CvD (h + 1) (.tup (.str s :: r)) [.tup (.str s :: r)]
  | un {h : Nat} {w : String} {e : D} {ps : List D} : w ∈ unL → CvD h e ps → CvD (h + 1) (.tup [.str w, e]) (.tup [.str w, e] :: ps)
  | nr {h : Nat} {k : String} {es : List (D × List D)} : k = "and" ∨ k = "or" → (∀ e ∈ es, CvD h e.1 e.2) → CvD (h + 1) (.tup [.str k, .tup (es.map (·.1))]) (.tup [.str k, .tup (es.map (·.1))] :: (es.map (·.2)).flatten)
theorem CvD.mono {h k : Nat} {d : D} {ps : List D} (c : CvD h d ps) : h ≤ k → CvD k d ps := by
  induction c generalizing k with
  | lf a => intro z; obtain ⟨x, rfl⟩ : ∃ x, k = x + 1 := ⟨k - 1, by omega⟩; exact .lf a
  | un a _ ih => intro z; obtain ⟨x, rfl⟩ : ∃ x, k = x + 1 := ⟨k - 1, by omega⟩; exact .un a (ih (by omega))
  | nr a _ ih => intro z; obtain ⟨x, rfl⟩ : ∃ x, k = x + 1 := ⟨k - 1, by omega⟩; exact .nr a fun e he => ih e he (by omega)
theorem CvD.pos {h : Nat} {d : D} {ps : List D} (c : CvD h d ps) : 0 < h ∧ 1 ≤ ps.length := by
  cases c <;> exact ⟨Nat.succ_pos _, by simp⟩
theorem CvD.hd {h : Nat} {d : D} {ps : List D} (c : CvD h d ps) : ∃ r, d = .tup (.str (hdD d) :: r) := by
  cases c with
  | lf _ => exact ⟨_, rfl⟩
  | un _ _ => exact ⟨_, rfl⟩
  | nr _ _ => exact ⟨_, rfl⟩
theorem CvD.bin {h : Nat} {d : D} {ps : List D} (c : CvD h d ps) (hk : hdD d = "and" ∨ hdD d = "or") : ∃ es : List (D × List D), d = .tup [.str (hdD d), .tup (es.map (·.1))] ∧ inD d = es.map (·.1) ∧ (∀ e ∈ es, CvD h e.1 e.2) ∧ ((es.map (·.2)).flatten).length + 1 = ps.length := by
  cases c with
  | @lf h s r a =>
    have hk : s = "and" ∨ s = "or" := hk
    rcases hk with rfl | rfl <;> exact absurd a (by decide)
  | @un h w e ps a _ =>
    have hk : w = "and" ∨ w = "or" := hk
    rcases hk with rfl | rfl <;> exact absurd a (by decide)
  | @nr h k es a b => exact ⟨es, rfl, rfl, fun e he => (b e he).mono (by omega), rfl⟩
/-- some conditions -/
structure VL (h : Nat) (ds : List D) (L : Nat) : Prop where
  ex : ∃ es : List (D × List D), ds = es.map (·.1) ∧ (∀ e ∈ es, CvD h e.1 e.2) ∧ ((es.map (·.2)).flatten).length ≤ L
theorem VL.one {h L : Nat} {d : D} {ps : List D} (c : CvD h d ps) (l : ps.length ≤ L) : VL h [d] L := ⟨[(d, ps)], rfl, fun e he => by rw [List.mem_singleton] at he; subst he; exact c, by simpa using l⟩
theorem VL.cons {h L L' : Nat} {d : D} {ps ds : List D} (c : CvD h d ps) (l : ps.length ≤ L) (v : VL h ds L') : VL h (d :: ds) (L + L') := by
  obtain ⟨es, e1, e2, e3⟩ := v.ex
  refine ⟨(d, ps) :: es, by rw [e1]; rfl, fun e he => ?_, ?_⟩
  · rcases List.mem_cons.mp he with z | z
    · subst z; exact c
    · exact e2 e z
  · rw [List.map_cons, List.flatten_cons, List.length_append]; show ps.length + _ ≤ _; omega
theorem VL.flat {h : Nat} {k : String} (hk : k = "and" ∨ k = "or") : ∀ (es : List (D × List D)), (∀ e ∈ es, CvD h e.1 e.2) → ∃ es' : List (D × List D), flD k (es.map (·.1)) = es'.map (·.1) ∧ (∀ e ∈ es', CvD h e.1 e.2) ∧ ((es'.map (·.2)).flatten).length ≤ ((es.map (·.2)).flatten).length
  | [], _ => ⟨[], rfl, fun e he => (by cases he), Nat.le_refl _⟩
  | e :: es, H => by
    obtain ⟨es', i1, i2, i3⟩ := VL.flat hk es fun x hx => H x (List.mem_cons_of_mem _ hx)
    have ce := H e List.mem_cons_self
    have ef : flD k ((e :: es).map (·.1)) = (if hdD e.1 = k then inD e.1 else [e.1]) ++ flD k (es.map (·.1)) := rfl
    by_cases hh : hdD e.1 = k
    · obtain ⟨fs, j1, j2, j3, j4⟩ := ce.bin (by rw [hh]; exact hk)
      refine ⟨fs ++ es', ?_, fun x hx => ?_, ?_⟩
      · rw [ef, if_pos hh, j2, i1, List.map_append]
      · rcases List.mem_append.mp hx with z | z
        · exact j3 x z
        · exact i2 x z
      · rw [List.map_append, List.flatten_append, List.length_append, List.map_cons, List.flatten_cons, List.length_append]; omega
    · refine ⟨e :: es', ?_, fun x hx => ?_, ?_⟩
      · rw [ef, if_neg hh, i1]; rfl
      · rcases List.mem_cons.mp hx with z | z
        · subst z; exact ce
        · exact i2 x z
      · rw [List.map_cons, List.flatten_cons, List.length_append, List.map_cons, List.flatten_cons, List.length_append]; omega
theorem VL.jo {h L : Nat} {k : String} {ds : List D} (hk : k = "and" ∨ k = "or") (v : VL h ds L) (hn : ds ≠ []) : ∃ ps, CvD (h + 1) (joD k ds) ps ∧ (ps.length ≤ L ∨ (2 ≤ ds.length ∧ ps.length ≤ L + 1)) := by
  obtain ⟨es, rfl, e2, e3⟩ := v.ex
  match es, e2, e3, hn with
  | [e], e2, e3, _ =>
    refine ⟨e.2, (e2 e List.mem_cons_self).mono (by omega), .inl ?_⟩
    simpa using e3
  | a :: b :: es, e2, e3, _ =>
    obtain ⟨es', i1, i2, i3⟩ := VL.flat hk (a :: b :: es) e2
    have c : CvD (h + 1) (.tup [.str k, .tup (es'.map (·.1))]) (.tup [.str k, .tup (es'.map (·.1))] :: (es'.map (·.2)).flatten) := .nr hk i2
    rw [← i1] at c
    exact ⟨_, c, .inr ⟨by simp, by rw [List.length_cons]; omega⟩⟩
/-- 0 a factor, 1 factors with and, 2 terms with or; what may be spent; tokens ahead; read or not; how many; the values -/
inductive Pc : Nat → Nat → List String → Bool → Nat → List D → Prop
  | lf {n : Nat} {w : String} {l : List String} : w = "all" ∨ w = "none" → Pc 0 (n + 1) (w :: l) true 1 [.tup [.str w]]
  | is {n : Nat} {x : String} {l : List String} : nmB8 (x :: l) = true → Pc 0 (n + 1) ("is" :: x :: l) true 2 [.tup [.str "is", .str x]]
  | isN {n : Nat} {l : List String} : nmB8 l = false → Pc 0 (n + 1) ("is" :: l) false 1 []
  | un {n c : Nat} {w : String} {l : List String} {d : D} : w ∈ unL → Pc 0 n l true c [d] → Pc 0 (n + 1) (w :: l) true (1 + c) [.tup [.str w, d]]
  | unN {n c : Nat} {w : String} {l : List String} {ds : List D} : w ∈ unL → Pc 0 n l false c ds → Pc 0 (n + 1) (w :: l) false (1 + c) []
  | no {n : Nat} {l : List String} : (∀ x r, l = x :: r → x ≠ "(" ∧ x ∉ lfL ∧ x ∉ unL) → Pc 0 (n + 1) l false 0 []
  | par {n c : Nat} {l : List String} {ds : List D} : Pc 2 n l true c ds → isHd ")" (l.drop c) = true → Pc 0 (n + 3) ("(" :: l) true (1 + c + 1) [joD "or" ds]
  | parN {n c : Nat} {l : List String} {ds : List D} : Pc 2 n l true c ds → isHd ")" (l.drop c) = false → Pc 0 (n + 3) ("(" :: l) false (1 + c) []
  | parB {n c : Nat} {l : List String} {ds : List D} : Pc 2 n l false c ds → Pc 0 (n + 3) ("(" :: l) false (1 + c) []
  | tN {n c : Nat} {l : List String} {ds : List D} : Pc 0 n l false c ds → Pc 1 n l false c []
  | tE {n c : Nat} {l : List String} {d : D} : Pc 0 n l true c [d] → isHd "and" (l.drop c) = false → Pc 1 n l true c [d]
  | tM {n c c' : Nat} {b : Bool} {l : List String} {d : D} {ds : List D} : Pc 0 n l true c [d] → isHd "and" (l.drop c) = true → Pc 1 n (l.drop (c + 1)) b c' ds → Pc 1 n l b (c + 1 + c') (d :: ds)
  | cN {n c : Nat} {l : List String} {ds : List D} : Pc 1 n l false c ds → Pc 2 n l false c []
  | cE {n c : Nat} {l : List String} {ds : List D} : Pc 1 n l true c ds → isHd "or" (l.drop c) = false → Pc 2 n l true c [joD "and" ds]
  | cM {n c c' : Nat} {b : Bool} {l : List String} {ds ds' : List D} : Pc 1 n l true c ds → isHd "or" (l.drop c) = true → Pc 2 n (l.drop (c + 1)) b c' ds' → Pc 2 n l b (c + 1 + c') (joD "and" ds :: ds')
theorem Pc.pos {lv n c : Nat} {l : List String} {b : Bool} {ds : List D} (h : Pc lv n l b c ds) : 0 < n := by
  induction h <;> first | exact Nat.succ_pos _ | omega
theorem Pc.le {lv n c : Nat} {l : List String} {b : Bool} {ds : List D} (h : Pc lv n l b c ds) : c ≤ l.length ∧ (b = true → 1 ≤ c) := by
  induction h with
  | lf _ => exact ⟨by simp, fun _ => Nat.le_refl _⟩
  | is _ => exact ⟨by simp, fun _ => by omega⟩
  | isN _ => exact ⟨by simp, fun z => by cases z⟩
  | un _ _ ih => have := ih.1; exact ⟨by rw [List.length_cons]; omega, fun _ => by omega⟩
  | unN _ _ ih => have := ih.1; exact ⟨by rw [List.length_cons]; omega, fun z => by cases z⟩
  | no _ => exact ⟨Nat.zero_le _, fun z => by cases z⟩
  | par _ h ih =>
    have := hd_len h
    rw [List.length_drop] at this
    exact ⟨by rw [List.length_cons]; omega, fun _ => by omega⟩
  | parN _ _ ih => have := ih.1; exact ⟨by rw [List.length_cons]; omega, fun z => by cases z⟩
  | parB _ ih => have := ih.1; exact ⟨by rw [List.length_cons]; omega, fun z => by cases z⟩
  | tN _ ih => exact ih
  | tE _ _ ih => exact ih
  | tM _ h _ i1 i2 =>
    have := hd_len h
    have := i2.1
    rw [List.length_drop] at *
    exact ⟨by omega, fun _ => by omega⟩
  | cN _ ih => exact ih
  | cE _ _ ih => exact ih
  | cM _ h _ i1 i2 =>
    have := hd_len h
    have := i2.1
    rw [List.length_drop] at *
    exact ⟨by omega, fun _ => by omega⟩
def hof (lv n : Nat) : Nat := if lv = 2 then n + 1 else n
theorem Pc.ok {lv n c : Nat} {l : List String} {b : Bool} {ds : List D} (h : Pc lv n l b c ds) : b = true → ds ≠ [] ∧ (lv = 0 → ds.length = 1) ∧ ds.length ≤ 2 * c ∧ VL (hof lv n) ds (2 * c - ds.length) := by
  have one : ∀ {lv n c : Nat} {d : D} {ps : List D}, CvD (hof lv n) d ps → ps.length + 1 ≤ 2 * c → [d] ≠ [] ∧ (lv = 0 → [d].length = 1) ∧ [d].length ≤ 2 * c ∧ VL (hof lv n) [d] (2 * c - [d].length) := fun {lv n c d ps} h1 h2 =>
    ⟨by simp, fun _ => rfl, by show 1 ≤ _; omega, .one h1 (by show _ ≤ 2 * c - 1; omega)⟩
  have get : ∀ {h : Nat} {d : D} {L : Nat}, VL h [d] L → ∃ ps, CvD h d ps ∧ ps.length ≤ L := fun {h d L} v => by
    obtain ⟨es, e1, e2, e3⟩ := v.ex
    match es, e1, e2, e3 with
    | [e], e1, e2, e3 =>
      cases e1
      exact ⟨e.2, e2 e List.mem_cons_self, by simpa using e3⟩
  induction h with
  | @lf n w l hw => intro _; exact one (lv := 0) (CvD.lf (by rcases hw with rfl | rfl <;> decide)) (by show 1 + 1 ≤ 2; omega)
  | is _ => intro _; exact one (lv := 0) (CvD.lf (by decide)) (by show 1 + 1 ≤ 4; omega)
  | isN _ => intro z; cases z
  | un hw _ ih =>
    intro z
    obtain ⟨_, _, hl, v⟩ := ih z
    obtain ⟨ps, p1, p2⟩ := get v
    exact one (lv := 0) (CvD.un hw p1) (by rw [List.length_cons]; simp only [List.length_cons, List.length_nil] at p2 hl; omega)
  | unN _ _ _ => intro z; cases z
  | no _ => intro z; cases z
  | @par n c l ds _ _ ih =>
    intro z
    obtain ⟨hn, _, hl, v⟩ := ih z
    obtain ⟨ps, p1, p2⟩ := v.jo (.inr rfl) hn
    have hp := List.length_pos_iff.mpr hn
    exact one (lv := 0) (p1.mono (by show n + 1 + 1 ≤ n + 3; omega)) (by omega)
  | parN _ _ _ => intro z; cases z
  | parB _ _ => intro z; cases z
  | tN _ _ => intro z; cases z
  | tE _ _ ih => intro z; obtain ⟨a, _, b, c⟩ := ih z; exact ⟨a, fun z => (by cases z), b, c⟩
  | @tM n c c' b l d ds _ _ _ i1 i2 =>
    intro z
    obtain ⟨_, _, hl, v⟩ := i1 rfl
    obtain ⟨_, _, hl2, v2⟩ := i2 z
    obtain ⟨ps, p1, p2⟩ := get v
    obtain ⟨es, f1, f2, f3⟩ := (VL.cons p1 p2 v2).ex
    simp only [List.length_cons, List.length_nil] at hl f3
    exact ⟨by simp, fun z => (by cases z), by rw [List.length_cons]; omega, ⟨es, f1, f2, by rw [List.length_cons]; omega⟩⟩
  | cN _ _ => intro z; cases z
  | @cE n c l ds _ _ ih =>
    intro z
    obtain ⟨hn, _, hl, v⟩ := ih z
    obtain ⟨ps, p1, p2⟩ := v.jo (.inl rfl) hn
    have hp := List.length_pos_iff.mpr hn
    exact one (lv := 2) p1 (by omega)
  | @cM n c c' b l ds ds' _ _ _ i1 i2 =>
    intro z
    obtain ⟨hn, _, hl, v⟩ := i1 rfl
    obtain ⟨_, _, hl2, v2⟩ := i2 z
    obtain ⟨ps, p1, p2⟩ := v.jo (.inl rfl) hn
    have hp := List.length_pos_iff.mpr hn
    have p3 : ps.length ≤ 2 * c - 1 := by omega
    obtain ⟨es, f1, f2, f3⟩ := (VL.cons p1 p3 v2).ex
    exact ⟨by simp, fun z => (by cases z), by rw [List.length_cons]; omega, ⟨es, f1, f2, by rw [List.length_cons]; omega⟩⟩
end VS

/-! VS, part 44: conditions: how far is always told; the law's automaton; the grammar. -/
namespace VS
open PySem PySem.Spec PyProof.Rows L2
def uno : List String → Nat
  | [] => 0 | t :: r => (if t ∈ unL then 1 else 0) + uno r
theorem uno_app : ∀ a b, uno (a ++ b) = uno a + uno b
  | [], b => by show uno b = 0 + uno b; omega
  | t :: a, b => by show (if t ∈ unL then 1 else 0) + uno (a ++ b) = (if t ∈ unL then 1 else 0) + uno a + uno b; rw [uno_app a b]; omega
theorem uno_drop (l : List String) (k : Nat) : uno (l.drop k) ≤ uno l := by
  have := uno_app (l.take k) (l.drop k)
  rw [List.take_append_drop] at this; omega
theorem uno_take (l : List String) (k : Nat) : uno (l.take k) ≤ uno l := by
  have := uno_app (l.take k) (l.drop k)
  rw [List.take_append_drop] at this; omega
/-- what reading may cost: three a parenthesis that stands open, one a word before a factor -/
def mz (l : List String) : Int := 3 * mx l + (uno l : Int)
theorem pv_un {w : String} (h : w ∈ unL) : pv w = 0 := by
  simp only [unL, List.mem_cons, List.not_mem_nil, or_false] at h
  rcases h with rfl | rfl | rfl | rfl | rfl | rfl | rfl <;> decide
theorem mx_zero {w : String} {l : List String} (h : pv w = 0) : mx (w :: l) = mx l := by
  show max 0 (pv w + mx l) = mx l
  have := mx_pos l
  rw [h]; omega
theorem Pc.exi : ∀ (n : Nat) (l : List String), mz l < (n : Int) → ∀ lv, lv ≤ 2 → ∃ b c ds, Pc lv n l b c ds ∧ (b = true → nt (l.take c) = 0) := by
  intro n
  induction n using Nat.strongRecOn with
  | ind n ih =>
    have ps : ∀ l, 0 ≤ mz l := fun l => by have := mx_pos l; unfold mz; omega
    have A : ∀ l, mz l < (n : Int) → ∃ b c ds, Pc 0 n l b c ds ∧ (b = true → nt (l.take c) = 0) := fun l h => by
      obtain ⟨m, rfl⟩ : ∃ m, n = m + 1 := ⟨n - 1, by have := ps l; omega⟩
      cases l with
      | nil => exact ⟨_, _, _, .no fun x r e => (by cases e), fun z => by cases z⟩
      | cons w l =>
        by_cases h1 : w = "("
        · subst h1
          have e1 : mx ("(" :: l) = 1 + mx l := by
            show max 0 (pv "(" + mx l) = _
            have := mx_pos l
            rw [show pv "(" = 1 by decide]; omega
          have e2 : uno ("(" :: l) = uno l := by show (if "(" ∈ unL then 1 else 0) + uno l = _; rw [if_neg (by decide)]; omega
          have h : 3 * mx ("(" :: l) + (uno ("(" :: l) : Int) < ((m + 1 : Nat) : Int) := h
          rw [e1, e2] at h
          have := mx_pos l
          obtain ⟨k, rfl⟩ : ∃ k, m = k + 2 := ⟨m - 2, by omega⟩
          obtain ⟨b, c, ds, p, z⟩ := ih k (by omega) l (by unfold mz; omega) 2 (Nat.le_refl _)
          cases b with
          | false => exact ⟨_, _, _, .parB p, fun z => by cases z⟩
          | true =>
            cases h2 : isHd ")" (l.drop c) with
            | true =>
              refine ⟨_, _, _, .par p h2, fun _ => ?_⟩
              rw [show 1 + c + 1 = (c + 1) + 1 by omega, List.take_succ_cons]
              show pv "(" + nt (l.take (c + 1)) = 0
              rw [nt_hd h2, z rfl]; decide
            | false => exact ⟨_, _, _, .parN p h2, fun z => by cases z⟩
        by_cases h2 : w = "all" ∨ w = "none"
        · refine ⟨_, _, _, .lf h2, fun _ => ?_⟩
          show pv w + 0 = 0
          rcases h2 with rfl | rfl <;> decide
        by_cases h3 : w = "is"
        · subst h3
          cases hn : nmB8 l with
          | false => exact ⟨_, _, _, .isN hn, fun z => by cases z⟩
          | true =>
            cases l with
            | nil => cases hn
            | cons x l =>
              refine ⟨_, _, _, .is hn, fun _ => ?_⟩
              have hx := (and_of (show (wordB x && decide (x.length ≤ 8)) = true from hn)).1
              show pv "is" + (pv x + 0) = 0
              rw [pv_word hx]; decide
        by_cases h4 : w ∈ unL
        · have e2 : uno (w :: l) = 1 + uno l := by show (if w ∈ unL then 1 else 0) + uno l = _; rw [if_pos h4]
          have h : 3 * mx (w :: l) + (uno (w :: l) : Int) < ((m + 1 : Nat) : Int) := h
          rw [mx_zero (pv_un h4), e2] at h
          obtain ⟨b, c, ds, p, z⟩ := ih m (by omega) l (by unfold mz; omega) 0 (Nat.zero_le _)
          cases b with
          | false => exact ⟨_, _, _, .unN h4 p, fun z => by cases z⟩
          | true =>
            have := (p.ok rfl).2.1 rfl
            match ds, this with
            | [d], _ =>
              refine ⟨_, _, _, .un h4 p, fun _ => ?_⟩
              rw [Nat.add_comm 1 c, List.take_succ_cons]
              show pv w + nt (l.take c) = 0
              rw [pv_un h4, z rfl]; rfl
        · refine ⟨_, _, _, .no fun x r e => ?_, fun z => by cases z⟩
          cases e
          refine ⟨h1, fun z => ?_, h4⟩
          simp only [lfL, List.mem_cons, List.not_mem_nil, or_false] at z
          rcases z with z | z | z
          · exact h2 (.inl z)
          · exact h2 (.inr z)
          · exact h3 z
    have nx : ∀ {l : List String} {w : String} {c : Nat}, isHd w (l.drop c) = true → pv w = 0 → nt (l.take c) = 0 → nt (l.take (c + 1)) = 0 ∧ mz (l.drop (c + 1)) ≤ mz l := fun {l w c} hh hw hz => by
      have e : nt (l.take (c + 1)) = 0 := by rw [nt_hd hh, hz, hw]; rfl
      have h1 := mx_drop l (c + 1)
      have h2 := uno_drop l (c + 1)
      rw [e] at h1
      exact ⟨e, by unfold mz; omega⟩
    have B : ∀ k l, l.length < k → mz l < (n : Int) → ∃ b c ds, Pc 1 n l b c ds ∧ (b = true → nt (l.take c) = 0) := fun k => by
      induction k with
      | zero => intro l h; omega
      | succ k ihk =>
        intro l hl h
        obtain ⟨b, c, ds, p, z⟩ := A l h
        cases b with
        | false => exact ⟨_, _, _, .tN p, fun z => by cases z⟩
        | true =>
          have hc := (p.le).2 rfl
          have h0 := (p.le).1
          have := (p.ok rfl).2.1 rfl
          match ds, this with
          | [d], _ =>
            cases h3 : isHd "and" (l.drop c) with
            | false => exact ⟨_, _, _, .tE p h3, z⟩
            | true =>
              obtain ⟨n1, n2⟩ := nx h3 (by decide) (z rfl)
              obtain ⟨b', c', ds', p', z'⟩ := ihk (l.drop (c + 1)) (by rw [List.length_drop]; omega) (by omega)
              exact ⟨_, _, _, .tM p h3 p', fun hb => by rw [List.take_add, nt_app, n1, z' hb]; rfl⟩
    have C : ∀ k l, l.length < k → mz l < (n : Int) → ∃ b c ds, Pc 2 n l b c ds ∧ (b = true → nt (l.take c) = 0) := fun k => by
      induction k with
      | zero => intro l h; omega
      | succ k ihk =>
        intro l hl h
        obtain ⟨b, c, ds, p, z⟩ := B (l.length + 1) l (by omega) h
        cases b with
        | false => exact ⟨_, _, _, .cN p, fun z => by cases z⟩
        | true =>
          have hc := (p.le).2 rfl
          have h0 := (p.le).1
          cases h3 : isHd "or" (l.drop c) with
          | false => exact ⟨_, _, _, .cE p h3, z⟩
          | true =>
            obtain ⟨n1, n2⟩ := nx h3 (by decide) (z rfl)
            obtain ⟨b', c', ds', p', z'⟩ := ihk (l.drop (c + 1)) (by rw [List.length_drop]; omega) (by omega)
            exact ⟨_, _, _, .cM p h3 p', fun hb => by rw [List.take_add, nt_app, n1, z' hb]; rfl⟩
    intro l h lv hlv
    match lv, hlv with
    | 0, _ => exact A l h
    | 1, _ => exact B (l.length + 1) l (by omega) h
    | 2, _ => exact C (l.length + 1) l (by omega) h
    | k + 3, z => omega
theorem pv_bnd (s : String) : -1 ≤ pv s ∧ pv s ≤ 1 := by
  unfold pv
  split
  · omega
  · split <;> omega
theorem mx_tk (l : List String) (k : Nat) : mx (l.take k) ≤ mx l := by
  have := mx_app (l.take k) (l.drop k)
  rw [List.take_append_drop] at this
  omega
theorem mx_sw {l m : List String} {a c : Nat} (hm : mx m ≤ 1) (hn : nt m ≤ 1) (hc : c = 0 ∨ c = 1) (hh : c = 1 → a < l.length) : mx (l.take a ++ (m ++ l.drop (a + c))) ≤ mx l + 2 := by
  have h1 := mx_app (l.take a) (l.drop a)
  rw [List.take_append_drop] at h1
  rw [mx_app, mx_app]
  have h2 := nt_le (l.take a)
  rcases hc with rfl | rfl
  · rw [Nat.add_zero]; omega
  · have e : l.drop a = l[a]'(hh rfl) :: l.drop (a + 1) := List.drop_eq_getElem_cons (hh rfl)
    have h3 : mx (l.drop a) = max 0 (pv (l[a]'(hh rfl)) + mx (l.drop (a + 1))) := by rw [e]; rfl
    have := pv_bnd (l[a]'(hh rfl))
    omega
/-- the tokens of something whole -/
structure TkC (l : List String) (h u : Nat) : Prop where
  n : nt l = 0
  m : mx l ≤ (h : Int)
  u : uno l ≤ u
theorem TkC.mono {l : List String} {h u h' u' : Nat} (x : TkC l h u) (a : h ≤ h') (b : u ≤ u') : TkC l h' u' := ⟨x.n, by have := x.m; omega, by have := x.u; omega⟩
theorem TkC.cat {a b : List String} {h u v : Nat} (x : TkC a h u) (y : TkC b h v) : TkC (a ++ b) h (u + v) := by
  refine ⟨by rw [nt_app, x.n, y.n]; rfl, ?_, by rw [uno_app]; have := x.u; have := y.u; omega⟩
  rw [mx_app, x.n]
  have := x.m
  have := y.m
  omega
theorem TkC.one {s : String} {h u : Nat} (a : pv s = 0) (b : uno [s] ≤ u) : TkC [s] h u :=
  ⟨by rw [nt_one, a], by show max 0 (pv s + 0) ≤ (h : Int); rw [a]; omega, b⟩
theorem TkC.par {l : List String} {h u : Nat} (x : TkC l h u) : TkC ("(" :: (l ++ [")"])) (h + 1) u := by
  refine ⟨?_, ?_, ?_⟩
  · show pv "(" + nt (l ++ [")"]) = 0
    rw [nt_snoc, x.n]; decide
  · show max 0 (pv "(" + mx (l ++ [")"])) ≤ ((h + 1 : Nat) : Int)
    rw [mx_app, x.n, show pv "(" = 1 by decide, show mx [")"] = 0 by decide]
    have := x.m
    have := mx_pos l
    omega
  · show (if "(" ∈ unL then 1 else 0) + uno (l ++ [")"]) ≤ u
    rw [if_neg (by decide), uno_app, show uno [")"] = 0 by decide]
    have := x.u
    omega
/-! ### the law's automaton -/
def cStep (t st : String) (lv : Int) : String × Int :=
  if st = "name" then (if frstL t = true ∧ t.length ≤ 8 then ("behind", lv) else ("wrong", lv))
  else if st = "factor" then (if t ∈ ["all", "none"] then ("behind", lv) else if t = "is" then ("name", lv) else if t = "(" then ("factor", lv + 1) else if t ∈ unL then ("factor", lv) else ("wrong", lv))
  else if t ∈ ["and", "or"] then ("factor", lv) else if t = ")" ∧ 0 < lv then ("behind", lv - 1) else ("wrong", lv)
def cRun : String → Int → Nat → List String → Option Nat × String × Int
  | st, lv, _, [] => (none, st, lv)
  | st, lv, k, t :: r => if (cStep t st lv).1 = "wrong" then (some k, cStep t st lv) else cRun (cStep t st lv).1 (cStep t st lv).2 (k + 1) r
def cSt : String × Int → List String → Option (String × Int)
  | s, [] => some s
  | s, t :: r => if (cStep t s.1 s.2).1 = "wrong" then none else cSt (cStep t s.1 s.2) r
theorem cSt_app : ∀ (l m : List String) (s : String × Int), cSt s (l ++ m) = (cSt s l).bind fun s' => cSt s' m
  | [], m, s => rfl
  | t :: l, m, s => by
    show (if (cStep t s.1 s.2).1 = "wrong" then none else cSt (cStep t s.1 s.2) (l ++ m)) = (if (cStep t s.1 s.2).1 = "wrong" then none else cSt (cStep t s.1 s.2) l).bind _
    split
    · rfl
    · exact cSt_app l m _
theorem cRun_st : ∀ (l m : List String) (s s' : String × Int) (k : Nat), cSt s l = some s' → cRun s.1 s.2 k (l ++ m) = cRun s'.1 s'.2 (k + l.length) m
  | [], m, s, s', k, h => by cases h; rfl
  | t :: l, m, s, s', k, h => by
    have h : (if (cStep t s.1 s.2).1 = "wrong" then none else cSt (cStep t s.1 s.2) l) = some s' := h
    show (if (cStep t s.1 s.2).1 = "wrong" then (some k, cStep t s.1 s.2) else cRun (cStep t s.1 s.2).1 (cStep t s.1 s.2).2 (k + 1) (l ++ m)) = _
    by_cases z : (cStep t s.1 s.2).1 = "wrong"
    · rw [if_pos z] at h; cases h
    · rw [if_neg z] at h
      rw [if_neg z, cRun_st l m _ s' (k + 1) h, List.length_cons, show k + 1 + l.length = k + (l.length + 1) by omega]
theorem cSt_one {t : String} {s s' : String × Int} (h : cStep t s.1 s.2 = s') (hw : s'.1 ≠ "wrong") : cSt s [t] = some s' := by
  show (if (cStep t s.1 s.2).1 = "wrong" then none else some (cStep t s.1 s.2)) = _
  rw [h, if_neg hw]
theorem cSt_cons {t : String} {l : List String} {s s' s'' : String × Int} (h : cStep t s.1 s.2 = s') (hw : s'.1 ≠ "wrong") (hl : cSt s' l = some s'') : cSt s (t :: l) = some s'' := by
  show (if (cStep t s.1 s.2).1 = "wrong" then none else cSt (cStep t s.1 s.2) l) = _
  rw [h, if_neg hw, hl]
theorem cSt_cat {l m : List String} {s s' s'' : String × Int} (h : cSt s l = some s') (hl : cSt s' m = some s'') : cSt s (l ++ m) = some s'' := by rw [cSt_app, h]; exact hl
def tokZ (t : String) : Bool := wordB t || decide (t ∈ ["(", ")"])
theorem frst_z {t : String} (h : tokZ t = true) : frstL t = wordB t := by
  refine frst_word ?_
  unfold tokZ at h
  unfold tokX
  cases hw : wordB t with
  | true => rfl
  | false =>
    rw [hw, Bool.false_or] at h
    have h := of_decide_eq_true h
    simp only [List.mem_cons, List.not_mem_nil, or_false] at h
    rcases h with rfl | rfl <;> decide
theorem st_un {w : String} {L : Int} (h : w ∈ unL) : cStep w "factor" L = ("factor", L) := by
  simp only [unL, List.mem_cons, List.not_mem_nil, or_false] at h
  rcases h with rfl | rfl | rfl | rfl | rfl | rfl | rfl <;> rfl
theorem st_beh {x : String} {L : Int} (h1 : x ≠ "and") (h2 : x ≠ "or") (h3 : x ≠ ")" ∨ ¬ 0 < L) : (cStep x "behind" L).1 = "wrong" := by
  unfold cStep
  rw [if_neg (by decide), if_neg (by decide), if_neg (by simp [h1, h2]), if_neg]
  rintro ⟨a, b⟩
  rcases h3 with z | z
  · exact z a
  · exact z b
theorem hd_no {s x : String} {r l : List String} (h : isHd s l = false) (e : l = x :: r) : x ≠ s := by
  rw [e] at h
  exact of_decide_eq_false h
theorem Pc.au {lv n c : Nat} {l : List String} {b : Bool} {ds : List D} (h : Pc lv n l b c ds) : (∀ t ∈ l, tokZ t = true) → ∀ L : Int, 0 ≤ L → ∃ s, cSt ("factor", L) (l.take c) = some s ∧
    (b = true → s = ("behind", L) ∧ (1 ≤ lv → isHd "and" (l.drop c) = false) ∧ (2 ≤ lv → isHd "or" (l.drop c) = false)) ∧ (b = false → (s.1 ≠ "behind" ∨ 0 < s.2) ∧ ∀ x r, l.drop c = x :: r → (cStep x s.1 s.2).1 = "wrong") := by
  have nr : ¬ (1 : Nat) ≤ 0 := by omega
  have nr2 : ¬ (2 : Nat) ≤ 0 := by omega
  have nr3 : ¬ (2 : Nat) ≤ 1 := by omega
  have tk : ∀ {l : List String} {k : Nat}, (∀ t ∈ l, tokZ t = true) → ∀ t ∈ l.drop k, tokZ t = true := fun h t z => h t (List.mem_of_mem_drop z)
  have tl : ∀ {w : String} {l : List String}, (∀ t ∈ w :: l, tokZ t = true) → ∀ t ∈ l, tokZ t = true := fun h t z => h t (List.mem_cons_of_mem _ z)
  -- a binder
  have bind : ∀ {w : String} {l : List String} {c c' : Nat} {L : Int} {s : String × Int}, w = "and" ∨ w = "or" → isHd w (l.drop c) = true → cSt ("factor", L) (l.take c) = some ("behind", L) → cSt ("factor", L) ((l.drop (c + 1)).take c') = some s → cSt ("factor", L) (l.take (c + 1 + c')) = some s := fun {w l c c' L s} hw hh h1 h2 => by
    rw [List.take_add, take_hd hh, List.append_assoc]
    refine cSt_cat h1 (cSt_cons (s' := ("factor", L)) ?_ (show "factor" ≠ "wrong" by decide) h2)
    rcases hw with rfl | rfl <;> rfl
  induction h with
  | @lf n w l hw =>
    intro ht L hL
    refine ⟨("behind", L), cSt_one (by rcases hw with rfl | rfl <;> rfl) (show "behind" ≠ "wrong" by decide), fun _ => ⟨rfl, fun z => absurd z nr, fun z => absurd z nr2⟩, fun z => by cases z⟩
  | @is n x l hx =>
    intro ht L hL
    obtain ⟨h1, h2⟩ := and_of (show (wordB x && decide (x.length ≤ 8)) = true from hx)
    have h2 := of_decide_eq_true h2
    have hf : frstL x = true := by rw [frst_z (ht x (by simp))]; exact h1
    refine ⟨("behind", L), cSt_cons (s' := ("name", L)) rfl (show "name" ≠ "wrong" by decide) (cSt_one ?_ (show "behind" ≠ "wrong" by decide)), fun _ => ⟨rfl, fun z => absurd z nr, fun z => absurd z nr2⟩, fun z => by cases z⟩
    show cStep x "name" L = _
    unfold cStep
    rw [if_pos rfl, if_pos ⟨hf, h2⟩]
  | @isN n l hx =>
    intro ht L hL
    refine ⟨("name", L), cSt_one rfl (show "name" ≠ "wrong" by decide), fun z => (by cases z), fun _ => ⟨.inl (show "name" ≠ "behind" by decide), fun x r e => ?_⟩⟩
    have e : l = x :: r := e
    subst e
    have hx : (wordB x && decide (x.length ≤ 8)) = false := hx
    unfold cStep
    rw [if_pos rfl, if_neg]
    rintro ⟨a, b⟩
    rw [frst_z (ht x (by simp))] at a
    rw [a, decide_eq_true b] at hx; cases hx
  | @un n c w l d hw _ ih =>
    intro ht L hL
    obtain ⟨s, i1, i2, _⟩ := ih (tl ht) L hL
    obtain ⟨rfl, _⟩ := i2 rfl
    refine ⟨("behind", L), ?_, fun _ => ⟨rfl, fun z => absurd z nr, fun z => absurd z nr2⟩, fun z => by cases z⟩
    rw [Nat.add_comm 1 c, List.take_succ_cons]
    exact cSt_cons (st_un hw) (show "factor" ≠ "wrong" by decide) i1
  | @unN n c w l ds hw _ ih =>
    intro ht L hL
    obtain ⟨s, i1, _, i3⟩ := ih (tl ht) L hL
    obtain ⟨j1, j2⟩ := i3 rfl
    refine ⟨s, ?_, fun z => (by cases z), fun _ => ⟨j1, fun x r e => j2 x r (by rw [Nat.add_comm 1 c] at e; exact e)⟩⟩
    rw [Nat.add_comm 1 c, List.take_succ_cons]
    exact cSt_cons (st_un hw) (show "factor" ≠ "wrong" by decide) i1
  | @no n l hl =>
    intro ht L hL
    refine ⟨("factor", L), rfl, fun z => (by cases z), fun _ => ⟨.inl (show "factor" ≠ "behind" by decide), fun x r e => ?_⟩⟩
    obtain ⟨h1, h2, h3⟩ := hl x r e
    have h2a : x ∉ ["all", "none"] := fun z => h2 (by
      simp only [lfL, List.mem_cons, List.not_mem_nil, or_false] at z ⊢
      rcases z with z | z
      · exact .inl z
      · exact .inr (.inl z))
    have h2b : x ≠ "is" := fun z => h2 (by rw [z]; decide)
    unfold cStep
    rw [if_neg (show "factor" ≠ "name" by decide), if_pos rfl, if_neg h2a, if_neg h2b, if_neg h1, if_neg h3]
  | @par n c l ds _ hc ih =>
    intro ht L hL
    obtain ⟨s, i1, i2, _⟩ := ih (tl ht) (L + 1) (by omega)
    obtain ⟨rfl, _⟩ := i2 rfl
    refine ⟨("behind", L), ?_, fun _ => ⟨rfl, fun z => absurd z nr, fun z => absurd z nr2⟩, fun z => by cases z⟩
    rw [show 1 + c + 1 = (c + 1) + 1 by omega, List.take_succ_cons, take_hd hc]
    refine cSt_cons (s' := ("factor", L + 1)) rfl (show "factor" ≠ "wrong" by decide) (cSt_cat i1 (cSt_one ?_ (show "behind" ≠ "wrong" by decide)))
    show cStep ")" "behind" (L + 1) = _
    unfold cStep
    rw [if_neg (by decide), if_neg (by decide), if_neg (by decide), if_pos ⟨rfl, by omega⟩]
    exact congrArg _ (by omega)
  | @parN n c l ds _ hc ih =>
    intro ht L hL
    obtain ⟨s, i1, i2, _⟩ := ih (tl ht) (L + 1) (by omega)
    obtain ⟨rfl, n1, n2⟩ := i2 rfl
    refine ⟨("behind", L + 1), ?_, fun z => (by cases z), fun _ => ⟨.inr (show (0 : Int) < L + 1 by omega), fun x r e => ?_⟩⟩
    · rw [Nat.add_comm 1 c, List.take_succ_cons]
      exact cSt_cons (s' := ("factor", L + 1)) rfl (show "factor" ≠ "wrong" by decide) i1
    · rw [Nat.add_comm 1 c] at e
      have e : l.drop c = x :: r := e
      exact st_beh (hd_no (n1 (by omega)) e) (hd_no (n2 (by omega)) e) (.inl (hd_no hc e))
  | @parB n c l ds _ ih =>
    intro ht L hL
    obtain ⟨s, i1, _, i3⟩ := ih (tl ht) (L + 1) (by omega)
    obtain ⟨j1, j2⟩ := i3 rfl
    refine ⟨s, ?_, fun z => (by cases z), fun _ => ⟨j1, fun x r e => j2 x r (by rw [Nat.add_comm 1 c] at e; exact e)⟩⟩
    rw [Nat.add_comm 1 c, List.take_succ_cons]
    exact cSt_cons (s' := ("factor", L + 1)) rfl (show "factor" ≠ "wrong" by decide) i1
  | tN _ ih =>
    intro ht L hL
    obtain ⟨s, i1, _, i3⟩ := ih ht L hL
    exact ⟨s, i1, fun z => (by cases z), i3⟩
  | tE _ hn ih =>
    intro ht L hL
    obtain ⟨s, i1, i2, _⟩ := ih ht L hL
    exact ⟨s, i1, fun _ => ⟨(i2 rfl).1, fun _ => hn, fun z => absurd z nr3⟩, fun z => by cases z⟩
  | @tM n c c' b l d ds _ hn _ ih1 ih2 =>
    intro ht L hL
    obtain ⟨s, i1, i2, _⟩ := ih1 ht L hL
    obtain ⟨rfl, _⟩ := i2 rfl
    obtain ⟨s, j1, j2, j3⟩ := ih2 (tk ht) L hL
    rw [List.drop_drop] at j2 j3
    exact ⟨s, bind (.inl rfl) hn i1 j1, fun z => ⟨(j2 z).1, (j2 z).2.1, fun z => absurd z nr3⟩, j3⟩
  | cN _ ih =>
    intro ht L hL
    obtain ⟨s, i1, _, i3⟩ := ih ht L hL
    exact ⟨s, i1, fun z => (by cases z), i3⟩
  | cE _ hn ih =>
    intro ht L hL
    obtain ⟨s, i1, i2, _⟩ := ih ht L hL
    exact ⟨s, i1, fun _ => ⟨(i2 rfl).1, fun _ => (i2 rfl).2.1 (Nat.le_refl _), fun _ => hn⟩, fun z => by cases z⟩
  | @cM n c c' b l ds ds' _ hn _ ih1 ih2 =>
    intro ht L hL
    obtain ⟨s, i1, i2, _⟩ := ih1 ht L hL
    obtain ⟨rfl, _⟩ := i2 rfl
    obtain ⟨s, j1, j2, j3⟩ := ih2 (tk ht) L hL
    rw [List.drop_drop] at j2 j3
    exact ⟨s, bind (.inr rfl) hn i1 j1, j2, j3⟩
end VS

/-! VS, part 45: conditions as laws draw them: their tokens are read as they are. -/
namespace VS
open PySem PySem.Spec PyProof.Rows L2
/-- the tokens of a factor (0), a term (1), a condition (2), and how deep they stand -/
inductive Gr : Nat → Nat → Cond → List String → Prop
  | all {h : Nat} : Gr 0 (h + 1) .all ["all"]
  | none {h : Nat} : Gr 0 (h + 1) .none ["none"]
  | is {h : Nat} {n : String} : wordB n = true → n.length ≤ 8 → Gr 0 (h + 1) (.is n) ["is", n]
  | not {h : Nat} {c : Cond} {l : List String} : Gr 0 h c l → Gr 0 (h + 1) (.not c) ("not" :: l)
  | look {h : Nat} {k : Look} {c : Cond} {l : List String} : Gr 0 h c l → Gr 0 (h + 1) (.look k c) (k.nm :: l)
  | par {h : Nat} {c : Cond} {l : List String} : Gr 2 h c l → Gr 0 (h + 1) c ("(" :: (l ++ [")"]))
  | term {h : Nat} {c : Cond} {l : List String} : Gr 0 h c l → Gr 1 h c l
  | and {h : Nat} {c d : Cond} {l m : List String} : Gr 0 h c l → Gr 0 h d m → hdC c ≠ "and" → hdC d ≠ "and" → Gr 1 h (.bin true c d) (l ++ ("and" :: m))
  | cond {h : Nat} {c : Cond} {l : List String} : Gr 1 h c l → Gr 2 h c l
  | or {h : Nat} {c d : Cond} {l m : List String} : Gr 1 h c l → Gr 1 h d m → hdC c ≠ "or" → hdC d ≠ "or" → Gr 2 h (.bin false c d) (l ++ ("or" :: m))
theorem Gr.pos {k h : Nat} {c : Cond} {l : List String} (g : Gr k h c l) : 0 < h := by
  induction g <;> first | exact Nat.succ_pos _ | assumption
theorem Gr.mono {k h h' : Nat} {c : Cond} {l : List String} (g : Gr k h c l) : h ≤ h' → Gr k h' c l := by
  induction g generalizing h' with
  | all => intro z; obtain ⟨x, rfl⟩ : ∃ x, h' = x + 1 := ⟨h' - 1, by omega⟩; exact .all
  | none => intro z; obtain ⟨x, rfl⟩ : ∃ x, h' = x + 1 := ⟨h' - 1, by omega⟩; exact .none
  | is a b => intro z; obtain ⟨x, rfl⟩ : ∃ x, h' = x + 1 := ⟨h' - 1, by omega⟩; exact .is a b
  | not _ ih => intro z; obtain ⟨x, rfl⟩ : ∃ x, h' = x + 1 := ⟨h' - 1, by omega⟩; exact .not (ih (by omega))
  | look _ ih => intro z; obtain ⟨x, rfl⟩ : ∃ x, h' = x + 1 := ⟨h' - 1, by omega⟩; exact .look (ih (by omega))
  | par _ ih => intro z; obtain ⟨x, rfl⟩ : ∃ x, h' = x + 1 := ⟨h' - 1, by omega⟩; exact .par (ih (by omega))
  | term _ ih => exact fun z => .term (ih z)
  | and _ _ a b i j => exact fun z => .and (i z) (j z) a b
  | cond _ ih => exact fun z => .cond (ih z)
  | or _ _ a b i j => exact fun z => .or (i z) (j z) a b
theorem hdD_enc (c : Cond) : hdD (encC c) = hdC c := by cases c <;> rfl
def vaD (lv : Nat) (ds : List D) : D := if lv = 2 then joD "or" ds else joD "and" ds
theorem joD_two {k : String} {c d : Cond} (h1 : hdC c ≠ k) (h2 : hdC d ≠ k) : joD k [encC c, encC d] = .tup [.str k, .tup [encC c, encC d]] := by
  show D.tup [.str k, .tup ((if hdD (encC c) = k then inD (encC c) else [encC c]) ++ ((if hdD (encC d) = k then inD (encC d) else [encC d]) ++ []))] = _
  rw [hdD_enc, hdD_enc, if_neg h1, if_neg h2]; rfl
theorem not_hd {s : String} {r : List String} (h : NotW s r) : isHd s r = false := by
  cases r with
  | nil => rfl
  | cons x r => exact decide_eq_false (h x r rfl)
theorem drop_app {l r : List String} : (l ++ r).drop l.length = r := by rw [List.drop_append_of_le_length (Nat.le_refl _), List.drop_length]; rfl
theorem Gr.pc {lv h : Nat} {c : Cond} {l : List String} (g : Gr lv h c l) : ∀ (n : Nat) (r : List String), 3 * h ≤ n → (1 ≤ lv → NotW "and" r) → (2 ≤ lv → NotW "or" r) → ∃ ds, Pc lv n (l ++ r) true l.length ds ∧ vaD lv ds = encC c := by
  have fac : ∀ {n k : Nat} {l : List String} {ds : List D} {c : Cond}, Pc 0 n l true k ds → vaD 0 ds = encC c → Pc 0 n l true k [encC c] := fun {n k l ds c} p e => by
    have := (p.ok rfl).2.1 rfl
    match ds, this with
    | [d], _ =>
      have e : d = encC c := e
      subst e; exact p
  induction g with
  | @all h => intro n r hn _ _; obtain ⟨m, rfl⟩ : ∃ m, n = m + 1 := ⟨n - 1, by omega⟩; exact ⟨_, .lf (.inl rfl), rfl⟩
  | @none h => intro n r hn _ _; obtain ⟨m, rfl⟩ : ∃ m, n = m + 1 := ⟨n - 1, by omega⟩; exact ⟨_, .lf (.inr rfl), rfl⟩
  | @is h x w1 w2 =>
    intro n r hn _ _
    obtain ⟨m, rfl⟩ : ∃ m, n = m + 1 := ⟨n - 1, by omega⟩
    exact ⟨_, .is (by show (wordB x && decide (x.length ≤ 8)) = true; rw [w1, decide_eq_true w2]; rfl), rfl⟩
  | @not h c l _ ih =>
    intro n r hn _ _
    obtain ⟨m, rfl⟩ : ∃ m, n = m + 1 := ⟨n - 1, by omega⟩
    obtain ⟨ds, p, e⟩ := ih m r (by omega) (fun z => absurd z (by omega)) (fun z => absurd z (by omega))
    refine ⟨[encC (.not c)], ?_, rfl⟩
    rw [List.length_cons, Nat.add_comm l.length 1]
    exact Pc.un (show "not" ∈ unL by decide) (fac p e)
  | @look h k c l _ ih =>
    intro n r hn _ _
    obtain ⟨m, rfl⟩ : ∃ m, n = m + 1 := ⟨n - 1, by omega⟩
    obtain ⟨ds, p, e⟩ := ih m r (by omega) (fun z => absurd z (by omega)) (fun z => absurd z (by omega))
    refine ⟨[encC (.look k c)], ?_, rfl⟩
    rw [List.length_cons, Nat.add_comm l.length 1]
    exact Pc.un (show k.nm ∈ unL by cases k <;> decide) (fac p e)
  | @par h c l _ ih =>
    intro n r hn _ _
    obtain ⟨m, rfl⟩ : ∃ m, n = m + 3 := ⟨n - 3, by omega⟩
    obtain ⟨ds, p, e⟩ := ih m (")" :: r) (by omega) (fun _ x r' z => by injection z with z _; rw [← z]; decide) (fun _ x r' z => by injection z with z _; rw [← z]; decide)
    have e : joD "or" ds = encC c := e
    refine ⟨[joD "or" ds], ?_, e⟩
    have := Pc.par p (by rw [drop_app]; exact hd_self)
    rw [show "(" :: (l ++ [")"]) ++ r = "(" :: (l ++ ")" :: r) by simp, show ("(" :: (l ++ [")"])).length = 1 + l.length + 1 by rw [List.length_cons, List.length_append]; show l.length + 1 + 1 = _; omega]
    exact this
  | @term h c l _ ih =>
    intro n r hn na _
    obtain ⟨ds, p, e⟩ := ih n r hn (fun z => absurd z (by omega)) (fun z => absurd z (by omega))
    exact ⟨_, .tE (fac p e) (by rw [drop_app]; exact not_hd (na (by omega))), rfl⟩
  | @and h c d l m _ _ hc hd ih1 ih2 =>
    intro n r hn na _
    obtain ⟨ds, p, e⟩ := ih1 n ("and" :: (m ++ r)) hn (fun z => absurd z (by omega)) (fun z => absurd z (by omega))
    obtain ⟨ds', p', e'⟩ := ih2 n r hn (fun z => absurd z (by omega)) (fun z => absurd z (by omega))
    have q : Pc 1 n (m ++ r) true m.length [encC d] := .tE (fac p' e') (by rw [drop_app]; exact not_hd (na (by omega)))
    have ed : (l ++ "and" :: (m ++ r)).drop (l.length + 1) = m ++ r := by rw [← List.drop_drop, drop_app]; rfl
    have := Pc.tM (fac p e) (by rw [drop_app]; exact hd_self) (by rw [ed]; exact q)
    refine ⟨[encC c, encC d], ?_, joD_two hc hd⟩
    rw [List.append_assoc, List.cons_append, List.length_append, List.length_cons, show l.length + (m.length + 1) = l.length + 1 + m.length by omega]
    exact this
  | @cond h c l _ ih =>
    intro n r hn na no
    obtain ⟨ds, p, e⟩ := ih n r hn (fun _ => na (by omega)) (fun z => absurd z (by omega))
    have e : joD "and" ds = encC c := e
    exact ⟨_, .cE p (by rw [drop_app]; exact not_hd (no (by omega))), e⟩
  | @or h c d l m _ _ hc hd ih1 ih2 =>
    intro n r hn na no
    obtain ⟨ds, p, e⟩ := ih1 n ("or" :: (m ++ r)) hn (fun _ x r' z => by injection z with z _; rw [← z]; decide) (fun z => absurd z (by omega))
    obtain ⟨ds', p', e'⟩ := ih2 n r hn (fun _ => na (by omega)) (fun z => absurd z (by omega))
    have e : joD "and" ds = encC c := e
    have e' : joD "and" ds' = encC d := e'
    have q : Pc 2 n (m ++ r) true m.length [joD "and" ds'] := .cE p' (by rw [drop_app]; exact not_hd (no (by omega)))
    have ed : (l ++ "or" :: (m ++ r)).drop (l.length + 1) = m ++ r := by rw [← List.drop_drop, drop_app]; rfl
    have := Pc.cM p (by rw [drop_app]; exact hd_self) (by rw [ed]; exact q)
    rw [e, e'] at this
    refine ⟨[encC c, encC d], ?_, joD_two hc hd⟩
    rw [List.append_assoc, List.cons_append, List.length_append, List.length_cons, show l.length + (m.length + 1) = l.length + 1 + m.length by omega]
    exact this
/-- a condition and all within it -/
def subC : Cond → List Cond
  | .not c => .not c :: subC c | .bin b c d => .bin b c d :: (subC c ++ subC d) | .look l c => .look l c :: subC c | .all => [.all] | .none => [.none] | .is s => [.is s]
theorem sub_len : ∀ c : Cond, ((subC c).length : Int) = partsC c
  | .all => rfl
  | .none => rfl
  | .is _ => rfl
  | .not c => by have := sub_len c; simp only [subC, partsC, List.length_cons, List.sum_cons, List.sum_nil]; omega
  | .look _ c => by have := sub_len c; simp only [subC, partsC, List.length_cons, List.sum_cons, List.sum_nil]; omega
  | .bin _ c d => by have := sub_len c; have := sub_len d; simp only [subC, partsC, List.length_cons, List.length_append, List.sum_cons, List.sum_nil]; omega
def lkL : List String := ["child", "below", "parent", "above", "earlier", "later"]
def lkD (d : D) : Bool := decide (hdD d ∈ lkL)
theorem lk_enc (c : Cond) : lkD (encC c) = match c with | .look _ _ => true | _ => false := by
  unfold lkD
  rw [hdD_enc]
  cases c with
  | all => decide
  | none => decide
  | is s => show decide ("is" ∈ lkL) = false; decide
  | not c => show decide ("not" ∈ lkL) = false; decide
  | bin b c d =>
    show decide (binN b ∈ lkL) = false
    cases b <;> decide
  | look l c => show decide (l.nm ∈ lkL) = true; cases l <;> decide
theorem sub_look : ∀ c : Cond, ((((subC c).map encC).filter lkD).length : Int) = looksC c
  | .all => by show ((List.filter lkD [encC .all]).length : Int) = 0; rw [List.filter_cons_of_neg (by rw [lk_enc]; exact Bool.false_ne_true)]; rfl
  | .none => by show ((List.filter lkD [encC .none]).length : Int) = 0; rw [List.filter_cons_of_neg (by rw [lk_enc]; exact Bool.false_ne_true)]; rfl
  | .is s => by show ((List.filter lkD [encC (.is s)]).length : Int) = 0; rw [List.filter_cons_of_neg (by rw [lk_enc]; exact Bool.false_ne_true)]; rfl
  | .not c => by
    have := sub_look c
    rw [show subC (.not c) = .not c :: subC c from rfl, List.map_cons, List.filter_cons_of_neg (by rw [lk_enc]; exact Bool.false_ne_true)]
    simp only [looksC, List.sum_cons, List.sum_nil]; omega
  | .look l c => by
    have := sub_look c
    rw [show subC (.look l c) = .look l c :: subC c from rfl, List.map_cons, List.filter_cons_of_pos (by rw [lk_enc])]
    simp only [looksC, List.sum_cons, List.sum_nil, List.length_cons]; omega
  | .bin b c d => by
    have := sub_look c
    have := sub_look d
    rw [show subC (.bin b c d) = .bin b c d :: (subC c ++ subC d) from rfl, List.map_cons, List.filter_cons_of_neg (by rw [lk_enc]; exact Bool.false_ne_true), List.map_append, List.filter_append]
    simp only [looksC, List.sum_cons, List.sum_nil, List.length_append]; omega
theorem cv_enc : ∀ c : Cond, CvD (htC c) (encC c) ((subC c).map encC)
  | .all => .lf (h := 0) (by decide)
  | .none => .lf (h := 0) (by decide)
  | .is s => .lf (h := 0) (by decide)
  | .not c => .un (by decide) (cv_enc c)
  | .look l c => .un (by cases l <;> decide) (cv_enc c)
  | .bin b c d => by
    have h1 := (cv_enc c).mono (show htC c ≤ max (htC c) (htC d) by omega)
    have h2 := (cv_enc d).mono (show htC d ≤ max (htC c) (htC d) by omega)
    have := CvD.nr (k := binN b) (es := [(encC c, (subC c).map encC), (encC d, (subC d).map encC)]) (by cases b; exact .inr rfl; exact .inl rfl) fun e he => by
      rcases List.mem_cons.mp he with z | z
      · subst z; exact h1
      · rw [List.mem_singleton] at z; subst z; exact h2
    show CvD (max (htC c) (htC d) + 1) (.tup [.str (binN b), .tup [encC c, encC d]]) (.tup [.str (binN b), .tup [encC c, encC d]] :: (subC c ++ subC d).map encC)
    rw [List.map_append]
    simpa using this
end VS

set_option maxHeartbeats 1000000
/-! VS, part 46: a, b = constants. -/
namespace VS
open PySem PySem.Spec PyProof.Rows L2
def cst2B (e : Expr) : Bool := match e with | .Tuple vs _ _ => vs.all (foldedForSure 8) | _ => false
def mAsgT (t : Tg) : Ms := fun N sc s => match s with
  | .Assign [.Tuple es k pos'] e _ => if (isTg N sc (fun _ => true) t (.Tuple es k pos') && !compB e && cst2B e) = true then some [e] else none
  | _ => none
def wAsgT (t : Tg) : WS := fun ds K σ M _ => ∃ d, ds = [d] ∧ gTg t d σ fun σ' => K.nx σ' M
theorem sw_const {es : List Expr} {k pos'} {e : Expr} {env : PySem.Env} (h : cst2B e = true) : swappedStores [.Tuple es k pos'] e env = pure none := by
  cases e <;> first | (cases h; done) | skip
  rename_i vs k2 p2
  have h : vs.all (foldedForSure 8) = true := h
  unfold swappedStores
  simp only [pure_bind]
  split
  · rfl
  · split
    · rfl
    · split
      · rfl
      · first | rfl | rw [if_pos h]
theorem ps_asgT {G : Glob} {k n : Nat} {t : Tg} : PsF G k (mAsgT t) (wAsgT t) n := ⟨fun {C X} K hG hk {es s xs} hl hm hx ha => by
  unfold mAsgT at hm
  split at hm
  · rename_i ts k pos' e pos
    split at hm
    · rename_i hb
      cases hm
      obtain ⟨h, h4⟩ := and_of hb
      obtain ⟨h1, h3⟩ := and_of h
      cases es with
      | nil => exact absurd hx Bool.false_ne_true
      | cons p ps =>
        cases ps with
        | cons q qs => exact absurd (and_of hx).2 Bool.false_ne_true
        | nil =>
          have h2 := (and_of hx).1
          have hp := ha.1
          refine PS.imp (ps_asg (hp e h2) (tg_pg K.g.calm K.g.nd (fun x _ => K.fn x) t h1) (show swapsWith e (some (.Tuple ts k pos')) pos.line X.env = pure false from swaps_no K (not_t K h3) _ _ _) (sw_const h4) rfl) fun D σ H ⟨σd, M, R, F, Kd, sr, q, w⟩ => ?_
          have q : dE C.E p σd M fun d M1 => ∃ d', [d] = [d'] ∧ gTg t d' σd fun σ' => Kd.nx σ' M1 := q
          refine ⟨σd, M, R, F, _, sr, q, fun d M1 v F1 H1 q1 e1 g1 r1 => ?_⟩
          obtain ⟨d', ed, q1⟩ := q1
          cases ed
          refine tg_mono t (tg_sem K.g.K g1 t r1 (sr.env.mono e1) q1) ?_
          intro σ2 H2 ⟨e2, _, σd2, env2, q2⟩
          subst e2
          exact w.nx σd2 M1 F1 σ2 _ q2 e1 ⟨sr.e, sr.f0.trans e1, env2, g1⟩
    · cases hm
  · cases hm⟩
end VS

namespace VS.K46
open PySem PySem.Spec PyProof.Rows L2 VS
def top (i : Nat) : PySem.Stmt := PySem.Challenge.pw_soonsettled_k46_errors_of_conditions.main.body.getD i (.Pass ⟨0, 0, 0, 0⟩)
def g_NAME_MOST : D := .int 8
def g_LOOKS : D := .tup [.str "child", .str "below", .str "parent", .str "above", .str "earlier", .str "later"]
def g_PARTS_MOST : D := .int 12
def g_LOOKS_MOST : D := .int 4
abbrev s_is_letter : PySem.Stmt := top 5
def n_is_letter : List Str := ["char"]
theorem sc_is_letter : FnScope n_is_letter ["char"] (defScope s_is_letter) := ⟨by decide +kernel, by decide +kernel, by decide +kernel, by decide +kernel, by decide +kernel, by decide +kernel, by decide +kernel⟩
def c_is_letter : Sts :=
  (.cons (.ret (.cmp2 .le .le (.c (.str "a")) (.v 0) (.c (.str "z"))))
  .nil)
theorem m_is_letter : isSs n_is_letter (defScope s_is_letter) (c_is_letter ) (defBody s_is_letter) = true :=
  by_bare (c0 := eSs (c_is_letter )) rfl (by decide +kernel)
abbrev s_word_end : PySem.Stmt := top 6
def n_word_end : List Str := ["text", "start", "at"]
theorem sc_word_end : FnScope n_word_end ["text", "start"] (defScope s_word_end) := ⟨by decide +kernel, by decide +kernel, by decide +kernel, by decide +kernel, by decide +kernel, by decide +kernel, by decide +kernel⟩
def c_word_end (p_is_letter : Spec) : Sts :=
  (.cons (.asg 2 (.v 1))
  (.cons (.whl (.and (.cons (.val (.cmp .lt (.v 2) (.bi .len (.cons (.v 0) .nil)))) (.cons (.val (.call "is_letter" p_is_letter (.cons (.ix (.v 0) (.v 2)) .nil))) .nil)))
  (.cons (.aug .add 2 (.c (.int 1)))
  .nil))
  (.cons (.ret (.v 2))
  .nil)))
theorem m_word_end (p_is_letter : Spec) : isSs n_word_end (defScope s_word_end) (c_word_end p_is_letter) (defBody s_word_end) = true :=
  by_bare (c0 := eSs (c_word_end sp0)) rfl (by decide +kernel)
abbrev s_tokens : PySem.Stmt := top 7
def n_tokens : List Str := ["text", "signs", "found", "at", "char", "end"]
theorem sc_tokens : FnScope n_tokens ["text", "signs"] (defScope s_tokens) := ⟨by decide +kernel, by decide +kernel, by decide +kernel, by decide +kernel, by decide +kernel, by decide +kernel, by decide +kernel⟩
def c_tokens (p_is_letter p_word_end : Spec) : Sts :=
  (.cons (.asg 2 (.mlst .nil))
  (.cons (.asg 3 (.c (.int 0)))
  (.cons (.whl (.val (.cmp .lt (.v 3) (.bi .len (.cons (.v 0) .nil))))
  (.cons (.asg 4 (.ix (.v 0) (.v 3)))
  (.cons (.iff (.val (.call "is_letter" p_is_letter (.cons (.v 4) .nil)))
  (.cons (.asg 5 (.call "word_end" p_word_end (.cons (.v 0) (.cons (.v 3) .nil))))
  (.cons (.ex (.mth .append (.v 2) (.cons (.tup (.cons (.c (.str "word")) (.cons (.sl (.v 0) true true (.v 3) (.v 5)) (.cons (.v 3) .nil)))) .nil)))
  (.cons (.asg 3 (.v 5))
  (.cons .cnt
  .nil))))
  .nil)
  (.cons (.iff (.val (.cmp .in_ (.v 4) (.v 1)))
  (.cons (.ex (.mth .append (.v 2) (.cons (.tup (.cons (.c (.str "sign")) (.cons (.v 4) (.cons (.v 3) .nil)))) .nil)))
  .nil)
  (.cons (.iff (.val (.cmp .nin (.v 4) (.tup (.cons (.c (.str " ")) (.cons (.c (.str "\n")) .nil)))))
  (.cons (.pr (mRaise "TextError") (wRaise "TextError") (.cons (.v 3) (.cons (.c (.str "unknown character")) .nil)))
  .nil)
  .nil)
  .nil))
  (.cons (.aug .add 3 (.c (.int 1)))
  .nil)))))
  (.gh (frzG 2) (.cons (.ret (.v 2))
  .nil)))))
theorem m_tokens (p_is_letter p_word_end : Spec) : isSs n_tokens (defScope s_tokens) (c_tokens p_is_letter p_word_end) (defBody s_tokens) = true :=
  by_bare (c0 := eSs (c_tokens sp0 sp0)) rfl (by decide +kernel)
abbrev s_Reader___init__ : PySem.Stmt := L2.inClass (top 8) 0
def n_Reader___init__ : List Str := ["self", "text", "signs"]
theorem sc_Reader___init__ : FnScope n_Reader___init__ ["self", "text", "signs"] (defScope s_Reader___init__) := ⟨by decide +kernel, by decide +kernel, by decide +kernel, by decide +kernel, by decide +kernel, by decide +kernel, by decide +kernel⟩
def c_Reader___init__ (p_tokens : Spec) : Sts :=
  (.cons (.fld "Reader" (.v 0) "size" (.bi .len (.cons (.v 1) .nil)))
  (.cons (.fld "Reader" (.v 0) "parts" (.call "tokens" p_tokens (.cons (.v 1) (.cons (.v 2) .nil))))
  (.cons (.fld "Reader" (.v 0) "taken" (.c (.int 0)))
  .nil)))
theorem m_Reader___init__ (p_tokens : Spec) : isSs n_Reader___init__ (defScope s_Reader___init__) (c_Reader___init__ p_tokens) (defBody s_Reader___init__) = true :=
  by_bare (c0 := eSs (c_Reader___init__ sp0)) rfl (by decide +kernel)
abbrev s_Reader_kind : PySem.Stmt := L2.inClass (top 8) 1
def n_Reader_kind : List Str := ["self"]
theorem sc_Reader_kind : FnScope n_Reader_kind ["self"] (defScope s_Reader_kind) := ⟨by decide +kernel, by decide +kernel, by decide +kernel, by decide +kernel, by decide +kernel, by decide +kernel, by decide +kernel⟩
def c_Reader_kind : Sts :=
  (.cons (.ret (.ife (.val (.cmp .lt (.attr "Reader" (.v 0) "taken") (.bi .len (.cons (.attr "Reader" (.v 0) "parts") .nil)))) (.ix (.ix (.attr "Reader" (.v 0) "parts") (.attr "Reader" (.v 0) "taken")) (.c (.int 0))) (.c (.str "end"))))
  .nil)
theorem m_Reader_kind : isSs n_Reader_kind (defScope s_Reader_kind) (c_Reader_kind ) (defBody s_Reader_kind) = true :=
  by_bare (c0 := eSs (c_Reader_kind )) rfl (by decide +kernel)
abbrev s_Reader_value : PySem.Stmt := L2.inClass (top 8) 2
def n_Reader_value : List Str := ["self"]
theorem sc_Reader_value : FnScope n_Reader_value ["self"] (defScope s_Reader_value) := ⟨by decide +kernel, by decide +kernel, by decide +kernel, by decide +kernel, by decide +kernel, by decide +kernel, by decide +kernel⟩
def c_Reader_value : Sts :=
  (.cons (.ret (.ife (.val (.cmp .lt (.attr "Reader" (.v 0) "taken") (.bi .len (.cons (.attr "Reader" (.v 0) "parts") .nil)))) (.ix (.ix (.attr "Reader" (.v 0) "parts") (.attr "Reader" (.v 0) "taken")) (.c (.int 1))) (.c .non)))
  .nil)
theorem m_Reader_value : isSs n_Reader_value (defScope s_Reader_value) (c_Reader_value ) (defBody s_Reader_value) = true :=
  by_bare (c0 := eSs (c_Reader_value )) rfl (by decide +kernel)
abbrev s_Reader_spot : PySem.Stmt := L2.inClass (top 8) 3
def n_Reader_spot : List Str := ["self"]
theorem sc_Reader_spot : FnScope n_Reader_spot ["self"] (defScope s_Reader_spot) := ⟨by decide +kernel, by decide +kernel, by decide +kernel, by decide +kernel, by decide +kernel, by decide +kernel, by decide +kernel⟩
def c_Reader_spot : Sts :=
  (.cons (.ret (.ife (.val (.cmp .lt (.attr "Reader" (.v 0) "taken") (.bi .len (.cons (.attr "Reader" (.v 0) "parts") .nil)))) (.ix (.ix (.attr "Reader" (.v 0) "parts") (.attr "Reader" (.v 0) "taken")) (.c (.int 2))) (.attr "Reader" (.v 0) "size")))
  .nil)
theorem m_Reader_spot : isSs n_Reader_spot (defScope s_Reader_spot) (c_Reader_spot ) (defBody s_Reader_spot) = true :=
  by_bare (c0 := eSs (c_Reader_spot )) rfl (by decide +kernel)
abbrev s_Reader_fail : PySem.Stmt := L2.inClass (top 8) 4
def n_Reader_fail : List Str := ["self"]
theorem sc_Reader_fail : FnScope n_Reader_fail ["self"] (defScope s_Reader_fail) := ⟨by decide +kernel, by decide +kernel, by decide +kernel, by decide +kernel, by decide +kernel, by decide +kernel, by decide +kernel⟩
def c_Reader_fail (p_Reader_spot p_Reader_kind : Spec) : Sts :=
  (.cons (.pr (mRaise "TextError") (wRaise "TextError") (.cons (.meth "Reader" "spot" p_Reader_spot (.v 0) .nil) (.cons (.ife (.val (.cmp .eq (.meth "Reader" "kind" p_Reader_kind (.v 0) .nil) (.c (.str "end")))) (.c (.str "unexpected end")) (.c (.str "unexpected token"))) .nil)))
  .nil)
theorem m_Reader_fail (p_Reader_spot p_Reader_kind : Spec) : isSs n_Reader_fail (defScope s_Reader_fail) (c_Reader_fail p_Reader_spot p_Reader_kind) (defBody s_Reader_fail) = true :=
  by_bare (c0 := eSs (c_Reader_fail sp0 sp0)) rfl (by decide +kernel)
abbrev s_Reader_is_sign : PySem.Stmt := L2.inClass (top 8) 5
def n_Reader_is_sign : List Str := ["self", "sign"]
theorem sc_Reader_is_sign : FnScope n_Reader_is_sign ["self", "sign"] (defScope s_Reader_is_sign) := ⟨by decide +kernel, by decide +kernel, by decide +kernel, by decide +kernel, by decide +kernel, by decide +kernel, by decide +kernel⟩
def c_Reader_is_sign (p_Reader_kind p_Reader_value : Spec) : Sts :=
  (.cons (.ret (.and (.cons (.cmp .eq (.meth "Reader" "kind" p_Reader_kind (.v 0) .nil) (.c (.str "sign"))) (.cons (.cmp .eq (.meth "Reader" "value" p_Reader_value (.v 0) .nil) (.v 1)) .nil))))
  .nil)
theorem m_Reader_is_sign (p_Reader_kind p_Reader_value : Spec) : isSs n_Reader_is_sign (defScope s_Reader_is_sign) (c_Reader_is_sign p_Reader_kind p_Reader_value) (defBody s_Reader_is_sign) = true :=
  by_bare (c0 := eSs (c_Reader_is_sign sp0 sp0)) rfl (by decide +kernel)
abbrev s_Reader_is_word : PySem.Stmt := L2.inClass (top 8) 6
def n_Reader_is_word : List Str := ["self", "word"]
theorem sc_Reader_is_word : FnScope n_Reader_is_word ["self", "word"] (defScope s_Reader_is_word) := ⟨by decide +kernel, by decide +kernel, by decide +kernel, by decide +kernel, by decide +kernel, by decide +kernel, by decide +kernel⟩
def c_Reader_is_word (p_Reader_kind p_Reader_value : Spec) : Sts :=
  (.cons (.ret (.and (.cons (.cmp .eq (.meth "Reader" "kind" p_Reader_kind (.v 0) .nil) (.c (.str "word"))) (.cons (.cmp .eq (.meth "Reader" "value" p_Reader_value (.v 0) .nil) (.v 1)) .nil))))
  .nil)
theorem m_Reader_is_word (p_Reader_kind p_Reader_value : Spec) : isSs n_Reader_is_word (defScope s_Reader_is_word) (c_Reader_is_word p_Reader_kind p_Reader_value) (defBody s_Reader_is_word) = true :=
  by_bare (c0 := eSs (c_Reader_is_word sp0 sp0)) rfl (by decide +kernel)
abbrev s_Reader_accept : PySem.Stmt := L2.inClass (top 8) 7
def n_Reader_accept : List Str := ["self", "sign"]
theorem sc_Reader_accept : FnScope n_Reader_accept ["self", "sign"] (defScope s_Reader_accept) := ⟨by decide +kernel, by decide +kernel, by decide +kernel, by decide +kernel, by decide +kernel, by decide +kernel, by decide +kernel⟩
def c_Reader_accept (p_Reader_is_sign : Spec) : Sts :=
  (.cons (.iff (.not (.val (.meth "Reader" "is_sign" p_Reader_is_sign (.v 0) (.cons (.v 1) .nil))))
  (.cons (.ret (.c (.bl false)))
  .nil)
  .nil)
  (.cons (.augF "Reader" (.v 0) "taken" (.c (.int 1)))
  (.cons (.ret (.c (.bl true)))
  .nil)))
theorem m_Reader_accept (p_Reader_is_sign : Spec) : isSs n_Reader_accept (defScope s_Reader_accept) (c_Reader_accept p_Reader_is_sign) (defBody s_Reader_accept) = true :=
  by_bare (c0 := eSs (c_Reader_accept sp0)) rfl (by decide +kernel)
abbrev s_Reader_need : PySem.Stmt := L2.inClass (top 8) 8
def n_Reader_need : List Str := ["self", "sign"]
theorem sc_Reader_need : FnScope n_Reader_need ["self", "sign"] (defScope s_Reader_need) := ⟨by decide +kernel, by decide +kernel, by decide +kernel, by decide +kernel, by decide +kernel, by decide +kernel, by decide +kernel⟩
def c_Reader_need (p_Reader_accept p_Reader_fail : Spec) : Sts :=
  (.cons (.iff (.not (.val (.meth "Reader" "accept" p_Reader_accept (.v 0) (.cons (.v 1) .nil))))
  (.cons (.ex (.meth "Reader" "fail" p_Reader_fail (.v 0) .nil))
  .nil)
  .nil)
  .nil)
theorem m_Reader_need (p_Reader_accept p_Reader_fail : Spec) : isSs n_Reader_need (defScope s_Reader_need) (c_Reader_need p_Reader_accept p_Reader_fail) (defBody s_Reader_need) = true :=
  by_bare (c0 := eSs (c_Reader_need sp0 sp0)) rfl (by decide +kernel)
abbrev s_Reader_name : PySem.Stmt := L2.inClass (top 8) 9
def n_Reader_name : List Str := ["self"]
theorem sc_Reader_name : FnScope n_Reader_name ["self"] (defScope s_Reader_name) := ⟨by decide +kernel, by decide +kernel, by decide +kernel, by decide +kernel, by decide +kernel, by decide +kernel, by decide +kernel⟩
def c_Reader_name (p_Reader_kind p_Reader_value p_Reader_fail : Spec) : Sts :=
  (.cons (.iff (.or (.cons (.val (.cmp .ne (.meth "Reader" "kind" p_Reader_kind (.v 0) .nil) (.c (.str "word")))) (.cons (.val (.cmp .gt (.bi .len (.cons (.meth "Reader" "value" p_Reader_value (.v 0) .nil) .nil)) (.g "NAME_MOST" g_NAME_MOST))) .nil)))
  (.cons (.ex (.meth "Reader" "fail" p_Reader_fail (.v 0) .nil))
  .nil)
  .nil)
  (.cons (.augF "Reader" (.v 0) "taken" (.c (.int 1)))
  (.cons (.ret (.ix (.ix (.attr "Reader" (.v 0) "parts") (.bin .sub (.attr "Reader" (.v 0) "taken") (.c (.int 1)))) (.c (.int 1))))
  .nil)))
theorem m_Reader_name (p_Reader_kind p_Reader_value p_Reader_fail : Spec) : isSs n_Reader_name (defScope s_Reader_name) (c_Reader_name p_Reader_kind p_Reader_value p_Reader_fail) (defBody s_Reader_name) = true :=
  by_bare (c0 := eSs (c_Reader_name sp0 sp0 sp0)) rfl (by decide +kernel)
abbrev s_joined : PySem.Stmt := top 10
def n_joined : List Str := ["kind", "parts", "found", "part"]
theorem sc_joined : FnScope n_joined ["kind", "parts"] (defScope s_joined) := ⟨by decide +kernel, by decide +kernel, by decide +kernel, by decide +kernel, by decide +kernel, by decide +kernel, by decide +kernel⟩
def c_joined : Sts :=
  (.cons (.iff (.val (.cmp .eq (.bi .len (.cons (.v 1) .nil)) (.c (.int 1))))
  (.cons (.ret (.ix (.v 1) (.c (.int 0))))
  .nil)
  .nil)
  (.cons (.asg 2 (.mlst .nil))
  (.cons (.for_ (.nm 3) (.ex (.v 1))
  (.cons (.iff (.val (.cmp .eq (.ix (.v 3) (.c (.int 0))) (.v 0)))
  (.cons (.ex (.mth .extend (.v 2) (.cons (.ix (.v 3) (.c (.int 1))) .nil)))
  .nil)
  (.cons (.ex (.mth .append (.v 2) (.cons (.v 3) .nil)))
  .nil))
  .nil))
  (.cons (.ret (.tup (.cons (.v 0) (.cons (.bi .tuple (.cons (.v 2) .nil)) .nil))))
  .nil))))
theorem m_joined : isSs n_joined (defScope s_joined) (c_joined ) (defBody s_joined) = true :=
  by_bare (c0 := eSs (c_joined )) rfl (by decide +kernel)
abbrev s_read_factor : PySem.Stmt := top 15
def n_read_factor : List Str := ["reader", "condition", "word"]
theorem sc_read_factor : FnScope n_read_factor ["reader"] (defScope s_read_factor) := ⟨by decide +kernel, by decide +kernel, by decide +kernel, by decide +kernel, by decide +kernel, by decide +kernel, by decide +kernel⟩
def c_read_factor (p_Reader_accept p_read_condition p_Reader_need p_Reader_value p_Reader_kind p_Reader_fail p_Reader_name p_read_factor : Spec) : Sts :=
  (.cons (.iff (.val (.meth "Reader" "accept" p_Reader_accept (.v 0) (.cons (.c (.str "(")) .nil)))
  (.cons (.asg 1 (.call "read_condition" p_read_condition (.cons (.v 0) .nil)))
  (.cons (.ex (.meth "Reader" "need" p_Reader_need (.v 0) (.cons (.c (.str ")")) .nil)))
  (.cons (.ret (.v 1))
  .nil)))
  .nil)
  (.cons (.asg 2 (.meth "Reader" "value" p_Reader_value (.v 0) .nil))
  (.cons (.iff (.or (.cons (.val (.cmp .ne (.meth "Reader" "kind" p_Reader_kind (.v 0) .nil) (.c (.str "word")))) (.cons (.val (.cmp .nin (.v 2) (.bin .add (.g "LOOKS" g_LOOKS) (.tup (.cons (.c (.str "all")) (.cons (.c (.str "none")) (.cons (.c (.str "is")) (.cons (.c (.str "not")) .nil)))))))) .nil)))
  (.cons (.ex (.meth "Reader" "fail" p_Reader_fail (.v 0) .nil))
  .nil)
  .nil)
  (.cons (.augF "Reader" (.v 0) "taken" (.c (.int 1)))
  (.cons (.iff (.val (.cmp .in_ (.v 2) (.tup (.cons (.c (.str "all")) (.cons (.c (.str "none")) .nil)))))
  (.cons (.ret (.tup (.cons (.v 2) .nil)))
  .nil)
  .nil)
  (.cons (.iff (.val (.cmp .eq (.v 2) (.c (.str "is"))))
  (.cons (.ret (.tup (.cons (.v 2) (.cons (.meth "Reader" "name" p_Reader_name (.v 0) .nil) .nil))))
  .nil)
  .nil)
  (.cons (.ret (.tup (.cons (.v 2) (.cons (.call "read_factor" p_read_factor (.cons (.v 0) .nil)) .nil))))
  .nil)))))))
theorem m_read_factor (p_Reader_accept p_read_condition p_Reader_need p_Reader_value p_Reader_kind p_Reader_fail p_Reader_name p_read_factor : Spec) : isSs n_read_factor (defScope s_read_factor) (c_read_factor p_Reader_accept p_read_condition p_Reader_need p_Reader_value p_Reader_kind p_Reader_fail p_Reader_name p_read_factor) (defBody s_read_factor) = true :=
  by_bare (c0 := eSs (c_read_factor sp0 sp0 sp0 sp0 sp0 sp0 sp0 sp0)) rfl (by decide +kernel)
abbrev s_read_term : PySem.Stmt := top 16
def n_read_term : List Str := ["reader", "parts"]
theorem sc_read_term : FnScope n_read_term ["reader"] (defScope s_read_term) := ⟨by decide +kernel, by decide +kernel, by decide +kernel, by decide +kernel, by decide +kernel, by decide +kernel, by decide +kernel⟩
def c_read_term (p_read_factor p_Reader_is_word p_joined : Spec) : Sts :=
  (.cons (.asg 1 (.mlst (.cons (.call "read_factor" p_read_factor (.cons (.v 0) .nil)) .nil)))
  (.cons (.whl (.val (.meth "Reader" "is_word" p_Reader_is_word (.v 0) (.cons (.c (.str "and")) .nil)))
  (.cons (.augF "Reader" (.v 0) "taken" (.c (.int 1)))
  (.cons (.ex (.mth .append (.v 1) (.cons (.call "read_factor" p_read_factor (.cons (.v 0) .nil)) .nil)))
  .nil)))
  (.cons (.ret (.call "joined" p_joined (.cons (.c (.str "and")) (.cons (.v 1) .nil))))
  .nil)))
theorem m_read_term (p_read_factor p_Reader_is_word p_joined : Spec) : isSs n_read_term (defScope s_read_term) (c_read_term p_read_factor p_Reader_is_word p_joined) (defBody s_read_term) = true :=
  by_bare (c0 := eSs (c_read_term sp0 sp0 sp0)) rfl (by decide +kernel)
abbrev s_read_condition : PySem.Stmt := top 17
def n_read_condition : List Str := ["reader", "parts"]
theorem sc_read_condition : FnScope n_read_condition ["reader"] (defScope s_read_condition) := ⟨by decide +kernel, by decide +kernel, by decide +kernel, by decide +kernel, by decide +kernel, by decide +kernel, by decide +kernel⟩
def c_read_condition (p_read_term p_Reader_is_word p_joined : Spec) : Sts :=
  (.cons (.asg 1 (.mlst (.cons (.call "read_term" p_read_term (.cons (.v 0) .nil)) .nil)))
  (.cons (.whl (.val (.meth "Reader" "is_word" p_Reader_is_word (.v 0) (.cons (.c (.str "or")) .nil)))
  (.cons (.augF "Reader" (.v 0) "taken" (.c (.int 1)))
  (.cons (.ex (.mth .append (.v 1) (.cons (.call "read_term" p_read_term (.cons (.v 0) .nil)) .nil)))
  .nil)))
  (.cons (.ret (.call "joined" p_joined (.cons (.c (.str "or")) (.cons (.v 1) .nil))))
  .nil)))
theorem m_read_condition (p_read_term p_Reader_is_word p_joined : Spec) : isSs n_read_condition (defScope s_read_condition) (c_read_condition p_read_term p_Reader_is_word p_joined) (defBody s_read_condition) = true :=
  by_bare (c0 := eSs (c_read_condition sp0 sp0 sp0)) rfl (by decide +kernel)
abbrev s_inner_of : PySem.Stmt := top 18
def n_inner_of : List Str := ["condition"]
theorem sc_inner_of : FnScope n_inner_of ["condition"] (defScope s_inner_of) := ⟨by decide +kernel, by decide +kernel, by decide +kernel, by decide +kernel, by decide +kernel, by decide +kernel, by decide +kernel⟩
def c_inner_of : Sts :=
  (.cons (.iff (.val (.cmp .in_ (.ix (.v 0) (.c (.int 0))) (.tup (.cons (.c (.str "all")) (.cons (.c (.str "none")) (.cons (.c (.str "is")) .nil))))))
  (.cons (.ret (.tup .nil))
  .nil)
  .nil)
  (.cons (.iff (.val (.cmp .in_ (.ix (.v 0) (.c (.int 0))) (.tup (.cons (.c (.str "and")) (.cons (.c (.str "or")) .nil)))))
  (.cons (.ret (.ix (.v 0) (.c (.int 1))))
  .nil)
  .nil)
  (.cons (.ret (.tup (.cons (.ix (.v 0) (.c (.int 1))) .nil)))
  .nil)))
theorem m_inner_of : isSs n_inner_of (defScope s_inner_of) (c_inner_of ) (defBody s_inner_of) = true :=
  by_bare (c0 := eSs (c_inner_of )) rfl (by decide +kernel)
abbrev s_parts_of : PySem.Stmt := top 19
def n_parts_of : List Str := ["condition", "found", "part"]
theorem sc_parts_of : FnScope n_parts_of ["condition"] (defScope s_parts_of) := ⟨by decide +kernel, by decide +kernel, by decide +kernel, by decide +kernel, by decide +kernel, by decide +kernel, by decide +kernel⟩
def c_parts_of (p_inner_of p_parts_of : Spec) : Sts :=
  (.cons (.asg 1 (.mlst (.cons (.v 0) .nil)))
  (.cons (.for_ (.nm 2) (.ex (.call "inner_of" p_inner_of (.cons (.v 0) .nil)))
  (.cons (.ex (.mth .extend (.v 1) (.cons (.call "parts_of" p_parts_of (.cons (.v 2) .nil)) .nil)))
  .nil))
  (.gh (frzG 1) (.cons (.ret (.v 1))
  .nil))))
theorem m_parts_of (p_inner_of p_parts_of : Spec) : isSs n_parts_of (defScope s_parts_of) (c_parts_of p_inner_of p_parts_of) (defBody s_parts_of) = true :=
  by_bare (c0 := eSs (c_parts_of sp0 sp0)) rfl (by decide +kernel)
abbrev s_parse_condition : PySem.Stmt := top 20
def n_parse_condition : List Str := ["text", "reader", "start", "condition", "parts", "part"]
theorem sc_parse_condition : FnScope n_parse_condition ["text"] (defScope s_parse_condition) := ⟨by decide +kernel, by decide +kernel, by decide +kernel, by decide +kernel, by decide +kernel, by decide +kernel, by decide +kernel⟩
def c_parse_condition (p_Reader___init__ p_Reader_spot p_read_condition p_Reader_kind p_Reader_fail p_parts_of : Spec) : Sts :=
  (.cons (.asg 1 (.pr (mrCall "Reader") (mkW "Reader" p_Reader___init__) (.cons (.v 0) (.cons (.c (.str "()")) .nil))))
  (.cons (.asg 2 (.meth "Reader" "spot" p_Reader_spot (.v 1) .nil))
  (.cons (.asg 3 (.call "read_condition" p_read_condition (.cons (.v 1) .nil)))
  (.cons (.iff (.val (.cmp .ne (.meth "Reader" "kind" p_Reader_kind (.v 1) .nil) (.c (.str "end"))))
  (.cons (.ex (.meth "Reader" "fail" p_Reader_fail (.v 1) .nil))
  .nil)
  .nil)
  (.cons (.asg 4 (.call "parts_of" p_parts_of (.cons (.v 3) .nil)))
  (.cons (.iff (.val (.cmp .gt (.bi .len (.cons (.v 4) .nil)) (.g "PARTS_MOST" g_PARTS_MOST)))
  (.cons (.pr (mRaise "TextError") (wRaise "TextError") (.cons (.v 2) (.cons (.c (.str "too many parts")) .nil)))
  .nil)
  .nil)
  (.cons (.iff (.val (.cmp .gt (.bi .len (.cons (.lc (.v 5) [("part", 5)] (.nm 5) (.ex (.v 4)) (.one (.val (.cmp .in_ (.ix (.v 5) (.c (.int 0))) (.g "LOOKS" g_LOOKS))))) .nil)) (.g "LOOKS_MOST" g_LOOKS_MOST)))
  (.cons (.pr (mRaise "TextError") (wRaise "TextError") (.cons (.v 2) (.cons (.c (.str "too many looks")) .nil)))
  .nil)
  .nil)
  (.cons (.ret (.v 3))
  .nil))))))))
theorem m_parse_condition (p_Reader___init__ p_Reader_spot p_read_condition p_Reader_kind p_Reader_fail p_parts_of : Spec) : isSs n_parse_condition (defScope s_parse_condition) (c_parse_condition p_Reader___init__ p_Reader_spot p_read_condition p_Reader_kind p_Reader_fail p_parts_of) (defBody s_parse_condition) = true :=
  by_bare (c0 := eSs (c_parse_condition sp0 sp0 sp0 sp0 sp0 sp0)) rfl (by decide +kernel)
abbrev s_law_draw : PySem.Stmt := top 22
def n_law_draw : List Str := ["_law_script"]
theorem sc_law_draw : FnScope n_law_draw ["_law_script"] (defScope s_law_draw) := ⟨by decide +kernel, by decide +kernel, by decide +kernel, by decide +kernel, by decide +kernel, by decide +kernel, by decide +kernel⟩
def c_law_draw : Sts :=
  (.cons (.ret (.mlst (.cons (.bi .list (.cons (.v 0) .nil)) (.cons (.c (.int 0)) (.cons (.c (.int 0)) (.cons (.c (.int 17)) .nil))))))
  .nil)
theorem m_law_draw : isSs n_law_draw (defScope s_law_draw) (c_law_draw ) (defBody s_law_draw) = true :=
  by_bare (c0 := eSs (c_law_draw )) rfl (by decide +kernel)
abbrev s_law_next : PySem.Stmt := top 23
def n_law_next : List Str := ["_law_draw_here", "_law_many", "_law_found", "_law_cell"]
theorem sc_law_next : FnScope n_law_next ["_law_draw_here", "_law_many"] (defScope s_law_next) := ⟨by decide +kernel, by decide +kernel, by decide +kernel, by decide +kernel, by decide +kernel, by decide +kernel, by decide +kernel⟩
def c_law_next : Sts :=
  (.cons (.iff (.val (.cmp .gt (.ix (.v 0) (.c (.int 2))) (.c (.int 0))))
  (.cons (.asg 2 (.bin .mod (.bi .int (.cons (.ix (.v 0) (.c (.int 2))) .nil)) (.v 1)))
  (.cons (.sto (.v 0) (.c (.int 2)) (.bin .fdiv (.ix (.v 0) (.c (.int 2))) (.v 1)))
  (.cons (.ret (.v 2))
  .nil)))
  .nil)
  (.cons (.iff (.val (.cmp .lt (.ix (.v 0) (.c (.int 1))) (.bi .len (.cons (.ix (.v 0) (.c (.int 0))) .nil))))
  (.cons (.asg 3 (.bi .abs (.cons (.ix (.ix (.v 0) (.c (.int 0))) (.ix (.v 0) (.c (.int 1)))) .nil)))
  (.cons (.sto (.v 0) (.c (.int 1)) (.bin .add (.ix (.v 0) (.c (.int 1))) (.c (.int 1))))
  (.cons (.iff (.val (.cmp .ge (.v 3) (.bin .pow (.c (.int 10)) (.c (.int 18)))))
  (.cons (.sto (.v 0) (.c (.int 2)) (.bin .fdiv (.v 3) (.v 1)))
  (.cons (.ret (.bin .mod (.bi .int (.cons (.v 3) .nil)) (.v 1)))
  .nil))
  .nil)
  (.cons (.sto (.v 0) (.c (.int 3)) (.bin .mod (.bi .int (.cons (.bin .add (.bin .add (.bin .mul (.ix (.v 0) (.c (.int 3))) (.c (.int 48271))) (.v 3)) (.c (.int 11))) .nil)) (.c (.int 2147483647))))
  .nil))))
  (.cons (.sto (.v 0) (.c (.int 3)) (.bin .mod (.bi .int (.cons (.bin .add (.bin .mul (.ix (.v 0) (.c (.int 3))) (.c (.int 48271))) (.c (.int 12345))) .nil)) (.c (.int 2147483647))))
  .nil))
  (.cons (.ret (.bin .mod (.bin .fdiv (.bi .int (.cons (.bin .mod (.bin .mul (.ix (.v 0) (.c (.int 3))) (.c (.int 69621))) (.c (.int 2147483629))) .nil)) (.c (.int 7))) (.v 1)))
  .nil)))
theorem m_law_next : isSs n_law_next (defScope s_law_next) (c_law_next ) (defBody s_law_next) = true :=
  by_bare (c0 := eSs (c_law_next )) rfl (by decide +kernel)
abbrev s_law_same : PySem.Stmt := top 24
def n_law_same : List Str := ["_law_actual", "_law_due_here", "_law_k"]
theorem sc_law_same : FnScope n_law_same ["_law_actual", "_law_due_here"] (defScope s_law_same) := ⟨by decide +kernel, by decide +kernel, by decide +kernel, by decide +kernel, by decide +kernel, by decide +kernel, by decide +kernel⟩
def c_law_same (p_law_same : Spec) : Sts :=
  (.cons (.iff (.val (.isi2 (.v 1) "list" "tuple"))
  (.cons (.iff (.or (.cons (.val (.cmp .ne (.isi (.v 1) "list") (.isi (.v 0) "list"))) (.cons (.val (.cmp .ne (.isi (.v 1) "tuple") (.isi (.v 0) "tuple"))) .nil)))
  (.cons (.ret (.c (.bl false)))
  .nil)
  .nil)
  (.cons (.iff (.val (.cmp .ne (.bi .len (.cons (.v 0) .nil)) (.bi .len (.cons (.v 1) .nil))))
  (.cons (.ret (.c (.bl false)))
  .nil)
  .nil)
  (.cons (.ret (.bi .all (.cons (.lc (.call "_law_same" p_law_same (.cons (.ix (.v 0) (.v 2)) (.cons (.ix (.v 1) (.v 2)) .nil))) [("_law_k", 2)] (.nm 2) (.rng1 (.bi .len (.cons (.v 1) .nil))) .nil) .nil)))
  .nil)))
  .nil)
  (.cons (.iff (.val (.cmp .is_ (.v 1) (.c .non)))
  (.cons (.ret (.cmp .is_ (.v 0) (.c .non)))
  .nil)
  .nil)
  (.cons (.iff (.val (.cmp .ne (.isi (.v 1) "bool") (.isi (.v 0) "bool")))
  (.cons (.ret (.c (.bl false)))
  .nil)
  .nil)
  (.cons (.iff (.val (.isi (.v 1) "str"))
  (.cons (.ret (.and (.cons (.isi (.v 0) "str") (.cons (.cmp .eq (.v 0) (.v 1)) .nil))))
  .nil)
  .nil)
  (.cons (.ret (.and (.cons (.isi (.v 0) "int") (.cons (.cmp .eq (.v 0) (.v 1)) .nil))))
  .nil)))))
theorem m_law_same (p_law_same : Spec) : isSs n_law_same (defScope s_law_same) (c_law_same p_law_same) (defBody s_law_same) = true :=
  by_bare (c0 := eSs (c_law_same sp0)) rfl (by decide +kernel)
abbrev s_law_tree : PySem.Stmt := top 25
def n_law_tree : List Str := ["_law_draw_here", "_law_depth", "_law_form", "_law_shapes", "_law_look", "_law_kind", "_law_parts_here", "_law_k", "_law_part"]
theorem sc_law_tree : FnScope n_law_tree ["_law_draw_here", "_law_depth"] (defScope s_law_tree) := ⟨by decide +kernel, by decide +kernel, by decide +kernel, by decide +kernel, by decide +kernel, by decide +kernel, by decide +kernel⟩
def c_law_tree (p_law_next p_law_tree : Spec) : Sts :=
  (.cons (.asg 2 (.call "_law_next" p_law_next (.cons (.v 0) (.cons (.c (.int 13)) .nil))))
  (.cons (.iff (.or (.cons (.val (.cmp .eq (.v 1) (.c (.int 0)))) (.cons (.val (.cmp .lt (.v 2) (.c (.int 3)))) .nil)))
  (.cons (.asg 3 (.lst (.cons (.tup (.cons (.c (.str "all")) .nil)) (.cons (.tup (.cons (.c (.str "none")) .nil)) (.cons (.tup (.cons (.c (.str "is")) (.cons (.c (.str "a")) .nil))) (.cons (.tup (.cons (.c (.str "is")) (.cons (.c (.str "b")) .nil))) (.cons (.tup (.cons (.c (.str "is")) (.cons (.c (.str "ab")) .nil))) (.cons (.tup (.cons (.c (.str "is")) (.cons (.c (.str "is")) .nil))) .nil))))))))
  (.cons (.ret (.ix (.v 3) (.call "_law_next" p_law_next (.cons (.v 0) (.cons (.c (.int 6)) .nil)))))
  .nil))
  .nil)
  (.cons (.iff (.val (.cmp .lt (.v 2) (.c (.int 6))))
  (.cons (.ret (.tup (.cons (.c (.str "not")) (.cons (.call "_law_tree" p_law_tree (.cons (.v 0) (.cons (.bin .sub (.v 1) (.c (.int 1))) .nil))) .nil))))
  .nil)
  .nil)
  (.cons (.iff (.val (.cmp .gt (.v 2) (.c (.int 8))))
  (.cons (.asg 4 (.ix (.lst (.cons (.c (.str "child")) (.cons (.c (.str "below")) (.cons (.c (.str "parent")) (.cons (.c (.str "above")) (.cons (.c (.str "earlier")) (.cons (.c (.str "later")) .nil))))))) (.call "_law_next" p_law_next (.cons (.v 0) (.cons (.c (.int 6)) .nil)))))
  (.cons (.ret (.tup (.cons (.v 4) (.cons (.call "_law_tree" p_law_tree (.cons (.v 0) (.cons (.bin .sub (.v 1) (.c (.int 1))) .nil))) .nil))))
  .nil))
  .nil)
  (.cons (.asg 5 (.ix (.lst (.cons (.c (.str "and")) (.cons (.c (.str "or")) .nil))) (.bin .mod (.v 2) (.c (.int 2)))))
  (.cons (.asg 6 (.mlst .nil))
  (.cons (.for_ (.nm 7) (.rng1 (.c (.int 2)))
  (.cons (.asg 8 (.call "_law_tree" p_law_tree (.cons (.v 0) (.cons (.bin .sub (.v 1) (.c (.int 1))) .nil))))
  (.cons (.ex (.mth .append (.v 6) (.cons (.ife (.val (.cmp .eq (.ix (.v 8) (.c (.int 0))) (.v 5))) (.tup (.cons (.c (.str "not")) (.cons (.v 8) .nil))) (.v 8)) .nil)))
  .nil)))
  (.cons (.ret (.tup (.cons (.v 5) (.cons (.bi .tuple (.cons (.v 6) .nil)) .nil))))
  .nil))))))))
theorem m_law_tree (p_law_next p_law_tree : Spec) : isSs n_law_tree (defScope s_law_tree) (c_law_tree p_law_next p_law_tree) (defBody s_law_tree) = true :=
  by_bare (c0 := eSs (c_law_tree sp0 sp0)) rfl (by decide +kernel)
abbrev s_law_parts : PySem.Stmt := top 26
def n_law_parts : List Str := ["_law_tree_here", "_law_inner", "_law_part"]
theorem sc_law_parts : FnScope n_law_parts ["_law_tree_here"] (defScope s_law_parts) := ⟨by decide +kernel, by decide +kernel, by decide +kernel, by decide +kernel, by decide +kernel, by decide +kernel, by decide +kernel⟩
def c_law_parts (p_law_parts : Spec) : Sts :=
  (.cons (.iff (.val (.cmp .in_ (.ix (.v 0) (.c (.int 0))) (.tup (.cons (.c (.str "all")) (.cons (.c (.str "none")) (.cons (.c (.str "is")) .nil))))))
  (.cons (.ret (.c (.int 1)))
  .nil)
  .nil)
  (.cons (.asg 1 (.ife (.val (.cmp .in_ (.ix (.v 0) (.c (.int 0))) (.tup (.cons (.c (.str "and")) (.cons (.c (.str "or")) .nil))))) (.ix (.v 0) (.c (.int 1))) (.tup (.cons (.ix (.v 0) (.c (.int 1))) .nil))))
  (.cons (.ret (.bin .add (.c (.int 1)) (.bi .sum (.cons (.lc (.call "_law_parts" p_law_parts (.cons (.v 2) .nil)) [("_law_part", 2)] (.nm 2) (.ex (.v 1)) .nil) .nil))))
  .nil)))
theorem m_law_parts (p_law_parts : Spec) : isSs n_law_parts (defScope s_law_parts) (c_law_parts p_law_parts) (defBody s_law_parts) = true :=
  by_bare (c0 := eSs (c_law_parts sp0)) rfl (by decide +kernel)
abbrev s_law_looks : PySem.Stmt := top 27
def n_law_looks : List Str := ["_law_tree_here", "_law_inner", "_law_part"]
theorem sc_law_looks : FnScope n_law_looks ["_law_tree_here"] (defScope s_law_looks) := ⟨by decide +kernel, by decide +kernel, by decide +kernel, by decide +kernel, by decide +kernel, by decide +kernel, by decide +kernel⟩
def c_law_looks (p_law_looks : Spec) : Sts :=
  (.cons (.iff (.val (.cmp .in_ (.ix (.v 0) (.c (.int 0))) (.tup (.cons (.c (.str "all")) (.cons (.c (.str "none")) (.cons (.c (.str "is")) .nil))))))
  (.cons (.ret (.c (.int 0)))
  .nil)
  .nil)
  (.cons (.asg 1 (.ife (.val (.cmp .in_ (.ix (.v 0) (.c (.int 0))) (.tup (.cons (.c (.str "and")) (.cons (.c (.str "or")) .nil))))) (.ix (.v 0) (.c (.int 1))) (.tup (.cons (.ix (.v 0) (.c (.int 1))) .nil))))
  (.cons (.ret (.bin .add (.bi .sum (.cons (.lc (.call "_law_looks" p_law_looks (.cons (.v 2) .nil)) [("_law_part", 2)] (.nm 2) (.ex (.v 1)) .nil) .nil)) (.ife (.val (.cmp .in_ (.ix (.v 0) (.c (.int 0))) (.tup (.cons (.c (.str "and")) (.cons (.c (.str "or")) (.cons (.c (.str "not")) .nil)))))) (.c (.int 0)) (.c (.int 1)))))
  .nil)))
theorem m_law_looks (p_law_looks : Spec) : isSs n_law_looks (defScope s_law_looks) (c_law_looks p_law_looks) (defBody s_law_looks) = true :=
  by_bare (c0 := eSs (c_law_looks sp0)) rfl (by decide +kernel)
abbrev s_law_text : PySem.Stmt := top 29
def n_law_text : List Str := ["_law_draw_here", "_law_tokens", "_law_text_here", "_law_places", "_law_token"]
theorem sc_law_text : FnScope n_law_text ["_law_draw_here", "_law_tokens"] (defScope s_law_text) := ⟨by decide +kernel, by decide +kernel, by decide +kernel, by decide +kernel, by decide +kernel, by decide +kernel, by decide +kernel⟩
def c_law_text (p_law_next : Spec) : Sts :=
  (.cons (.asg 2 (.ix (.lst (.cons (.c (.str "")) (.cons (.c (.str " ")) .nil))) (.call "_law_next" p_law_next (.cons (.v 0) (.cons (.c (.int 2)) .nil)))))
  (.cons (.asg 3 (.mlst .nil))
  (.cons (.for_ (.nm 4) (.ex (.v 1))
  (.cons (.ex (.mth .append (.v 3) (.cons (.bi .len (.cons (.v 2) .nil)) .nil)))
  (.cons (.asg 2 (.bin .add (.bin .add (.v 2) (.v 4)) (.ix (.lst (.cons (.c (.str " ")) (.cons (.c (.str "\n")) (.cons (.c (.str "  ")) .nil)))) (.call "_law_next" p_law_next (.cons (.v 0) (.cons (.c (.int 3)) .nil))))))
  .nil)))
  (.cons (.ret (.tup (.cons (.v 2) (.cons (.v 3) .nil))))
  .nil))))
theorem m_law_text (p_law_next : Spec) : isSs n_law_text (defScope s_law_text) (c_law_text p_law_next) (defBody s_law_text) = true :=
  by_bare (c0 := eSs (c_law_text sp0)) rfl (by decide +kernel)
abbrev s_law_change : PySem.Stmt := top 30
def n_law_change : List Str := ["_law_draw_here", "_law_tokens", "_law_signs", "_law_at", "_law_form"]
theorem sc_law_change : FnScope n_law_change ["_law_draw_here", "_law_tokens", "_law_signs"] (defScope s_law_change) := ⟨by decide +kernel, by decide +kernel, by decide +kernel, by decide +kernel, by decide +kernel, by decide +kernel, by decide +kernel⟩
def c_law_change (p_law_next : Spec) : Sts :=
  (.cons (.iff (.or (.cons (.val (.cmp .eq (.call "_law_next" p_law_next (.cons (.v 0) (.cons (.c (.int 3)) .nil))) (.c (.int 0)))) (.cons (.not (.val (.v 1))) .nil)))
  (.cons (.ret (.v 1))
  .nil)
  .nil)
  (.cons (.asg 3 (.call "_law_next" p_law_next (.cons (.v 0) (.cons (.bi .len (.cons (.v 1) .nil)) .nil))))
  (.cons (.asg 4 (.call "_law_next" p_law_next (.cons (.v 0) (.cons (.c (.int 4)) .nil))))
  (.cons (.iff (.val (.cmp .eq (.v 4) (.c (.int 0))))
  (.cons (.ret (.sl (.v 1) false true (.c .non) (.v 3)))
  .nil)
  .nil)
  (.cons (.iff (.val (.cmp .eq (.v 4) (.c (.int 1))))
  (.cons (.ret (.bin .add (.sl (.v 1) false true (.c .non) (.v 3)) (.sl (.v 1) true false (.bin .add (.v 3) (.c (.int 1))) (.c .non))))
  .nil)
  .nil)
  (.cons (.ret (.bin .add (.bin .add (.sl (.v 1) false true (.c .non) (.v 3)) (.lst (.cons (.ix (.v 2) (.call "_law_next" p_law_next (.cons (.v 0) (.cons (.bi .len (.cons (.v 2) .nil)) .nil)))) .nil))) (.sl (.v 1) true false (.bin .sub (.bin .add (.v 3) (.v 4)) (.c (.int 2))) (.c .non))))
  .nil))))))
theorem m_law_change (p_law_next : Spec) : isSs n_law_change (defScope s_law_change) (c_law_change p_law_next) (defBody s_law_change) = true :=
  by_bare (c0 := eSs (c_law_change sp0)) rfl (by decide +kernel)
abbrev s_law_bracket : PySem.Stmt := top 31
def n_law_bracket : List Str := ["_law_draw_here", "_law_tokens", "_law_needed"]
theorem sc_law_bracket : FnScope n_law_bracket ["_law_draw_here", "_law_tokens", "_law_needed"] (defScope s_law_bracket) := ⟨by decide +kernel, by decide +kernel, by decide +kernel, by decide +kernel, by decide +kernel, by decide +kernel, by decide +kernel⟩
def c_law_bracket (p_law_next : Spec) : Sts :=
  (.cons (.ret (.ife (.or (.cons (.val (.v 2)) (.cons (.val (.cmp .eq (.call "_law_next" p_law_next (.cons (.v 0) (.cons (.c (.int 7)) .nil))) (.c (.int 0)))) .nil))) (.bin .add (.bin .add (.lst (.cons (.c (.str "(")) .nil)) (.v 1)) (.lst (.cons (.c (.str ")")) .nil))) (.v 1)))
  .nil)
theorem m_law_bracket (p_law_next : Spec) : isSs n_law_bracket (defScope s_law_bracket) (c_law_bracket p_law_next) (defBody s_law_bracket) = true :=
  by_bare (c0 := eSs (c_law_bracket sp0)) rfl (by decide +kernel)
abbrev s_law_condition_tokens : PySem.Stmt := top 32
def n_law_condition_tokens : List Str := ["_law_draw_here", "_law_tree_here", "_law_within", "_law_found", "_law_part"]
theorem sc_law_condition_tokens : FnScope n_law_condition_tokens ["_law_draw_here", "_law_tree_here", "_law_within"] (defScope s_law_condition_tokens) := ⟨by decide +kernel, by decide +kernel, by decide +kernel, by decide +kernel, by decide +kernel, by decide +kernel, by decide +kernel⟩
def c_law_condition_tokens (p_law_bracket p_law_condition_tokens : Spec) : Sts :=
  (.cons (.iff (.val (.cmp .in_ (.ix (.v 1) (.c (.int 0))) (.tup (.cons (.c (.str "all")) (.cons (.c (.str "none")) .nil)))))
  (.cons (.ret (.call "_law_bracket" p_law_bracket (.cons (.v 0) (.cons (.lst (.cons (.ix (.v 1) (.c (.int 0))) .nil)) (.cons (.c (.bl false)) .nil)))))
  .nil)
  .nil)
  (.cons (.iff (.val (.cmp .eq (.ix (.v 1) (.c (.int 0))) (.c (.str "is"))))
  (.cons (.ret (.call "_law_bracket" p_law_bracket (.cons (.v 0) (.cons (.lst (.cons (.c (.str "is")) (.cons (.ix (.v 1) (.c (.int 1))) .nil))) (.cons (.c (.bl false)) .nil)))))
  .nil)
  .nil)
  (.cons (.iff (.val (.cmp .in_ (.ix (.v 1) (.c (.int 0))) (.tup (.cons (.c (.str "and")) (.cons (.c (.str "or")) .nil)))))
  (.cons (.asg 3 (.lst .nil))
  (.cons (.for_ (.nm 4) (.ex (.ix (.v 1) (.c (.int 1))))
  (.cons (.asg 3 (.bin .add (.bin .add (.v 3) (.ife (.val (.v 3)) (.lst (.cons (.ix (.v 1) (.c (.int 0))) .nil)) (.lst .nil))) (.call "_law_condition_tokens" p_law_condition_tokens (.cons (.v 0) (.cons (.v 4) (.cons (.ix (.v 1) (.c (.int 0))) .nil))))))
  .nil))
  (.cons (.ret (.call "_law_bracket" p_law_bracket (.cons (.v 0) (.cons (.v 3) (.cons (.or (.cons (.cmp .eq (.v 2) (.c (.str "word"))) (.cons (.and (.cons (.cmp .eq (.v 2) (.c (.str "and"))) (.cons (.cmp .eq (.ix (.v 1) (.c (.int 0))) (.c (.str "or"))) .nil))) .nil))) .nil)))))
  .nil)))
  .nil)
  (.cons (.ret (.call "_law_bracket" p_law_bracket (.cons (.v 0) (.cons (.bin .add (.lst (.cons (.ix (.v 1) (.c (.int 0))) .nil)) (.call "_law_condition_tokens" p_law_condition_tokens (.cons (.v 0) (.cons (.ix (.v 1) (.c (.int 1))) (.cons (.c (.str "word")) .nil))))) (.cons (.c (.bl false)) .nil)))))
  .nil))))
theorem m_law_condition_tokens (p_law_bracket p_law_condition_tokens : Spec) : isSs n_law_condition_tokens (defScope s_law_condition_tokens) (c_law_condition_tokens p_law_bracket p_law_condition_tokens) (defBody s_law_condition_tokens) = true :=
  by_bare (c0 := eSs (c_law_condition_tokens sp0 sp0)) rfl (by decide +kernel)
abbrev s_law_step : PySem.Stmt := top 33
def n_law_step : List Str := ["_law_token", "_law_state", "_law_level", "_law_looks_here"]
theorem sc_law_step : FnScope n_law_step ["_law_token", "_law_state", "_law_level"] (defScope s_law_step) := ⟨by decide +kernel, by decide +kernel, by decide +kernel, by decide +kernel, by decide +kernel, by decide +kernel, by decide +kernel⟩
def c_law_step : Sts :=
  (.cons (.iff (.val (.cmp .eq (.v 1) (.c (.str "name"))))
  (.cons (.ret (.ife (.and (.cons (.val (.cmp2 .le .le (.c (.str "a")) (.ix (.v 0) (.c (.int 0))) (.c (.str "z")))) (.cons (.val (.cmp .le (.bi .len (.cons (.v 0) .nil)) (.c (.int 8)))) .nil))) (.tup (.cons (.c (.str "behind")) (.cons (.v 2) .nil))) (.tup (.cons (.c (.str "wrong")) (.cons (.v 2) .nil)))))
  .nil)
  .nil)
  (.cons (.iff (.val (.cmp .eq (.v 1) (.c (.str "factor"))))
  (.cons (.iff (.val (.cmp .in_ (.v 0) (.tup (.cons (.c (.str "all")) (.cons (.c (.str "none")) .nil)))))
  (.cons (.ret (.tup (.cons (.c (.str "behind")) (.cons (.v 2) .nil))))
  .nil)
  .nil)
  (.cons (.iff (.val (.cmp .eq (.v 0) (.c (.str "is"))))
  (.cons (.ret (.tup (.cons (.c (.str "name")) (.cons (.v 2) .nil))))
  .nil)
  .nil)
  (.cons (.iff (.val (.cmp .eq (.v 0) (.c (.str "("))))
  (.cons (.ret (.tup (.cons (.c (.str "factor")) (.cons (.bin .add (.v 2) (.c (.int 1))) .nil))))
  .nil)
  .nil)
  (.cons (.asg 3 (.tup (.cons (.c (.str "not")) (.cons (.c (.str "child")) (.cons (.c (.str "below")) (.cons (.c (.str "parent")) (.cons (.c (.str "above")) (.cons (.c (.str "earlier")) (.cons (.c (.str "later")) .nil)))))))))
  (.cons (.ret (.ife (.val (.cmp .in_ (.v 0) (.v 3))) (.tup (.cons (.c (.str "factor")) (.cons (.v 2) .nil))) (.tup (.cons (.c (.str "wrong")) (.cons (.v 2) .nil)))))
  .nil)))))
  .nil)
  (.cons (.iff (.val (.cmp .in_ (.v 0) (.tup (.cons (.c (.str "and")) (.cons (.c (.str "or")) .nil)))))
  (.cons (.ret (.tup (.cons (.c (.str "factor")) (.cons (.v 2) .nil))))
  .nil)
  .nil)
  (.cons (.ret (.ife (.and (.cons (.val (.cmp .eq (.v 0) (.c (.str ")")))) (.cons (.val (.cmp .gt (.v 2) (.c (.int 0)))) .nil))) (.tup (.cons (.c (.str "behind")) (.cons (.bin .sub (.v 2) (.c (.int 1))) .nil))) (.tup (.cons (.c (.str "wrong")) (.cons (.v 2) .nil)))))
  .nil))))
theorem m_law_step : isSs n_law_step (defScope s_law_step) (c_law_step ) (defBody s_law_step) = true :=
  by_bare (c0 := eSs (c_law_step )) rfl (by decide +kernel)
abbrev s_law_due : PySem.Stmt := top 34
def n_law_due : List Str := ["_law_tree_here", "_law_tokens", "_law_text_here", "_law_places", "_law_changed", "_law_k", "_law_state", "_law_level"]
theorem sc_law_due : FnScope n_law_due ["_law_tree_here", "_law_tokens", "_law_text_here", "_law_places", "_law_changed"] (defScope s_law_due) := ⟨by decide +kernel, by decide +kernel, by decide +kernel, by decide +kernel, by decide +kernel, by decide +kernel, by decide +kernel⟩
def c_law_due (p_law_step p_law_parts p_law_looks : Spec) : Sts :=
  (.cons (.for_ (.nm 5) (.rng1 (.bi .len (.cons (.v 1) .nil)))
  (.cons (.iff (.val (.cmp .eq (.ix (.v 1) (.v 5)) (.c (.str "-"))))
  (.cons (.ret (.tup (.cons (.c (.str "unknown character")) (.cons (.ix (.v 3) (.v 5)) .nil))))
  .nil)
  .nil)
  .nil))
  (.cons (.pr (mAsgT (.tp (.cons (.nm 6) (.cons (.nm 7) .nil)))) (wAsgT (.tp (.cons (.nm 6) (.cons (.nm 7) .nil)))) (.cons (.tup (.cons (.c (.str "factor")) (.cons (.c (.int 0)) .nil))) .nil))
  (.cons (.for_ (.nm 5) (.rng1 (.bi .len (.cons (.v 1) .nil)))
  (.cons (.asgT (.tp (.cons (.nm 6) (.cons (.nm 7) .nil))) (.call "_law_step" p_law_step (.cons (.ix (.v 1) (.v 5)) (.cons (.v 6) (.cons (.v 7) .nil)))))
  (.cons (.iff (.val (.cmp .eq (.v 6) (.c (.str "wrong"))))
  (.cons (.ret (.tup (.cons (.c (.str "unexpected token")) (.cons (.ix (.v 3) (.v 5)) .nil))))
  .nil)
  .nil)
  .nil)))
  (.cons (.iff (.or (.cons (.val (.cmp .ne (.v 6) (.c (.str "behind")))) (.cons (.val (.cmp .gt (.v 7) (.c (.int 0)))) .nil)))
  (.cons (.ret (.tup (.cons (.c (.str "unexpected end")) (.cons (.bi .len (.cons (.v 2) .nil)) .nil))))
  .nil)
  .nil)
  (.cons (.iff (.val (.v 4))
  (.cons (.ret (.tup (.cons (.c (.str "any")) (.cons (.c (.int 0)) .nil))))
  .nil)
  .nil)
  (.cons (.iff (.val (.cmp .gt (.call "_law_parts" p_law_parts (.cons (.v 0) .nil)) (.c (.int 12))))
  (.cons (.ret (.tup (.cons (.c (.str "too many parts")) (.cons (.ix (.v 3) (.c (.int 0))) .nil))))
  .nil)
  .nil)
  (.cons (.ret (.ife (.val (.cmp .gt (.call "_law_looks" p_law_looks (.cons (.v 0) .nil)) (.c (.int 4)))) (.tup (.cons (.c (.str "too many looks")) (.cons (.ix (.v 3) (.c (.int 0))) .nil))) (.tup (.cons (.c (.str "condition")) (.cons (.c (.int 0)) .nil)))))
  .nil)))))))
theorem m_law_due (p_law_step p_law_parts p_law_looks : Spec) : isSs n_law_due (defScope s_law_due) (c_law_due p_law_step p_law_parts p_law_looks) (defBody s_law_due) = true :=
  by_bare (c0 := eSs (c_law_due sp0 sp0 sp0)) rfl (by decide +kernel)
abbrev s_law_told : PySem.Stmt := top 35
def n_law_told : List Str := ["_law_text_here", "_law_found", "error"]
theorem sc_law_told : FnScope n_law_told ["_law_text_here"] (defScope s_law_told) := ⟨by decide +kernel, by decide +kernel, by decide +kernel, by decide +kernel, by decide +kernel, by decide +kernel, by decide +kernel⟩
def c_law_told (p_parse_condition : Spec) : Sts :=
  (.cons (.asg 1 (.call "parse_condition" p_parse_condition (.cons (.v 0) .nil)))
  (.cons (.ret (.tup (.cons (.ife (.val (.isi (.v 1) "tuple")) (.c (.str "condition")) (.c (.str "other"))) (.cons (.c (.int 0)) .nil))))
  .nil))
theorem m_law_told (p_parse_condition : Spec) : isSs n_law_told (defScope s_law_told) (c_law_told p_parse_condition) (tryB s_law_told) = true :=
  by_bare (c0 := eSs (c_law_told sp0)) rfl (by decide +kernel)
abbrev s_law : PySem.Stmt := top 36
def n_law : List Str := ["_law_script", "_law_draw_here", "_law_turn", "_law_tree_here", "_law_tokens", "_law_first", "_law_signs", "_law_times", "_law_text_here", "_law_places", "_law_due_here", "_law_told_here"]
theorem sc_law : FnScope n_law ["_law_script"] (defScope s_law) := ⟨by decide +kernel, by decide +kernel, by decide +kernel, by decide +kernel, by decide +kernel, by decide +kernel, by decide +kernel⟩
def c_law (p_law_draw p_law_tree p_law_next p_law_condition_tokens p_law_change p_law_text p_law_due p_law_told p_law_same : Spec) : Sts :=
  (.cons (.asg 1 (.call "_law_draw" p_law_draw (.cons (.v 0) .nil)))
  (.cons (.for_ (.nm 2) (.rng1 (.c (.int 4)))
  (.cons (.asg 3 (.call "_law_tree" p_law_tree (.cons (.v 1) (.cons (.bin .add (.c (.int 1)) (.call "_law_next" p_law_next (.cons (.v 1) (.cons (.c (.int 4)) .nil)))) .nil))))
  (.cons (.asg 4 (.call "_law_condition_tokens" p_law_condition_tokens (.cons (.v 1) (.cons (.v 3) (.cons (.c (.str "")) .nil)))))
  (.cons (.asg 5 (.bi .list (.cons (.v 4) .nil)))
  (.cons (.asg 6 (.lst (.cons (.c (.str "(")) (.cons (.c (.str ")")) (.cons (.c (.str "and")) (.cons (.c (.str "or")) (.cons (.c (.str "not")) (.cons (.c (.str "is")) (.cons (.c (.str "all")) (.cons (.c (.str "later")) (.cons (.c (.str "q")) (.cons (.c (.str "abcdefghi")) (.cons (.c (.str "-")) .nil)))))))))))))
  (.cons (.for_ (.nm 7) (.rng1 (.call "_law_next" p_law_next (.cons (.v 1) (.cons (.c (.int 3)) .nil))))
  (.cons (.asg 4 (.call "_law_change" p_law_change (.cons (.v 1) (.cons (.v 4) (.cons (.v 6) .nil)))))
  .nil))
  (.cons (.asgT (.tp (.cons (.nm 8) (.cons (.nm 9) .nil))) (.call "_law_text" p_law_text (.cons (.v 1) (.cons (.v 4) .nil))))
  (.cons (.iff (.val (.cmp .gt (.bi .len (.cons (.v 8) .nil)) (.c (.int 280))))
  (.cons .cnt
  .nil)
  .nil)
  (.cons (.asg 10 (.call "_law_due" p_law_due (.cons (.v 3) (.cons (.v 4) (.cons (.v 8) (.cons (.v 9) (.cons (.cmp .ne (.v 4) (.v 5)) .nil)))))))
  (.cons (.asg 11 (.call "_law_told" p_law_told (.cons (.v 8) .nil)))
  (.cons (.iff (.val (.cmp .eq (.ix (.v 10) (.c (.int 0))) (.c (.str "any"))))
  (.cons (.iff (.val (.cmp .nin (.ix (.v 11) (.c (.int 0))) (.tup (.cons (.c (.str "condition")) (.cons (.c (.str "too many parts")) (.cons (.c (.str "too many looks")) .nil))))))
  (.cons (.ret (.c (.bl false)))
  .nil)
  .nil)
  .nil)
  (.cons (.iff (.not (.val (.call "_law_same" p_law_same (.cons (.v 11) (.cons (.v 10) .nil)))))
  (.cons (.ret (.c (.bl false)))
  .nil)
  .nil)
  .nil))
  .nil)))))))))))
  (.cons (.ret (.c (.bl true)))
  .nil)))
theorem m_law (p_law_draw p_law_tree p_law_next p_law_condition_tokens p_law_change p_law_text p_law_due p_law_told p_law_same : Spec) : isSs n_law (defScope s_law) (c_law p_law_draw p_law_tree p_law_next p_law_condition_tokens p_law_change p_law_text p_law_due p_law_told p_law_same) (defBody s_law) = true :=
  by_bare (c0 := eSs (c_law sp0 sp0 sp0 sp0 sp0 sp0 sp0 sp0 sp0)) rfl (by decide +kernel)
end VS.K46

/-! the scanner: what its defs read (any text) -/
namespace VS
open PySem PySem.Spec PyProof.Rows L2
namespace K46
def spLet : Spec := fun ds M Q _ => ∃ c : Char, ds = [.str (String.singleton c)] ∧ Q (.bl (isLet c)) M
theorem h_is_letter : ∀ ds M Q E, ds.length = 1 → spLet ds M Q E → dSs E c_is_letter { nx := fun _ M' => Q .non M', rt := Q } (startD n_is_letter.length ds) M := by
  rintro ds M Q E hl ⟨c, rfl, q⟩
  show dSs E c_is_letter _ [some (.str (String.singleton c))] M
  unfold c_is_letter
  simp only [dSs, dS, dT, dE, dEs, dTO, dTA, dAnd, dOr, dIt, dIf, gTg, gTgs, wipeD, List.map_cons, List.map_nil, getS_z, getS_s, List.set_cons_zero, List.set_cons_succ, ty_non, ty_bl, ty_int, ty_str, ty_tup, ty_lst, tk1, tk2, tk3, tk4, tk5, tk6, tk7, tk8, tk9, tk10, tk11, tk12, tk13, tk14, tk15, tk16, tk17, tk18, tk19, tk20, w_truB, w_truI, w_truN, w_truL, w_truT, w_is, w_isn, isNon_non, isNon_bl, isNon_int, isNon_str, isNon_lst, isNon_tup, w_add, w_addS, w_addT, w_addL, w_sub, w_mul, w_mod, w_fdiv, w_pow, w_neg, w_eqI, w_neI, w_eqS, w_neS, w_eqB, w_neB, w_lt, w_le, w_gt, w_ge, w_int, w_abs, w_lenL, w_lenT, w_lenS, w_tupL, w_rng1, w_in2, w_in3, bne_self, Bool.not_true, Bool.not_false, Bool.or_false, Bool.false_or, Bool.or_true, Bool.true_or, decide_true, decide_false, and_true, true_and, wCmp, wCmpI, le_a, le_z]
  unfold isLet at q
  cases h : decide (97 ≤ c.toNat) with
  | true => rw [h, Bool.true_and] at q; exact q
  | false => rw [h, Bool.false_and] at q; exact q
def spWordEnd : Spec := fun ds M Q _ => ∃ (t : String) (i : Nat) (w r : List Char), ds = [.str t, .int (i : Int)] ∧ t.length ≤ 100000 ∧ i ≤ t.length ∧ t.toList.drop i = w ++ r ∧ (∀ c ∈ w, isLet c = true) ∧ (∀ c r', r = c :: r' → isLet c = false) ∧ Q (.int ((i + w.length : Nat) : Int)) M
theorem h_word_end : ∀ ds M Q E, ds.length = 2 → spWordEnd ds M Q E → dSs E (c_word_end spLet) { nx := fun _ M' => Q .non M', rt := Q } (startD n_word_end.length ds) M := by
  rintro ds M Q E hl ⟨t, i, w, r, rfl, h1, hi, h2, h3, h4, q⟩
  show dSs E (c_word_end spLet) _ [some (.str t), some (.int (i : Int)), none] M
  unfold c_word_end
  have ll : line = 16777216 := rfl
  have hlen : t.toList.length = t.length := String.length_toList
  have hw : t.length - i = w.length + r.length := by rw [← hlen, ← List.length_drop, h2, List.length_append]
  simp only [dSs, dS, dT, dE, dEs, dTO, dTA, dAnd, dOr, dIt, dIf, gTg, gTgs, wipeD, List.map_cons, List.map_nil, getS_z, getS_s, List.set_cons_zero, List.set_cons_succ, ty_non, ty_bl, ty_int, ty_str, ty_tup, ty_lst, tk1, tk2, tk3, tk4, tk5, tk6, tk7, tk8, tk9, tk10, tk11, tk12, tk13, tk14, tk15, tk16, tk17, tk18, tk19, tk20, w_truB, w_truI, w_truN, w_truL, w_truT, w_is, w_isn, isNon_non, isNon_bl, isNon_int, isNon_str, isNon_lst, isNon_tup, w_add, w_addS, w_addT, w_addL, w_sub, w_mul, w_mod, w_fdiv, w_pow, w_neg, w_eqI, w_neI, w_eqS, w_neS, w_eqB, w_neB, w_lt, w_le, w_gt, w_ge, w_int, w_abs, w_lenL, w_lenT, w_lenS, w_tupL, w_rng1, w_in2, w_in3, bne_self, Bool.not_true, Bool.not_false, Bool.or_false, Bool.false_or, Bool.or_true, Bool.true_or, decide_true, decide_false, and_true, true_and]
  refine ⟨fun m σ M' => ∃ j : Nat, j ≤ w.length ∧ σ = [some (.str t), some (.int (i : Int)), some (.int ((i + j : Nat) : Int))] ∧ M' = M ∧ m = w.length - j, ⟨_, 0, Nat.zero_le _, rfl, rfl, rfl⟩, ?_⟩
  rintro m σ M' ⟨j, hj, rfl, rfl, rfl⟩
  simp only [dSs, dS, dT, dE, dEs, dTO, dTA, dAnd, dOr, dIt, dIf, gTg, gTgs, wipeD, List.map_cons, List.map_nil, getS_z, getS_s, List.set_cons_zero, List.set_cons_succ, ty_non, ty_bl, ty_int, ty_str, ty_tup, ty_lst, tk1, tk2, tk3, tk4, tk5, tk6, tk7, tk8, tk9, tk10, tk11, tk12, tk13, tk14, tk15, tk16, tk17, tk18, tk19, tk20, w_truB, w_truI, w_truN, w_truL, w_truT, w_is, w_isn, isNon_non, isNon_bl, isNon_int, isNon_str, isNon_lst, isNon_tup, w_add, w_addS, w_addT, w_addL, w_sub, w_mul, w_mod, w_fdiv, w_pow, w_neg, w_eqI, w_neI, w_eqS, w_neS, w_eqB, w_neB, w_lt, w_le, w_gt, w_ge, w_int, w_abs, w_lenL, w_lenT, w_lenS, w_tupL, w_rng1, w_in2, w_in3, bne_self, Bool.not_true, Bool.not_false, Bool.or_false, Bool.false_or, Bool.or_true, Bool.true_or, decide_true, decide_false, and_true, true_and]
  refine ⟨by omega, ?_⟩
  have at_ : t.toList[i + j]? = (w ++ r)[j]? := by rw [← h2, List.getElem?_drop]
  by_cases hlt : ((i + j : Nat) : Int) < (t.length : Int)
  · simp only [decide_eq_true hlt]
    have hlt' : i + j < t.length := by omega
    by_cases hjw : j < w.length
    · have e : t.toList[i + j]? = some w[j] := by rw [at_, List.getElem?_append_left hjw, List.getElem?_eq_getElem hjw]
      rw [w_ixS (by omega) e]
      refine ⟨w[j], rfl, ?_⟩
      rw [h3 _ (List.getElem_mem hjw)]
      simp only [dSs, dS, dT, dE, dEs, dTO, dTA, dAnd, dOr, dIt, dIf, gTg, gTgs, wipeD, List.map_cons, List.map_nil, getS_z, getS_s, List.set_cons_zero, List.set_cons_succ, ty_non, ty_bl, ty_int, ty_str, ty_tup, ty_lst, tk1, tk2, tk3, tk4, tk5, tk6, tk7, tk8, tk9, tk10, tk11, tk12, tk13, tk14, tk15, tk16, tk17, tk18, tk19, tk20, w_truB, w_truI, w_truN, w_truL, w_truT, w_is, w_isn, isNon_non, isNon_bl, isNon_int, isNon_str, isNon_lst, isNon_tup, w_add, w_addS, w_addT, w_addL, w_sub, w_mul, w_mod, w_fdiv, w_pow, w_neg, w_eqI, w_neI, w_eqS, w_neS, w_eqB, w_neB, w_lt, w_le, w_gt, w_ge, w_int, w_abs, w_lenL, w_lenT, w_lenS, w_tupL, w_rng1, w_in2, w_in3, bne_self, Bool.not_true, Bool.not_false, Bool.or_false, Bool.false_or, Bool.or_true, Bool.true_or, decide_true, decide_false, and_true, true_and, wIp]
      exact ⟨_, (by omega : w.length - (j + 1) < w.length - j), j + 1, hjw, by rw [show ((i + j : Nat) : Int) + 1 = ((i + (j + 1) : Nat) : Int) by omega], rfl⟩
    · have ej : j = w.length := by omega
      subst ej
      cases r with
      | nil => simp only [List.length_nil] at hw; omega
      | cons c r =>
        have e : t.toList[i + w.length]? = some c := by rw [at_, List.getElem?_append_right (Nat.le_refl _), Nat.sub_self]; rfl
        rw [w_ixS (by omega) e]
        refine ⟨c, rfl, ?_⟩
        rw [h4 c r rfl]
        simp only [dSs, dS, dT, dE, dEs, dTO, dTA, dAnd, dOr, dIt, dIf, gTg, gTgs, wipeD, List.map_cons, List.map_nil, getS_z, getS_s, List.set_cons_zero, List.set_cons_succ, ty_non, ty_bl, ty_int, ty_str, ty_tup, ty_lst, tk1, tk2, tk3, tk4, tk5, tk6, tk7, tk8, tk9, tk10, tk11, tk12, tk13, tk14, tk15, tk16, tk17, tk18, tk19, tk20, w_truB, w_truI, w_truN, w_truL, w_truT, w_is, w_isn, isNon_non, isNon_bl, isNon_int, isNon_str, isNon_lst, isNon_tup, w_add, w_addS, w_addT, w_addL, w_sub, w_mul, w_mod, w_fdiv, w_pow, w_neg, w_eqI, w_neI, w_eqS, w_neS, w_eqB, w_neB, w_lt, w_le, w_gt, w_ge, w_int, w_abs, w_lenL, w_lenT, w_lenS, w_tupL, w_rng1, w_in2, w_in3, bne_self, Bool.not_true, Bool.not_false, Bool.or_false, Bool.false_or, Bool.or_true, Bool.true_or, decide_true, decide_false, and_true, true_and]
        exact q
  · simp only [decide_eq_false hlt]
    have ej : j = w.length := by omega
    subst ej
    exact q
def LexK (ts : List Tk) (o : Option Nat) (M : Store) (Q : DK) (E : XP) : Prop := match o with | none => Q (.lst (ts.map tkD)) M | some e => ∀ M', Dr M M' → E "TextError" (errF "unknown character" e) M'
def spTokens : Spec := fun ds M Q E => ∃ (t S : String) (ts : List Tk) (o : Option Nat), ds = [.str t, .str S] ∧ t.length ≤ 100000 ∧ ' ' ∉ S.toList ∧ '\n' ∉ S.toList ∧ (∀ c ∈ S.toList, isLet c = false) ∧ LexO S.toList t.toList 0 ts o ∧ LexK ts o M Q E
theorem h_tokens : ∀ ds M Q E, ds.length = 2 → spTokens ds M Q E → dSs E (c_tokens spLet spWordEnd) { nx := fun _ M' => Q .non M', rt := Q } (startD n_tokens.length ds) M := by
  rintro ds M Q E hl ⟨t, S, ts, o, rfl, h1, s1, s2, s3, lx, q⟩
  show dSs E (c_tokens spLet spWordEnd) _ [some (.str t), some (.str S), none, none, none, none] M
  unfold c_tokens
  have ll : line = 16777216 := rfl
  have hlen : t.toList.length = t.length := String.length_toList
  simp only [dSs, dS, dT, dE, dEs, dTO, dTA, dAnd, dOr, dIt, dIf, gTg, gTgs, wipeD, List.map_cons, List.map_nil, getS_z, getS_s, List.set_cons_zero, List.set_cons_succ, ty_non, ty_bl, ty_int, ty_str, ty_tup, ty_lst, tk1, tk2, tk3, tk4, tk5, tk6, tk7, tk8, tk9, tk10, tk11, tk12, tk13, tk14, tk15, tk16, tk17, tk18, tk19, tk20, w_truB, w_truI, w_truN, w_truL, w_truT, w_is, w_isn, isNon_non, isNon_bl, isNon_int, isNon_str, isNon_lst, isNon_tup, w_add, w_addS, w_addT, w_addL, w_sub, w_mul, w_mod, w_fdiv, w_pow, w_neg, w_eqI, w_neI, w_eqS, w_neS, w_eqB, w_neB, w_lt, w_le, w_gt, w_ge, w_int, w_abs, w_lenL, w_lenT, w_lenS, w_tupL, w_rng1, w_in2, w_in3, bne_self, Bool.not_true, Bool.not_false, Bool.or_false, Bool.false_or, Bool.or_true, Bool.true_or, decide_true, decide_false, and_true, true_and]
  intro p hp
  have fin : o = none → ∀ (at_ : Nat) (o4 o5 : Option D), ∃ σ' M', frzG 2 [some (.str t), some (.str S), some (.ptr p), some (.int (at_ : Int)), o4, o5] (M.put p (.lst (ts.map tkD))) σ' M' ∧ getS σ' 2 fun d => Q d M' := fun eo at_ o4 o5 => by
    subst eo
    exact ⟨_, _, ⟨p, _, rfl, put_same, rfl, rfl⟩, by rw [del_put hp]; exact q⟩
  refine ⟨fun m σ M' => ∃ (i : Nat) (dn rs : List Tk) (o4 o5 : Option D), i ≤ t.length ∧ σ = [some (.str t), some (.str S), some (.ptr p), some (.int (i : Int)), o4, o5] ∧ M' = M.put p (.lst (dn.map tkD)) ∧ LexO S.toList (t.toList.drop i) i rs o ∧ dn ++ rs = ts ∧ m = t.length - i,
    ⟨_, 0, [], ts, none, none, Nat.zero_le _, rfl, rfl, lx, rfl, rfl⟩, ?_⟩
  rintro m σ M' ⟨i, dn, rs, o4, o5, hi, rfl, rfl, lx', hs, rfl⟩
  have hts := lx.len
  have dl : dn.length ≤ t.length := by
    have := congrArg List.length hs
    rw [List.length_append] at this
    omega
  simp only [dSs, dS, dT, dE, dEs, dTO, dTA, dAnd, dOr, dIt, dIf, gTg, gTgs, wipeD, List.map_cons, List.map_nil, getS_z, getS_s, List.set_cons_zero, List.set_cons_succ, ty_non, ty_bl, ty_int, ty_str, ty_tup, ty_lst, tk1, tk2, tk3, tk4, tk5, tk6, tk7, tk8, tk9, tk10, tk11, tk12, tk13, tk14, tk15, tk16, tk17, tk18, tk19, tk20, w_truB, w_truI, w_truN, w_truL, w_truT, w_is, w_isn, isNon_non, isNon_bl, isNon_int, isNon_str, isNon_lst, isNon_tup, w_add, w_addS, w_addT, w_addL, w_sub, w_mul, w_mod, w_fdiv, w_pow, w_neg, w_eqI, w_neI, w_eqS, w_neS, w_eqB, w_neB, w_lt, w_le, w_gt, w_ge, w_int, w_abs, w_lenL, w_lenT, w_lenS, w_tupL, w_rng1, w_in2, w_in3, bne_self, Bool.not_true, Bool.not_false, Bool.or_false, Bool.false_or, Bool.or_true, Bool.true_or, decide_true, decide_false, and_true, true_and]
  refine ⟨by omega, ?_⟩
  have hM : (M.put p (.lst (dn.map tkD))) p = some (.lst (dn.map tkD)) := put_same
  by_cases hlt : (i : Int) < (t.length : Int)
  · simp only [decide_eq_true hlt]
    have hlt' : i < t.toList.length := by omega
    obtain ⟨c, r, hc⟩ : ∃ c r, t.toList.drop i = c :: r := ⟨_, _, List.drop_eq_getElem_cons hlt'⟩
    have e : t.toList[i]? = some c := by
      have := congrArg (fun l => l[0]?) hc
      simpa using this
    have er : t.toList.drop (i + 1) = r := by
      have := congrArg (fun l => l.drop 1) hc
      simpa [List.drop_drop] using this
    rw [w_ixS (by omega) e]
    have inS : ∀ (QQ : DK) (MM : Store), wCmp .in_ (.str (String.singleton c)) (.str S) MM QQ = QQ (.bl (decide (c ∈ S.toList))) MM := fun QQ MM => by
      show (∃ a, String.singleton c = String.singleton a ∧ QQ (.bl (decide (a ∈ S.toList))) MM) = _
      refine propext ⟨fun ⟨a, ea, qa⟩ => ?_, fun h => ⟨c, rfl, h⟩⟩
      have : c = a := by
        have := congrArg String.toList ea
        simpa using this
      subst this; exact qa
    rw [hc] at lx'
    generalize hcr : c :: r = cr at lx'
    cases lx' with
    | nil => cases hcr
    | bad nl nS n1 n2 =>
      injection hcr with hcr1 hcr2
      subst hcr1; subst hcr2
      refine ⟨c, rfl, ?_⟩
      rw [nl]
      simp only [dSs, dS, dT, dE, dEs, dTO, dTA, dAnd, dOr, dIt, dIf, gTg, gTgs, wipeD, List.map_cons, List.map_nil, getS_z, getS_s, List.set_cons_zero, List.set_cons_succ, ty_non, ty_bl, ty_int, ty_str, ty_tup, ty_lst, tk1, tk2, tk3, tk4, tk5, tk6, tk7, tk8, tk9, tk10, tk11, tk12, tk13, tk14, tk15, tk16, tk17, tk18, tk19, tk20, w_truB, w_truI, w_truN, w_truL, w_truT, w_is, w_isn, isNon_non, isNon_bl, isNon_int, isNon_str, isNon_lst, isNon_tup, w_add, w_addS, w_addT, w_addL, w_sub, w_mul, w_mod, w_fdiv, w_pow, w_neg, w_eqI, w_neI, w_eqS, w_neS, w_eqB, w_neB, w_lt, w_le, w_gt, w_ge, w_int, w_abs, w_lenL, w_lenT, w_lenS, w_tupL, w_rng1, w_in2, w_in3, bne_self, Bool.not_true, Bool.not_false, Bool.or_false, Bool.false_or, Bool.or_true, Bool.true_or, decide_true, decide_false, and_true, true_and, inS, decide_eq_false nS]
      have e2 : ∀ QQ : DK, ∀ MM, wCmp .nin (.str (String.singleton c)) (.tup [.str " ", .str "\n"]) MM QQ = QQ (.bl true) MM := fun QQ MM => by
        have := in_strs (s := String.singleton c) (M := MM) (P := fun b => QQ (.bl (!b)) MM) [" ", "\n"]
        have hd : decide (String.singleton c ∈ [" ", "\n"]) = false := by
          apply decide_eq_false
          intro z
          simp only [List.mem_cons, List.not_mem_nil, or_false] at z
          rcases z with z | z
          · exact n1 (by have := congrArg String.toList z; simpa using this)
          · exact n2 (by have := congrArg String.toList z; simpa using this)
        rw [hd] at this
        exact this
      simp only [e2, dSs, dS, dT, dE, dEs, dTO, dTA, dAnd, dOr, dIt, dIf, gTg, gTgs, wipeD, List.map_cons, List.map_nil, getS_z, getS_s, List.set_cons_zero, List.set_cons_succ, ty_non, ty_bl, ty_int, ty_str, ty_tup, ty_lst, tk1, tk2, tk3, tk4, tk5, tk6, tk7, tk8, tk9, tk10, tk11, tk12, tk13, tk14, tk15, tk16, tk17, tk18, tk19, tk20, w_truB, w_truI, w_truN, w_truL, w_truT, w_is, w_isn, isNon_non, isNon_bl, isNon_int, isNon_str, isNon_lst, isNon_tup, w_add, w_addS, w_addT, w_addL, w_sub, w_mul, w_mod, w_fdiv, w_pow, w_neg, w_eqI, w_neI, w_eqS, w_neS, w_eqB, w_neB, w_lt, w_le, w_gt, w_ge, w_int, w_abs, w_lenL, w_lenT, w_lenS, w_tupL, w_rng1, w_in2, w_in3, bne_self, Bool.not_true, Bool.not_false, Bool.or_false, Bool.false_or, Bool.or_true, Bool.true_or, decide_true, decide_false, and_true, true_and]
      exact w_raise (by omega) (by decide) (q _ (Dr.new hp))
    | ws hw lx2 =>
      injection hcr with hcr1 hcr2
      subst hcr1; subst hcr2
      have nl : isLet c = false := by rcases hw with rfl | rfl <;> decide
      have nS : ¬ c ∈ S.toList := by rcases hw with rfl | rfl <;> assumption
      refine ⟨c, rfl, ?_⟩
      rw [nl]
      simp only [dSs, dS, dT, dE, dEs, dTO, dTA, dAnd, dOr, dIt, dIf, gTg, gTgs, wipeD, List.map_cons, List.map_nil, getS_z, getS_s, List.set_cons_zero, List.set_cons_succ, ty_non, ty_bl, ty_int, ty_str, ty_tup, ty_lst, tk1, tk2, tk3, tk4, tk5, tk6, tk7, tk8, tk9, tk10, tk11, tk12, tk13, tk14, tk15, tk16, tk17, tk18, tk19, tk20, w_truB, w_truI, w_truN, w_truL, w_truT, w_is, w_isn, isNon_non, isNon_bl, isNon_int, isNon_str, isNon_lst, isNon_tup, w_add, w_addS, w_addT, w_addL, w_sub, w_mul, w_mod, w_fdiv, w_pow, w_neg, w_eqI, w_neI, w_eqS, w_neS, w_eqB, w_neB, w_lt, w_le, w_gt, w_ge, w_int, w_abs, w_lenL, w_lenT, w_lenS, w_tupL, w_rng1, w_in2, w_in3, bne_self, Bool.not_true, Bool.not_false, Bool.or_false, Bool.false_or, Bool.or_true, Bool.true_or, decide_true, decide_false, and_true, true_and, inS, decide_eq_false nS]
      have e2 : ∀ QQ : DK, ∀ MM, wCmp .nin (.str (String.singleton c)) (.tup [.str " ", .str "\n"]) MM QQ = QQ (.bl false) MM := fun QQ MM => by
        have := in_strs (s := String.singleton c) (M := MM) (P := fun b => QQ (.bl (!b)) MM) [" ", "\n"]
        have hd : decide (String.singleton c ∈ [" ", "\n"]) = true := by rcases hw with rfl | rfl <;> decide
        rw [hd] at this
        exact this
      simp only [e2, dSs, dS, dT, dE, dEs, dTO, dTA, dAnd, dOr, dIt, dIf, gTg, gTgs, wipeD, List.map_cons, List.map_nil, getS_z, getS_s, List.set_cons_zero, List.set_cons_succ, ty_non, ty_bl, ty_int, ty_str, ty_tup, ty_lst, tk1, tk2, tk3, tk4, tk5, tk6, tk7, tk8, tk9, tk10, tk11, tk12, tk13, tk14, tk15, tk16, tk17, tk18, tk19, tk20, w_truB, w_truI, w_truN, w_truL, w_truT, w_is, w_isn, isNon_non, isNon_bl, isNon_int, isNon_str, isNon_lst, isNon_tup, w_add, w_addS, w_addT, w_addL, w_sub, w_mul, w_mod, w_fdiv, w_pow, w_neg, w_eqI, w_neI, w_eqS, w_neS, w_eqB, w_neB, w_lt, w_le, w_gt, w_ge, w_int, w_abs, w_lenL, w_lenT, w_lenS, w_tupL, w_rng1, w_in2, w_in3, bne_self, Bool.not_true, Bool.not_false, Bool.or_false, Bool.false_or, Bool.or_true, Bool.true_or, decide_true, decide_false, and_true, true_and, wIp]
      exact ⟨_, (by omega : t.length - (i + 1) < t.length - i), i + 1, dn, rs, _, _, by omega, by rw [show (i : Int) + 1 = ((i + 1 : Nat) : Int) by omega], rfl, by rw [er]; exact lx2, hs, rfl⟩
    | @sign c' r' _ ts' _ hS hn lx2 =>
      injection hcr with hcr1 hcr2
      subst hcr1; subst hcr2
      refine ⟨c, rfl, ?_⟩
      rw [hn]
      simp only [dSs, dS, dT, dE, dEs, dTO, dTA, dAnd, dOr, dIt, dIf, gTg, gTgs, wipeD, List.map_cons, List.map_nil, getS_z, getS_s, List.set_cons_zero, List.set_cons_succ, ty_non, ty_bl, ty_int, ty_str, ty_tup, ty_lst, tk1, tk2, tk3, tk4, tk5, tk6, tk7, tk8, tk9, tk10, tk11, tk12, tk13, tk14, tk15, tk16, tk17, tk18, tk19, tk20, w_truB, w_truI, w_truN, w_truL, w_truT, w_is, w_isn, isNon_non, isNon_bl, isNon_int, isNon_str, isNon_lst, isNon_tup, w_add, w_addS, w_addT, w_addL, w_sub, w_mul, w_mod, w_fdiv, w_pow, w_neg, w_eqI, w_neI, w_eqS, w_neS, w_eqB, w_neB, w_lt, w_le, w_gt, w_ge, w_int, w_abs, w_lenL, w_lenT, w_lenS, w_tupL, w_rng1, w_in2, w_in3, bne_self, Bool.not_true, Bool.not_false, Bool.or_false, Bool.false_or, Bool.or_true, Bool.true_or, decide_true, decide_false, and_true, true_and, inS, decide_eq_true hS, w_appTy hM, w_app hM, List.length_map]
      refine ⟨by omega, ?_⟩
      rw [put_put]
      simp only [dSs, dS, dT, dE, dEs, dTO, dTA, dAnd, dOr, dIt, dIf, gTg, gTgs, wipeD, List.map_cons, List.map_nil, getS_z, getS_s, List.set_cons_zero, List.set_cons_succ, ty_non, ty_bl, ty_int, ty_str, ty_tup, ty_lst, tk1, tk2, tk3, tk4, tk5, tk6, tk7, tk8, tk9, tk10, tk11, tk12, tk13, tk14, tk15, tk16, tk17, tk18, tk19, tk20, w_truB, w_truI, w_truN, w_truL, w_truT, w_is, w_isn, isNon_non, isNon_bl, isNon_int, isNon_str, isNon_lst, isNon_tup, w_add, w_addS, w_addT, w_addL, w_sub, w_mul, w_mod, w_fdiv, w_pow, w_neg, w_eqI, w_neI, w_eqS, w_neS, w_eqB, w_neB, w_lt, w_le, w_gt, w_ge, w_int, w_abs, w_lenL, w_lenT, w_lenS, w_tupL, w_rng1, w_in2, w_in3, bne_self, Bool.not_true, Bool.not_false, Bool.or_false, Bool.false_or, Bool.or_true, Bool.true_or, decide_true, decide_false, and_true, true_and, wIp]
      refine ⟨_, (by omega : t.length - (i + 1) < t.length - i), i + 1, dn ++ [⟨false, String.singleton c, i⟩], ts', _, _, by omega, by rw [show (i : Int) + 1 = ((i + 1 : Nat) : Int) by omega], by rw [List.map_append]; rfl, by rw [er]; exact lx2, by rw [List.append_assoc]; exact hs, rfl⟩
    | @word w r' _ ts' _ hw hl' hr lx2 =>
      cases w with
      | nil => exact absurd rfl hw
      | cons c' w =>
        rw [List.cons_append] at hcr
        injection hcr with hcr1 hcr2
        subst hcr1
        have hdr : t.toList.drop i = (c :: w) ++ r' := by rw [hc, hcr2]; rfl
        have hle : t.length - i = (c :: w).length + r'.length := by rw [← hlen, ← List.length_drop, hdr, List.length_append]
        refine ⟨c, rfl, ?_⟩
        rw [hl' c List.mem_cons_self]
        simp only [dSs, dS, dT, dE, dEs, dTO, dTA, dAnd, dOr, dIt, dIf, gTg, gTgs, wipeD, List.map_cons, List.map_nil, getS_z, getS_s, List.set_cons_zero, List.set_cons_succ, ty_non, ty_bl, ty_int, ty_str, ty_tup, ty_lst, tk1, tk2, tk3, tk4, tk5, tk6, tk7, tk8, tk9, tk10, tk11, tk12, tk13, tk14, tk15, tk16, tk17, tk18, tk19, tk20, w_truB, w_truI, w_truN, w_truL, w_truT, w_is, w_isn, isNon_non, isNon_bl, isNon_int, isNon_str, isNon_lst, isNon_tup, w_add, w_addS, w_addT, w_addL, w_sub, w_mul, w_mod, w_fdiv, w_pow, w_neg, w_eqI, w_neI, w_eqS, w_neS, w_eqB, w_neB, w_lt, w_le, w_gt, w_ge, w_int, w_abs, w_lenL, w_lenT, w_lenS, w_tupL, w_rng1, w_in2, w_in3, bne_self, Bool.not_true, Bool.not_false, Bool.or_false, Bool.false_or, Bool.or_true, Bool.true_or, decide_true, decide_false, and_true, true_and]
        refine ⟨t, i, c :: w, r', rfl, h1, hi, hdr, hl', hr, ?_⟩
        simp only [dSs, dS, dT, dE, dEs, dTO, dTA, dAnd, dOr, dIt, dIf, gTg, gTgs, wipeD, List.map_cons, List.map_nil, getS_z, getS_s, List.set_cons_zero, List.set_cons_succ, ty_non, ty_bl, ty_int, ty_str, ty_tup, ty_lst, tk1, tk2, tk3, tk4, tk5, tk6, tk7, tk8, tk9, tk10, tk11, tk12, tk13, tk14, tk15, tk16, tk17, tk18, tk19, tk20, w_truB, w_truI, w_truN, w_truL, w_truT, w_is, w_isn, isNon_non, isNon_bl, isNon_int, isNon_str, isNon_lst, isNon_tup, w_add, w_addS, w_addT, w_addL, w_sub, w_mul, w_mod, w_fdiv, w_pow, w_neg, w_eqI, w_neI, w_eqS, w_neS, w_eqB, w_neB, w_lt, w_le, w_gt, w_ge, w_int, w_abs, w_lenL, w_lenT, w_lenS, w_tupL, w_rng1, w_in2, w_in3, bne_self, Bool.not_true, Bool.not_false, Bool.or_false, Bool.false_or, Bool.or_true, Bool.true_or, decide_true, decide_false, and_true, true_and, w_appTy hM, optI]
        have e3 : ∀ QQ : DK, wSl (.str t) (some (i : Int)) (some ((i + (c :: w).length : Nat) : Int)) (M.put p (.lst (dn.map tkD))) QQ = QQ (.str (String.ofList (c :: w))) (M.put p (.lst (dn.map tkD))) := fun QQ => by
          show (t.length ≤ line ∧ QQ (.str (String.ofList (cutD t.toList (some (i : Int)) (some ((i + (c :: w).length : Nat) : Int))))) _) = _
          rw [cut_word hdr]
          exact propext ⟨fun h => h.2, fun h => ⟨by omega, h⟩⟩
        simp only [e3, w_app hM, List.length_map, put_put]
        refine ⟨by omega, ?_⟩
        rw [List.length_cons] at hle
        refine ⟨_, (by rw [List.length_cons]; omega : t.length - (i + (c :: w).length) < t.length - i), i + (c :: w).length, dn ++ [⟨true, String.ofList (c :: w), i⟩], ts', _, _, by rw [List.length_cons]; omega, rfl, by rw [List.map_append]; rfl, ?_, by rw [List.append_assoc]; exact hs, rfl⟩
        have : t.toList.drop (i + (c :: w).length) = r' := by rw [← List.drop_drop, hdr, List.drop_left]
        rw [this]; exact lx2
  · simp only [decide_eq_false hlt]
    have e0 : t.toList.drop i = [] := List.drop_eq_nil_of_le (by omega)
    rw [e0] at lx'
    have : rs = [] ∧ o = none := by
      generalize hz : ([] : List Char) = z at lx'
      cases lx' with
      | nil => exact ⟨rfl, rfl⟩
      | bad _ _ _ _ => cases hz
      | ws _ _ => cases hz
      | sign _ _ _ => cases hz
      | word hw _ _ _ =>
        have := List.append_eq_nil_iff.mp hz.symm
        exact absurd this.1 hw
    obtain ⟨rfl, eo⟩ := this
    rw [List.append_nil] at hs
    subst hs
    exact fin eo i o4 o5
end K46
end VS

/-! the reader: what its methods read (any text) -/
namespace VS
open PySem PySem.Spec PyProof.Rows L2
namespace K46
def fsR (n : Nat) (all : List Tk) (k : Nat) : List (String × D) := [("size", .int (n : Int)), ("parts", .lst (all.map tkD)), ("taken", .int (k : Int))]
def rdO (n : Nat) (all : List Tk) (k : Nat) : MO := .inst "Reader" (fsR n all k)
section
variable {n k : Nat} {all : List Tk} {M : Store} {p : Addr}
theorem rd_asI (h : M p = some (rdO n all k)) : asI M (.ptr p) = some ("Reader", fsR n all k) := by
  show (match M p with | some (.inst c fs) => some (c, fs) | _ => none) = _
  rw [h]; rfl
theorem rd_size : lookF "size" (fsR n all k) = some (.int (n : Int)) := rfl
theorem rd_parts : lookF "parts" (fsR n all k) = some (.lst (all.map tkD)) := rfl
theorem rd_taken : lookF "taken" (fsR n all k) = some (.int (k : Int)) := rfl
theorem rd_m1 : lookF "kind" (fsR n all k) = none := rfl
theorem rd_m2 : lookF "value" (fsR n all k) = none := rfl
theorem rd_m3 : lookF "spot" (fsR n all k) = none := rfl
theorem rd_m4 : lookF "fail" (fsR n all k) = none := rfl
theorem rd_m5 : lookF "is_sign" (fsR n all k) = none := rfl
theorem rd_m6 : lookF "is_word" (fsR n all k) = none := rfl
theorem rd_m7 : lookF "accept" (fsR n all k) = none := rfl
theorem rd_m8 : lookF "need" (fsR n all k) = none := rfl
theorem rd_m9 : lookF "name" (fsR n all k) = none := rfl
theorem rd_take (h : M p = some (rdO n all k)) {Q : Store → Prop} : wFld "Reader" (.ptr p) "taken" (.int ((k + 1 : Nat) : Int)) M Q = Q (M.put p (rdO n all (k + 1))) := by
  show (match M p with | some (.inst c fs) => c = "Reader" ∧ fs.length < 1000 ∧ Q (M.put p (.inst c (putFd "taken" (.int ((k + 1 : Nat) : Int)) fs))) | _ => False) = _
  rw [h]
  exact propext ⟨fun z => z.2.2, fun z => ⟨rfl, by show 3 < 1000; decide, z⟩⟩
theorem rd_plus (h : M p = some (rdO n all k)) {Q : Store → Prop} : (wIp .add (.int (k : Int)) (.int 1) M fun z M3 => wFld "Reader" (.ptr p) "taken" z M3 Q) = Q (M.put p (rdO n all (k + 1))) := by
  show wFld "Reader" (.ptr p) "taken" (.int ((k : Int) + 1)) M Q = _
  rw [show ((k : Int) + 1) = ((k + 1 : Nat) : Int) by omega, rd_take h]
end
def spRInit : Spec := fun ds M Q E => ∃ (p : Addr) (t S : String) (ts : List Tk) (o : Option Nat), ds = [.ptr p, .str t, .str S] ∧ M p = some (.inst "Reader" []) ∧ t.length ≤ 100000 ∧ ' ' ∉ S.toList ∧ '\n' ∉ S.toList ∧ (∀ c ∈ S.toList, isLet c = false) ∧ LexO S.toList t.toList 0 ts o ∧
  (o = none → Q .non (M.put p (rdO t.length ts 0))) ∧ (∀ e, o = some e → ∀ M', Adv p M M' → E "TextError" (errF "unknown character" e) M')
theorem h_Reader___init__ : ∀ ds M Q E, ds.length = 3 → spRInit ds M Q E → dSs E (c_Reader___init__ spTokens) { nx := fun _ M' => Q .non M', rt := Q } (startD n_Reader___init__.length ds) M := by
  rintro ds M Q E hl ⟨p, t, S, ts, o, rfl, hM, h1, s1, s2, s3, lx, q, qe⟩
  show dSs E (c_Reader___init__ spTokens) _ [some (.ptr p), some (.str t), some (.str S)] M
  unfold c_Reader___init__
  have ll : line = 16777216 := rfl
  have fld : ∀ {f : String} {d : D} {fs : List (String × D)} {M : Store} {Q : Store → Prop}, M p = some (.inst "Reader" fs) → fs.length < 1000 → Q (M.put p (.inst "Reader" (putFd f d fs))) → wFld "Reader" (.ptr p) f d M Q := fun {f d fs M Q} h hf hq => by
    show (match M p with | some (.inst c fs) => c = "Reader" ∧ fs.length < 1000 ∧ Q (M.put p (.inst c (putFd f d fs))) | _ => False)
    rw [h]; exact ⟨rfl, hf, hq⟩
  simp only [dSs, dS, dT, dE, dEs, dTO, dTA, dAnd, dOr, dIt, dIf, gTg, gTgs, wipeD, List.map_cons, List.map_nil, getS_z, getS_s, List.set_cons_zero, List.set_cons_succ, ty_non, ty_bl, ty_int, ty_str, ty_tup, ty_lst, tk1, tk2, tk3, tk4, tk5, tk6, tk7, tk8, tk9, tk10, tk11, tk12, tk13, tk14, tk15, tk16, tk17, tk18, tk19, tk20, w_truB, w_truI, w_truN, w_truL, w_truT, w_is, w_isn, isNon_non, isNon_bl, isNon_int, isNon_str, isNon_lst, isNon_tup, w_add, w_addS, w_addT, w_addL, w_sub, w_mul, w_mod, w_fdiv, w_pow, w_neg, w_eqI, w_neI, w_eqS, w_neS, w_eqB, w_neB, w_lt, w_le, w_gt, w_ge, w_int, w_abs, w_lenL, w_lenT, w_lenS, w_tupL, w_rng1, w_in2, w_in3, bne_self, Bool.not_true, Bool.not_false, Bool.or_false, Bool.false_or, Bool.or_true, Bool.true_or, decide_true, decide_false, and_true, true_and]
  refine ⟨by omega, fld hM (by show 0 < 1000; decide) ?_⟩
  refine ⟨t, S, ts, o, rfl, h1, s1, s2, s3, lx, ?_⟩
  cases o with
  | some e => exact fun M' d => qe e rfl M' ((Adv.refl p M).put.dr d)
  | none =>
    unfold LexK
    dsimp only
    refine fld put_same ?_ ?_
    · show 1 < 1000; decide
    refine fld put_same ?_ ?_
    · show 2 < 1000; decide
    rw [put_put, put_put]
    exact q rfl
def kindK : Option Tk → String
  | none => "end" | some t => kindT t.w
def valK : Option Tk → D
  | none => .non | some t => .str t.v
def isSg (s : String) : Option Tk → Bool
  | none => false | some t => !t.w && decide (t.v = s)
def isWd (s : String) : Option Tk → Bool
  | none => false | some t => t.w && decide (t.v = s)
def spotK (n : Nat) : Option Tk → Nat
  | none => n | some t => t.at_
def spKind : Spec := fun ds M Q _ => ∃ p n all k, ds = [.ptr p] ∧ M p = some (rdO n all k) ∧ Q (.str (kindK all[k]?)) M
def spValue : Spec := fun ds M Q _ => ∃ p n all k, ds = [.ptr p] ∧ M p = some (rdO n all k) ∧ Q (valK all[k]?) M
def spSpot : Spec := fun ds M Q _ => ∃ p n all k, ds = [.ptr p] ∧ M p = some (rdO n all k) ∧ Q (.int (spotK n all[k]? : Nat)) M
def spIsSign : Spec := fun ds M Q _ => ∃ p n all k s, ds = [.ptr p, .str s] ∧ M p = some (rdO n all k) ∧ Q (.bl (isSg s all[k]?)) M
def spIsWord : Spec := fun ds M Q _ => ∃ p n all k s, ds = [.ptr p, .str s] ∧ M p = some (rdO n all k) ∧ Q (.bl (isWd s all[k]?)) M
def spAccept : Spec := fun ds M Q _ => ∃ p n all k s, ds = [.ptr p, .str s] ∧ M p = some (rdO n all k) ∧ (isSg s all[k]? = true → Q (.bl true) (M.put p (rdO n all (k + 1)))) ∧ (isSg s all[k]? = false → Q (.bl false) M)
def msgK : Option Tk → String
  | none => "unexpected end" | some _ => "unexpected token"
structure RdOk (n : Nat) (all : List Tk) : Prop where
  n : n ≤ 100000
  a : ∀ t ∈ all, t.at_ ≤ 100000
  v : ∀ t ∈ all, t.v.length ≤ 100000
theorem RdOk.spot {n : Nat} {all : List Tk} (h : RdOk n all) (k : Nat) : spotK n all[k]? ≤ 100000 := by
  cases e : all[k]? with
  | none => exact h.n
  | some t => exact h.a t (List.mem_of_getElem? e)
def ErrK (n : Nat) (all : List Tk) (k : Nat) (M : Store) (E : XP) : Prop := E "TextError" (errF (msgK all[k]?) (spotK n all[k]?)) M
def nmOk : Option Tk → Bool
  | some t => t.w && decide (t.v.length ≤ 8) | none => false
def spFail : Spec := fun ds M _ E => ∃ p n all k, ds = [.ptr p] ∧ M p = some (rdO n all k) ∧ RdOk n all ∧ ErrK n all k M E
def spNeed : Spec := fun ds M Q E => ∃ p n all k s, ds = [.ptr p, .str s] ∧ M p = some (rdO n all k) ∧ RdOk n all ∧ (isSg s all[k]? = true → Q .non (M.put p (rdO n all (k + 1)))) ∧ (isSg s all[k]? = false → ErrK n all k M E)
def spName : Spec := fun ds M Q E => ∃ p n all k, ds = [.ptr p] ∧ M p = some (rdO n all k) ∧ RdOk n all ∧ (∀ v a, all[k]? = some ⟨true, v, a⟩ → v.length ≤ 8 → Q (.str v) (M.put p (rdO n all (k + 1)))) ∧ (nmOk all[k]? = false → ErrK n all k M E)
theorem tk_at {all : List Tk} {k : Nat} {t : Tk} {M : Store} {Q : DK} (h : all[k]? = some t) : wIx (.lst (all.map tkD)) (.int (k : Int)) M Q = Q (tkD t) M := w_ixL (atI_natD (by rw [List.getElem?_map, h]; rfl))
theorem h_Reader_kind : ∀ ds M Q E, ds.length = 1 → spKind ds M Q E → dSs E c_Reader_kind { nx := fun _ M' => Q .non M', rt := Q } (startD n_Reader_kind.length ds) M := by
  rintro ds M Q E hl ⟨p, n, all, k, rfl, hM, q⟩
  show dSs E c_Reader_kind _ [some (.ptr p)] M
  unfold c_Reader_kind
  simp only [dSs, dS, dT, dE, dEs, dTO, dTA, dAnd, dOr, dIt, dIf, gTg, gTgs, wipeD, List.map_cons, List.map_nil, getS_z, getS_s, List.set_cons_zero, List.set_cons_succ, ty_non, ty_bl, ty_int, ty_str, ty_tup, ty_lst, tk1, tk2, tk3, tk4, tk5, tk6, tk7, tk8, tk9, tk10, tk11, tk12, tk13, tk14, tk15, tk16, tk17, tk18, tk19, tk20, w_truB, w_truI, w_truN, w_truL, w_truT, w_is, w_isn, isNon_non, isNon_bl, isNon_int, isNon_str, isNon_lst, isNon_tup, w_add, w_addS, w_addT, w_addL, w_sub, w_mul, w_mod, w_fdiv, w_pow, w_neg, w_eqI, w_neI, w_eqS, w_neS, w_eqB, w_neB, w_lt, w_le, w_gt, w_ge, w_int, w_abs, w_lenL, w_lenT, w_lenS, w_tupL, w_rng1, w_in2, w_in3, bne_self, Bool.not_true, Bool.not_false, Bool.or_false, Bool.false_or, Bool.or_true, Bool.true_or, decide_true, decide_false, and_true, true_and, rd_asI hM, rd_taken, rd_parts, List.length_map]
  cases e : all[k]? with
  | none =>
    rw [e] at q
    have : ¬ ((k : Int) < (all.length : Int)) := by have := List.getElem?_eq_none_iff.mp e; omega
    simp only [decide_eq_false this]
    exact q
  | some t =>
    rw [e] at q
    have : (k : Int) < (all.length : Int) := by have := (List.getElem?_eq_some_iff.mp e).1; omega
    simp only [decide_eq_true this, tk_at e, tkD, w_ixT at_0]
    exact q
theorem h_Reader_value : ∀ ds M Q E, ds.length = 1 → spValue ds M Q E → dSs E c_Reader_value { nx := fun _ M' => Q .non M', rt := Q } (startD n_Reader_value.length ds) M := by
  rintro ds M Q E hl ⟨p, n, all, k, rfl, hM, q⟩
  show dSs E c_Reader_value _ [some (.ptr p)] M
  unfold c_Reader_value
  simp only [dSs, dS, dT, dE, dEs, dTO, dTA, dAnd, dOr, dIt, dIf, gTg, gTgs, wipeD, List.map_cons, List.map_nil, getS_z, getS_s, List.set_cons_zero, List.set_cons_succ, ty_non, ty_bl, ty_int, ty_str, ty_tup, ty_lst, tk1, tk2, tk3, tk4, tk5, tk6, tk7, tk8, tk9, tk10, tk11, tk12, tk13, tk14, tk15, tk16, tk17, tk18, tk19, tk20, w_truB, w_truI, w_truN, w_truL, w_truT, w_is, w_isn, isNon_non, isNon_bl, isNon_int, isNon_str, isNon_lst, isNon_tup, w_add, w_addS, w_addT, w_addL, w_sub, w_mul, w_mod, w_fdiv, w_pow, w_neg, w_eqI, w_neI, w_eqS, w_neS, w_eqB, w_neB, w_lt, w_le, w_gt, w_ge, w_int, w_abs, w_lenL, w_lenT, w_lenS, w_tupL, w_rng1, w_in2, w_in3, bne_self, Bool.not_true, Bool.not_false, Bool.or_false, Bool.false_or, Bool.or_true, Bool.true_or, decide_true, decide_false, and_true, true_and, rd_asI hM, rd_taken, rd_parts, List.length_map]
  cases e : all[k]? with
  | none =>
    rw [e] at q
    have : ¬ ((k : Int) < (all.length : Int)) := by have := List.getElem?_eq_none_iff.mp e; omega
    simp only [decide_eq_false this]
    exact q
  | some t =>
    rw [e] at q
    have : (k : Int) < (all.length : Int) := by have := (List.getElem?_eq_some_iff.mp e).1; omega
    simp only [decide_eq_true this, tk_at e, tkD, w_ixT at_1]
    exact q
theorem h_Reader_is_sign : ∀ ds M Q E, ds.length = 2 → spIsSign ds M Q E → dSs E (c_Reader_is_sign spKind spValue) { nx := fun _ M' => Q .non M', rt := Q } (startD n_Reader_is_sign.length ds) M := by
  rintro ds M Q E hl ⟨p, n, all, k, s, rfl, hM, q⟩
  show dSs E (c_Reader_is_sign spKind spValue) _ [some (.ptr p), some (.str s)] M
  unfold c_Reader_is_sign
  simp only [dSs, dS, dT, dE, dEs, dTO, dTA, dAnd, dOr, dIt, dIf, gTg, gTgs, wipeD, List.map_cons, List.map_nil, getS_z, getS_s, List.set_cons_zero, List.set_cons_succ, ty_non, ty_bl, ty_int, ty_str, ty_tup, ty_lst, tk1, tk2, tk3, tk4, tk5, tk6, tk7, tk8, tk9, tk10, tk11, tk12, tk13, tk14, tk15, tk16, tk17, tk18, tk19, tk20, w_truB, w_truI, w_truN, w_truL, w_truT, w_is, w_isn, isNon_non, isNon_bl, isNon_int, isNon_str, isNon_lst, isNon_tup, w_add, w_addS, w_addT, w_addL, w_sub, w_mul, w_mod, w_fdiv, w_pow, w_neg, w_eqI, w_neI, w_eqS, w_neS, w_eqB, w_neB, w_lt, w_le, w_gt, w_ge, w_int, w_abs, w_lenL, w_lenT, w_lenS, w_tupL, w_rng1, w_in2, w_in3, bne_self, Bool.not_true, Bool.not_false, Bool.or_false, Bool.false_or, Bool.or_true, Bool.true_or, decide_true, decide_false, and_true, true_and, rd_asI hM, rd_m1, rd_m2]
  refine ⟨p, n, all, k, rfl, hM, ?_⟩
  simp only [dSs, dS, dT, dE, dEs, dTO, dTA, dAnd, dOr, dIt, dIf, gTg, gTgs, wipeD, List.map_cons, List.map_nil, getS_z, getS_s, List.set_cons_zero, List.set_cons_succ, ty_non, ty_bl, ty_int, ty_str, ty_tup, ty_lst, tk1, tk2, tk3, tk4, tk5, tk6, tk7, tk8, tk9, tk10, tk11, tk12, tk13, tk14, tk15, tk16, tk17, tk18, tk19, tk20, w_truB, w_truI, w_truN, w_truL, w_truT, w_is, w_isn, isNon_non, isNon_bl, isNon_int, isNon_str, isNon_lst, isNon_tup, w_add, w_addS, w_addT, w_addL, w_sub, w_mul, w_mod, w_fdiv, w_pow, w_neg, w_eqI, w_neI, w_eqS, w_neS, w_eqB, w_neB, w_lt, w_le, w_gt, w_ge, w_int, w_abs, w_lenL, w_lenT, w_lenS, w_tupL, w_rng1, w_in2, w_in3, bne_self, Bool.not_true, Bool.not_false, Bool.or_false, Bool.false_or, Bool.or_true, Bool.true_or, decide_true, decide_false, and_true, true_and]
  cases e : all[k]? with
  | none =>
    rw [e] at q
    simp only [kindK, show decide ("end" = "sign") = false by decide]
    exact q
  | some t =>
    rw [e] at q
    obtain ⟨w, v, a⟩ := t
    cases w with
    | true =>
      simp only [kindK, kindT, show decide ("word" = "sign") = false by decide]
      exact q
    | false =>
      simp only [kindK, kindT, show decide ("sign" = "sign") = true by decide, rd_asI hM, rd_m2, true_and]
      refine ⟨p, n, all, k, rfl, hM, ?_⟩
      rw [e]
      simp only [valK, w_eqS]
      have : isSg s (some ⟨false, v, a⟩) = decide (v = s) := by show (!false && decide (v = s)) = _; rfl
      rw [this] at q
      exact q
theorem h_Reader_accept : ∀ ds M Q E, ds.length = 2 → spAccept ds M Q E → dSs E (c_Reader_accept spIsSign) { nx := fun _ M' => Q .non M', rt := Q } (startD n_Reader_accept.length ds) M := by
  rintro ds M Q E hl ⟨p, n, all, k, s, rfl, hM, q1, q2⟩
  show dSs E (c_Reader_accept spIsSign) _ [some (.ptr p), some (.str s)] M
  unfold c_Reader_accept
  simp only [dSs, dS, dT, dE, dEs, dTO, dTA, dAnd, dOr, dIt, dIf, gTg, gTgs, wipeD, List.map_cons, List.map_nil, getS_z, getS_s, List.set_cons_zero, List.set_cons_succ, ty_non, ty_bl, ty_int, ty_str, ty_tup, ty_lst, tk1, tk2, tk3, tk4, tk5, tk6, tk7, tk8, tk9, tk10, tk11, tk12, tk13, tk14, tk15, tk16, tk17, tk18, tk19, tk20, w_truB, w_truI, w_truN, w_truL, w_truT, w_is, w_isn, isNon_non, isNon_bl, isNon_int, isNon_str, isNon_lst, isNon_tup, w_add, w_addS, w_addT, w_addL, w_sub, w_mul, w_mod, w_fdiv, w_pow, w_neg, w_eqI, w_neI, w_eqS, w_neS, w_eqB, w_neB, w_lt, w_le, w_gt, w_ge, w_int, w_abs, w_lenL, w_lenT, w_lenS, w_tupL, w_rng1, w_in2, w_in3, bne_self, Bool.not_true, Bool.not_false, Bool.or_false, Bool.false_or, Bool.or_true, Bool.true_or, decide_true, decide_false, and_true, true_and, rd_asI hM, rd_m5]
  refine ⟨p, n, all, k, s, rfl, hM, ?_⟩
  simp only [dSs, dS, dT, dE, dEs, dTO, dTA, dAnd, dOr, dIt, dIf, gTg, gTgs, wipeD, List.map_cons, List.map_nil, getS_z, getS_s, List.set_cons_zero, List.set_cons_succ, ty_non, ty_bl, ty_int, ty_str, ty_tup, ty_lst, tk1, tk2, tk3, tk4, tk5, tk6, tk7, tk8, tk9, tk10, tk11, tk12, tk13, tk14, tk15, tk16, tk17, tk18, tk19, tk20, w_truB, w_truI, w_truN, w_truL, w_truT, w_is, w_isn, isNon_non, isNon_bl, isNon_int, isNon_str, isNon_lst, isNon_tup, w_add, w_addS, w_addT, w_addL, w_sub, w_mul, w_mod, w_fdiv, w_pow, w_neg, w_eqI, w_neI, w_eqS, w_neS, w_eqB, w_neB, w_lt, w_le, w_gt, w_ge, w_int, w_abs, w_lenL, w_lenT, w_lenS, w_tupL, w_rng1, w_in2, w_in3, bne_self, Bool.not_true, Bool.not_false, Bool.or_false, Bool.false_or, Bool.or_true, Bool.true_or, decide_true, decide_false, and_true, true_and]
  cases e : isSg s all[k]? with
  | false => exact q2 e
  | true =>
    simp only [dSs, dS, dT, dE, dEs, dTO, dTA, dAnd, dOr, dIt, dIf, gTg, gTgs, wipeD, List.map_cons, List.map_nil, getS_z, getS_s, List.set_cons_zero, List.set_cons_succ, ty_non, ty_bl, ty_int, ty_str, ty_tup, ty_lst, tk1, tk2, tk3, tk4, tk5, tk6, tk7, tk8, tk9, tk10, tk11, tk12, tk13, tk14, tk15, tk16, tk17, tk18, tk19, tk20, w_truB, w_truI, w_truN, w_truL, w_truT, w_is, w_isn, isNon_non, isNon_bl, isNon_int, isNon_str, isNon_lst, isNon_tup, w_add, w_addS, w_addT, w_addL, w_sub, w_mul, w_mod, w_fdiv, w_pow, w_neg, w_eqI, w_neI, w_eqS, w_neS, w_eqB, w_neB, w_lt, w_le, w_gt, w_ge, w_int, w_abs, w_lenL, w_lenT, w_lenS, w_tupL, w_rng1, w_in2, w_in3, bne_self, Bool.not_true, Bool.not_false, Bool.or_false, Bool.false_or, Bool.or_true, Bool.true_or, decide_true, decide_false, and_true, true_and, rd_asI hM, rd_taken, rd_plus hM]
    exact q1 e
theorem h_Reader_fail : ∀ ds M Q E, ds.length = 1 → spFail ds M Q E → dSs E (c_Reader_fail spSpot spKind) { nx := fun _ M' => Q .non M', rt := Q } (startD n_Reader_fail.length ds) M := by
  rintro ds M Q E hl ⟨p, n, all, k, rfl, hM, ok, q⟩
  show dSs E (c_Reader_fail spSpot spKind) _ [some (.ptr p)] M
  unfold c_Reader_fail
  simp only [dSs, dS, dT, dE, dEs, dTO, dTA, dAnd, dOr, dIt, dIf, gTg, gTgs, wipeD, List.map_cons, List.map_nil, getS_z, getS_s, List.set_cons_zero, List.set_cons_succ, ty_non, ty_bl, ty_int, ty_str, ty_tup, ty_lst, tk1, tk2, tk3, tk4, tk5, tk6, tk7, tk8, tk9, tk10, tk11, tk12, tk13, tk14, tk15, tk16, tk17, tk18, tk19, tk20, w_truB, w_truI, w_truN, w_truL, w_truT, w_is, w_isn, isNon_non, isNon_bl, isNon_int, isNon_str, isNon_lst, isNon_tup, w_add, w_addS, w_addT, w_addL, w_sub, w_mul, w_mod, w_fdiv, w_pow, w_neg, w_eqI, w_neI, w_eqS, w_neS, w_eqB, w_neB, w_lt, w_le, w_gt, w_ge, w_int, w_abs, w_lenL, w_lenT, w_lenS, w_tupL, w_rng1, w_in2, w_in3, bne_self, Bool.not_true, Bool.not_false, Bool.or_false, Bool.false_or, Bool.or_true, Bool.true_or, decide_true, decide_false, and_true, true_and, rd_asI hM, rd_m3]
  refine ⟨p, n, all, k, rfl, hM, ?_⟩
  simp only [dSs, dS, dT, dE, dEs, dTO, dTA, dAnd, dOr, dIt, dIf, gTg, gTgs, wipeD, List.map_cons, List.map_nil, getS_z, getS_s, List.set_cons_zero, List.set_cons_succ, ty_non, ty_bl, ty_int, ty_str, ty_tup, ty_lst, tk1, tk2, tk3, tk4, tk5, tk6, tk7, tk8, tk9, tk10, tk11, tk12, tk13, tk14, tk15, tk16, tk17, tk18, tk19, tk20, w_truB, w_truI, w_truN, w_truL, w_truT, w_is, w_isn, isNon_non, isNon_bl, isNon_int, isNon_str, isNon_lst, isNon_tup, w_add, w_addS, w_addT, w_addL, w_sub, w_mul, w_mod, w_fdiv, w_pow, w_neg, w_eqI, w_neI, w_eqS, w_neS, w_eqB, w_neB, w_lt, w_le, w_gt, w_ge, w_int, w_abs, w_lenL, w_lenT, w_lenS, w_tupL, w_rng1, w_in2, w_in3, bne_self, Bool.not_true, Bool.not_false, Bool.or_false, Bool.false_or, Bool.or_true, Bool.true_or, decide_true, decide_false, and_true, true_and, rd_asI hM, rd_m1]
  refine ⟨p, n, all, k, rfl, hM, ?_⟩
  have sp := ok.spot k
  unfold ErrK at q
  cases e : all[k]? with
  | none =>
    rw [e] at q sp
    simp only [kindK, dSs, dS, dT, dE, dEs, dTO, dTA, dAnd, dOr, dIt, dIf, gTg, gTgs, wipeD, List.map_cons, List.map_nil, getS_z, getS_s, List.set_cons_zero, List.set_cons_succ, ty_non, ty_bl, ty_int, ty_str, ty_tup, ty_lst, tk1, tk2, tk3, tk4, tk5, tk6, tk7, tk8, tk9, tk10, tk11, tk12, tk13, tk14, tk15, tk16, tk17, tk18, tk19, tk20, w_truB, w_truI, w_truN, w_truL, w_truT, w_is, w_isn, isNon_non, isNon_bl, isNon_int, isNon_str, isNon_lst, isNon_tup, w_add, w_addS, w_addT, w_addL, w_sub, w_mul, w_mod, w_fdiv, w_pow, w_neg, w_eqI, w_neI, w_eqS, w_neS, w_eqB, w_neB, w_lt, w_le, w_gt, w_ge, w_int, w_abs, w_lenL, w_lenT, w_lenS, w_tupL, w_rng1, w_in2, w_in3, bne_self, Bool.not_true, Bool.not_false, Bool.or_false, Bool.false_or, Bool.or_true, Bool.true_or, decide_true, decide_false, and_true, true_and]
    exact w_raise sp (by decide) q
  | some t =>
    rw [e] at q sp
    have : decide (kindT t.w = "end") = false := by cases t.w <;> decide
    simp only [kindK, dSs, dS, dT, dE, dEs, dTO, dTA, dAnd, dOr, dIt, dIf, gTg, gTgs, wipeD, List.map_cons, List.map_nil, getS_z, getS_s, List.set_cons_zero, List.set_cons_succ, ty_non, ty_bl, ty_int, ty_str, ty_tup, ty_lst, tk1, tk2, tk3, tk4, tk5, tk6, tk7, tk8, tk9, tk10, tk11, tk12, tk13, tk14, tk15, tk16, tk17, tk18, tk19, tk20, w_truB, w_truI, w_truN, w_truL, w_truT, w_is, w_isn, isNon_non, isNon_bl, isNon_int, isNon_str, isNon_lst, isNon_tup, w_add, w_addS, w_addT, w_addL, w_sub, w_mul, w_mod, w_fdiv, w_pow, w_neg, w_eqI, w_neI, w_eqS, w_neS, w_eqB, w_neB, w_lt, w_le, w_gt, w_ge, w_int, w_abs, w_lenL, w_lenT, w_lenS, w_tupL, w_rng1, w_in2, w_in3, bne_self, Bool.not_true, Bool.not_false, Bool.or_false, Bool.false_or, Bool.or_true, Bool.true_or, decide_true, decide_false, and_true, true_and, this]
    exact w_raise sp (by decide) q
theorem h_Reader_need : ∀ ds M Q E, ds.length = 2 → spNeed ds M Q E → dSs E (c_Reader_need spAccept spFail) { nx := fun _ M' => Q .non M', rt := Q } (startD n_Reader_need.length ds) M := by
  rintro ds M Q E hl ⟨p, n, all, k, s, rfl, hM, ok, q, qe⟩
  show dSs E (c_Reader_need spAccept spFail) _ [some (.ptr p), some (.str s)] M
  unfold c_Reader_need
  simp only [dSs, dS, dT, dE, dEs, dTO, dTA, dAnd, dOr, dIt, dIf, gTg, gTgs, wipeD, List.map_cons, List.map_nil, getS_z, getS_s, List.set_cons_zero, List.set_cons_succ, ty_non, ty_bl, ty_int, ty_str, ty_tup, ty_lst, tk1, tk2, tk3, tk4, tk5, tk6, tk7, tk8, tk9, tk10, tk11, tk12, tk13, tk14, tk15, tk16, tk17, tk18, tk19, tk20, w_truB, w_truI, w_truN, w_truL, w_truT, w_is, w_isn, isNon_non, isNon_bl, isNon_int, isNon_str, isNon_lst, isNon_tup, w_add, w_addS, w_addT, w_addL, w_sub, w_mul, w_mod, w_fdiv, w_pow, w_neg, w_eqI, w_neI, w_eqS, w_neS, w_eqB, w_neB, w_lt, w_le, w_gt, w_ge, w_int, w_abs, w_lenL, w_lenT, w_lenS, w_tupL, w_rng1, w_in2, w_in3, bne_self, Bool.not_true, Bool.not_false, Bool.or_false, Bool.false_or, Bool.or_true, Bool.true_or, decide_true, decide_false, and_true, true_and, rd_asI hM, rd_m7]
  refine ⟨p, n, all, k, s, rfl, hM, fun e => ?_, fun e => ?_⟩
  · simp only [dSs, dS, dT, dE, dEs, dTO, dTA, dAnd, dOr, dIt, dIf, gTg, gTgs, wipeD, List.map_cons, List.map_nil, getS_z, getS_s, List.set_cons_zero, List.set_cons_succ, ty_non, ty_bl, ty_int, ty_str, ty_tup, ty_lst, tk1, tk2, tk3, tk4, tk5, tk6, tk7, tk8, tk9, tk10, tk11, tk12, tk13, tk14, tk15, tk16, tk17, tk18, tk19, tk20, w_truB, w_truI, w_truN, w_truL, w_truT, w_is, w_isn, isNon_non, isNon_bl, isNon_int, isNon_str, isNon_lst, isNon_tup, w_add, w_addS, w_addT, w_addL, w_sub, w_mul, w_mod, w_fdiv, w_pow, w_neg, w_eqI, w_neI, w_eqS, w_neS, w_eqB, w_neB, w_lt, w_le, w_gt, w_ge, w_int, w_abs, w_lenL, w_lenT, w_lenS, w_tupL, w_rng1, w_in2, w_in3, bne_self, Bool.not_true, Bool.not_false, Bool.or_false, Bool.false_or, Bool.or_true, Bool.true_or, decide_true, decide_false, and_true, true_and]
    exact q e
  · simp only [dSs, dS, dT, dE, dEs, dTO, dTA, dAnd, dOr, dIt, dIf, gTg, gTgs, wipeD, List.map_cons, List.map_nil, getS_z, getS_s, List.set_cons_zero, List.set_cons_succ, ty_non, ty_bl, ty_int, ty_str, ty_tup, ty_lst, tk1, tk2, tk3, tk4, tk5, tk6, tk7, tk8, tk9, tk10, tk11, tk12, tk13, tk14, tk15, tk16, tk17, tk18, tk19, tk20, w_truB, w_truI, w_truN, w_truL, w_truT, w_is, w_isn, isNon_non, isNon_bl, isNon_int, isNon_str, isNon_lst, isNon_tup, w_add, w_addS, w_addT, w_addL, w_sub, w_mul, w_mod, w_fdiv, w_pow, w_neg, w_eqI, w_neI, w_eqS, w_neS, w_eqB, w_neB, w_lt, w_le, w_gt, w_ge, w_int, w_abs, w_lenL, w_lenT, w_lenS, w_tupL, w_rng1, w_in2, w_in3, bne_self, Bool.not_true, Bool.not_false, Bool.or_false, Bool.false_or, Bool.or_true, Bool.true_or, decide_true, decide_false, and_true, true_and, rd_asI hM, rd_m4]
    exact ⟨p, n, all, k, rfl, hM, ok, qe e⟩
theorem h_Reader_name : ∀ ds M Q E, ds.length = 1 → spName ds M Q E → dSs E (c_Reader_name spKind spValue spFail) { nx := fun _ M' => Q .non M', rt := Q } (startD n_Reader_name.length ds) M := by
  rintro ds M Q E hl ⟨p, n, all, k, rfl, hM, ok, q, qe⟩
  show dSs E (c_Reader_name spKind spValue spFail) _ [some (.ptr p)] M
  unfold c_Reader_name
  have ll : line = 16777216 := rfl
  simp only [dSs, dS, dT, dE, dEs, dTO, dTA, dAnd, dOr, dIt, dIf, gTg, gTgs, wipeD, List.map_cons, List.map_nil, getS_z, getS_s, List.set_cons_zero, List.set_cons_succ, ty_non, ty_bl, ty_int, ty_str, ty_tup, ty_lst, tk1, tk2, tk3, tk4, tk5, tk6, tk7, tk8, tk9, tk10, tk11, tk12, tk13, tk14, tk15, tk16, tk17, tk18, tk19, tk20, w_truB, w_truI, w_truN, w_truL, w_truT, w_is, w_isn, isNon_non, isNon_bl, isNon_int, isNon_str, isNon_lst, isNon_tup, w_add, w_addS, w_addT, w_addL, w_sub, w_mul, w_mod, w_fdiv, w_pow, w_neg, w_eqI, w_neI, w_eqS, w_neS, w_eqB, w_neB, w_lt, w_le, w_gt, w_ge, w_int, w_abs, w_lenL, w_lenT, w_lenS, w_tupL, w_rng1, w_in2, w_in3, bne_self, Bool.not_true, Bool.not_false, Bool.or_false, Bool.false_or, Bool.or_true, Bool.true_or, decide_true, decide_false, and_true, true_and, rd_asI hM, rd_m1, rd_m2, rd_m4]
  refine ⟨p, n, all, k, rfl, hM, ?_⟩
  have fail : nmOk all[k]? = false → ∀ X, spFail [.ptr p] M X E := fun e X => ⟨p, n, all, k, rfl, hM, ok, qe e⟩
  cases e : all[k]? with
  | none =>
    simp only [kindK, dSs, dS, dT, dE, dEs, dTO, dTA, dAnd, dOr, dIt, dIf, gTg, gTgs, wipeD, List.map_cons, List.map_nil, getS_z, getS_s, List.set_cons_zero, List.set_cons_succ, ty_non, ty_bl, ty_int, ty_str, ty_tup, ty_lst, tk1, tk2, tk3, tk4, tk5, tk6, tk7, tk8, tk9, tk10, tk11, tk12, tk13, tk14, tk15, tk16, tk17, tk18, tk19, tk20, w_truB, w_truI, w_truN, w_truL, w_truT, w_is, w_isn, isNon_non, isNon_bl, isNon_int, isNon_str, isNon_lst, isNon_tup, w_add, w_addS, w_addT, w_addL, w_sub, w_mul, w_mod, w_fdiv, w_pow, w_neg, w_eqI, w_neI, w_eqS, w_neS, w_eqB, w_neB, w_lt, w_le, w_gt, w_ge, w_int, w_abs, w_lenL, w_lenT, w_lenS, w_tupL, w_rng1, w_in2, w_in3, bne_self, Bool.not_true, Bool.not_false, Bool.or_false, Bool.false_or, Bool.or_true, Bool.true_or, decide_true, decide_false, and_true, true_and, show decide ("end" = "word") = false by decide, rd_asI hM, rd_m4]
    exact fail (by rw [e]; rfl) _
  | some t =>
    obtain ⟨w, v, a⟩ := t
    cases w with
    | false =>
      simp only [kindK, kindT, dSs, dS, dT, dE, dEs, dTO, dTA, dAnd, dOr, dIt, dIf, gTg, gTgs, wipeD, List.map_cons, List.map_nil, getS_z, getS_s, List.set_cons_zero, List.set_cons_succ, ty_non, ty_bl, ty_int, ty_str, ty_tup, ty_lst, tk1, tk2, tk3, tk4, tk5, tk6, tk7, tk8, tk9, tk10, tk11, tk12, tk13, tk14, tk15, tk16, tk17, tk18, tk19, tk20, w_truB, w_truI, w_truN, w_truL, w_truT, w_is, w_isn, isNon_non, isNon_bl, isNon_int, isNon_str, isNon_lst, isNon_tup, w_add, w_addS, w_addT, w_addL, w_sub, w_mul, w_mod, w_fdiv, w_pow, w_neg, w_eqI, w_neI, w_eqS, w_neS, w_eqB, w_neB, w_lt, w_le, w_gt, w_ge, w_int, w_abs, w_lenL, w_lenT, w_lenS, w_tupL, w_rng1, w_in2, w_in3, bne_self, Bool.not_true, Bool.not_false, Bool.or_false, Bool.false_or, Bool.or_true, Bool.true_or, decide_true, decide_false, and_true, true_and, show decide ("sign" = "word") = false by decide, rd_asI hM, rd_m4]
      exact fail (by rw [e]; rfl) _
    | true =>
      simp only [dSs, dS, dT, dE, dEs, dTO, dTA, dAnd, dOr, dIt, dIf, gTg, gTgs, wipeD, List.map_cons, List.map_nil, getS_z, getS_s, List.set_cons_zero, List.set_cons_succ, ty_non, ty_bl, ty_int, ty_str, ty_tup, ty_lst, tk1, tk2, tk3, tk4, tk5, tk6, tk7, tk8, tk9, tk10, tk11, tk12, tk13, tk14, tk15, tk16, tk17, tk18, tk19, tk20, w_truB, w_truI, w_truN, w_truL, w_truT, w_is, w_isn, isNon_non, isNon_bl, isNon_int, isNon_str, isNon_lst, isNon_tup, w_add, w_addS, w_addT, w_addL, w_sub, w_mul, w_mod, w_fdiv, w_pow, w_neg, w_eqI, w_neI, w_eqS, w_neS, w_eqB, w_neB, w_lt, w_le, w_gt, w_ge, w_int, w_abs, w_lenL, w_lenT, w_lenS, w_tupL, w_rng1, w_in2, w_in3, bne_self, Bool.not_true, Bool.not_false, Bool.or_false, Bool.false_or, Bool.or_true, Bool.true_or, decide_true, decide_false, and_true, true_and, kindK, kindT, show decide ("word" = "word") = true by decide, rd_asI hM, rd_m2]
      refine ⟨p, n, all, k, rfl, hM, ?_⟩
      rw [e]
      have hv8 : v.length ≤ 100000 := ok.v _ (List.mem_of_getElem? e)
      simp only [dSs, dS, dT, dE, dEs, dTO, dTA, dAnd, dOr, dIt, dIf, gTg, gTgs, wipeD, List.map_cons, List.map_nil, getS_z, getS_s, List.set_cons_zero, List.set_cons_succ, ty_non, ty_bl, ty_int, ty_str, ty_tup, ty_lst, tk1, tk2, tk3, tk4, tk5, tk6, tk7, tk8, tk9, tk10, tk11, tk12, tk13, tk14, tk15, tk16, tk17, tk18, tk19, tk20, w_truB, w_truI, w_truN, w_truL, w_truT, w_is, w_isn, isNon_non, isNon_bl, isNon_int, isNon_str, isNon_lst, isNon_tup, w_add, w_addS, w_addT, w_addL, w_sub, w_mul, w_mod, w_fdiv, w_pow, w_neg, w_eqI, w_neI, w_eqS, w_neS, w_eqB, w_neB, w_lt, w_le, w_gt, w_ge, w_int, w_abs, w_lenL, w_lenT, w_lenS, w_tupL, w_rng1, w_in2, w_in3, bne_self, Bool.not_true, Bool.not_false, Bool.or_false, Bool.false_or, Bool.or_true, Bool.true_or, decide_true, decide_false, and_true, true_and, valK, g_NAME_MOST]
      refine ⟨by omega, ?_⟩
      by_cases h8 : v.length ≤ 8
      · simp only [decide_eq_false (show ¬ ((8 : Int) < (v.length : Int)) by omega), dSs, dS, dT, dE, dEs, dTO, dTA, dAnd, dOr, dIt, dIf, gTg, gTgs, wipeD, List.map_cons, List.map_nil, getS_z, getS_s, List.set_cons_zero, List.set_cons_succ, ty_non, ty_bl, ty_int, ty_str, ty_tup, ty_lst, tk1, tk2, tk3, tk4, tk5, tk6, tk7, tk8, tk9, tk10, tk11, tk12, tk13, tk14, tk15, tk16, tk17, tk18, tk19, tk20, w_truB, w_truI, w_truN, w_truL, w_truT, w_is, w_isn, isNon_non, isNon_bl, isNon_int, isNon_str, isNon_lst, isNon_tup, w_add, w_addS, w_addT, w_addL, w_sub, w_mul, w_mod, w_fdiv, w_pow, w_neg, w_eqI, w_neI, w_eqS, w_neS, w_eqB, w_neB, w_lt, w_le, w_gt, w_ge, w_int, w_abs, w_lenL, w_lenT, w_lenS, w_tupL, w_rng1, w_in2, w_in3, bne_self, Bool.not_true, Bool.not_false, Bool.or_false, Bool.false_or, Bool.or_true, Bool.true_or, decide_true, decide_false, and_true, true_and, rd_asI hM, rd_taken]
        simp only [rd_plus hM, rd_asI (put_same (M := M) (a := p) (o := rdO n all (k + 1))), rd_parts, rd_taken, dSs, dS, dT, dE, dEs, dTO, dTA, dAnd, dOr, dIt, dIf, gTg, gTgs, wipeD, List.map_cons, List.map_nil, getS_z, getS_s, List.set_cons_zero, List.set_cons_succ, ty_non, ty_bl, ty_int, ty_str, ty_tup, ty_lst, tk1, tk2, tk3, tk4, tk5, tk6, tk7, tk8, tk9, tk10, tk11, tk12, tk13, tk14, tk15, tk16, tk17, tk18, tk19, tk20, w_truB, w_truI, w_truN, w_truL, w_truT, w_is, w_isn, isNon_non, isNon_bl, isNon_int, isNon_str, isNon_lst, isNon_tup, w_add, w_addS, w_addT, w_addL, w_sub, w_mul, w_mod, w_fdiv, w_pow, w_neg, w_eqI, w_neI, w_eqS, w_neS, w_eqB, w_neB, w_lt, w_le, w_gt, w_ge, w_int, w_abs, w_lenL, w_lenT, w_lenS, w_tupL, w_rng1, w_in2, w_in3, bne_self, Bool.not_true, Bool.not_false, Bool.or_false, Bool.false_or, Bool.or_true, Bool.true_or, decide_true, decide_false, and_true, true_and]
        rw [show ((k + 1 : Nat) : Int) - 1 = (k : Int) by omega]
        simp only [tk_at e, tkD, w_ixT at_1]
        exact q v a e h8
      · simp only [decide_eq_true (show ((8 : Int) < (v.length : Int)) by omega), dSs, dS, dT, dE, dEs, dTO, dTA, dAnd, dOr, dIt, dIf, gTg, gTgs, wipeD, List.map_cons, List.map_nil, getS_z, getS_s, List.set_cons_zero, List.set_cons_succ, ty_non, ty_bl, ty_int, ty_str, ty_tup, ty_lst, tk1, tk2, tk3, tk4, tk5, tk6, tk7, tk8, tk9, tk10, tk11, tk12, tk13, tk14, tk15, tk16, tk17, tk18, tk19, tk20, w_truB, w_truI, w_truN, w_truL, w_truT, w_is, w_isn, isNon_non, isNon_bl, isNon_int, isNon_str, isNon_lst, isNon_tup, w_add, w_addS, w_addT, w_addL, w_sub, w_mul, w_mod, w_fdiv, w_pow, w_neg, w_eqI, w_neI, w_eqS, w_neS, w_eqB, w_neB, w_lt, w_le, w_gt, w_ge, w_int, w_abs, w_lenL, w_lenT, w_lenS, w_tupL, w_rng1, w_in2, w_in3, bne_self, Bool.not_true, Bool.not_false, Bool.or_false, Bool.false_or, Bool.or_true, Bool.true_or, decide_true, decide_false, and_true, true_and, rd_asI hM, rd_m4]
        exact fail (by rw [e]; show (true && decide (v.length ≤ 8)) = false; rw [decide_eq_false h8]; rfl) _
end K46
end VS

/-! the reader: spot -/
namespace VS
open PySem PySem.Spec PyProof.Rows L2
namespace K46
theorem h_Reader_spot : ∀ ds M Q E, ds.length = 1 → spSpot ds M Q E → dSs E c_Reader_spot { nx := fun _ M' => Q .non M', rt := Q } (startD n_Reader_spot.length ds) M := by
  rintro ds M Q E hl ⟨p, n, all, k, rfl, hM, q⟩
  show dSs E c_Reader_spot _ [some (.ptr p)] M
  unfold c_Reader_spot
  simp only [dSs, dS, dT, dE, dEs, dTO, dTA, dAnd, dOr, dIt, dIf, gTg, gTgs, wipeD, List.map_cons, List.map_nil, getS_z, getS_s, List.set_cons_zero, List.set_cons_succ, ty_non, ty_bl, ty_int, ty_str, ty_tup, ty_lst, tk1, tk2, tk3, tk4, tk5, tk6, tk7, tk8, tk9, tk10, tk11, tk12, tk13, tk14, tk15, tk16, tk17, tk18, tk19, tk20, w_truB, w_truI, w_truN, w_truL, w_truT, w_is, w_isn, isNon_non, isNon_bl, isNon_int, isNon_str, isNon_lst, isNon_tup, w_add, w_addS, w_addT, w_addL, w_sub, w_mul, w_mod, w_fdiv, w_pow, w_neg, w_eqI, w_neI, w_eqS, w_neS, w_eqB, w_neB, w_lt, w_le, w_gt, w_ge, w_int, w_abs, w_lenL, w_lenT, w_lenS, w_tupL, w_rng1, w_in2, w_in3, bne_self, Bool.not_true, Bool.not_false, Bool.or_false, Bool.false_or, Bool.or_true, Bool.true_or, decide_true, decide_false, and_true, true_and, rd_asI hM, rd_taken, rd_parts, List.length_map]
  cases e : all[k]? with
  | none =>
    rw [e] at q
    have : ¬ ((k : Int) < (all.length : Int)) := by have := List.getElem?_eq_none_iff.mp e; omega
    simp only [decide_eq_false this, rd_asI hM, rd_size]
    exact q
  | some t =>
    rw [e] at q
    have : (k : Int) < (all.length : Int) := by have := (List.getElem?_eq_some_iff.mp e).1; omega
    simp only [decide_eq_true this, tk_at e, tkD, w_ixT at_2]
    exact q
end K46
end VS

/-! the reader: is_word -/
namespace VS
open PySem PySem.Spec PyProof.Rows L2
namespace K46
theorem h_Reader_is_word : ∀ ds M Q E, ds.length = 2 → spIsWord ds M Q E → dSs E (c_Reader_is_word spKind spValue) { nx := fun _ M' => Q .non M', rt := Q } (startD n_Reader_is_word.length ds) M := by
  rintro ds M Q E hl ⟨p, n, all, k, s, rfl, hM, q⟩
  show dSs E (c_Reader_is_word spKind spValue) _ [some (.ptr p), some (.str s)] M
  unfold c_Reader_is_word
  simp only [dSs, dS, dT, dE, dEs, dTO, dTA, dAnd, dOr, dIt, dIf, gTg, gTgs, wipeD, List.map_cons, List.map_nil, getS_z, getS_s, List.set_cons_zero, List.set_cons_succ, ty_non, ty_bl, ty_int, ty_str, ty_tup, ty_lst, tk1, tk2, tk3, tk4, tk5, tk6, tk7, tk8, tk9, tk10, tk11, tk12, tk13, tk14, tk15, tk16, tk17, tk18, tk19, tk20, w_truB, w_truI, w_truN, w_truL, w_truT, w_is, w_isn, isNon_non, isNon_bl, isNon_int, isNon_str, isNon_lst, isNon_tup, w_add, w_addS, w_addT, w_addL, w_sub, w_mul, w_mod, w_fdiv, w_pow, w_neg, w_eqI, w_neI, w_eqS, w_neS, w_eqB, w_neB, w_lt, w_le, w_gt, w_ge, w_int, w_abs, w_lenL, w_lenT, w_lenS, w_tupL, w_rng1, w_in2, w_in3, bne_self, Bool.not_true, Bool.not_false, Bool.or_false, Bool.false_or, Bool.or_true, Bool.true_or, decide_true, decide_false, and_true, true_and, rd_asI hM, rd_m1, rd_m2]
  refine ⟨p, n, all, k, rfl, hM, ?_⟩
  simp only [dSs, dS, dT, dE, dEs, dTO, dTA, dAnd, dOr, dIt, dIf, gTg, gTgs, wipeD, List.map_cons, List.map_nil, getS_z, getS_s, List.set_cons_zero, List.set_cons_succ, ty_non, ty_bl, ty_int, ty_str, ty_tup, ty_lst, tk1, tk2, tk3, tk4, tk5, tk6, tk7, tk8, tk9, tk10, tk11, tk12, tk13, tk14, tk15, tk16, tk17, tk18, tk19, tk20, w_truB, w_truI, w_truN, w_truL, w_truT, w_is, w_isn, isNon_non, isNon_bl, isNon_int, isNon_str, isNon_lst, isNon_tup, w_add, w_addS, w_addT, w_addL, w_sub, w_mul, w_mod, w_fdiv, w_pow, w_neg, w_eqI, w_neI, w_eqS, w_neS, w_eqB, w_neB, w_lt, w_le, w_gt, w_ge, w_int, w_abs, w_lenL, w_lenT, w_lenS, w_tupL, w_rng1, w_in2, w_in3, bne_self, Bool.not_true, Bool.not_false, Bool.or_false, Bool.false_or, Bool.or_true, Bool.true_or, decide_true, decide_false, and_true, true_and]
  cases e : all[k]? with
  | none =>
    rw [e] at q
    simp only [kindK, show decide ("end" = "word") = false by decide]
    exact q
  | some t =>
    rw [e] at q
    obtain ⟨w, v, a⟩ := t
    cases w with
    | false =>
      simp only [kindK, kindT, show decide ("sign" = "word") = false by decide]
      exact q
    | true =>
      simp only [kindK, kindT, show decide ("word" = "word") = true by decide, rd_asI hM, rd_m2, true_and]
      refine ⟨p, n, all, k, rfl, hM, ?_⟩
      rw [e]
      simp only [valK, w_eqS]
      have : isWd s (some ⟨true, v, a⟩) = decide (v = s) := by show (true && decide (v = s)) = _; rw [Bool.true_and]
      rw [this] at q
      exact q
end K46
end VS

set_option maxHeartbeats 1000000
/-! a factor of a condition is read, or an error is told -/
namespace VS
open PySem PySem.Spec PyProof.Rows L2
namespace K46
theorem sg_hd {all : List Tk} {k : Nat} {s : String} (W : Wk all) (hs : wordB s = false) : isSg s all[k]? = isHd s (rst all k) := isHd_sg W hs
theorem wd_hd {all : List Tk} {k : Nat} {s : String} (W : Wk all) (hs : wordB s = true) : isWd s all[k]? = isHd s (rst all k) := by
  cases e : all[k]? with
  | none => rw [rst_nil e]; rfl
  | some t =>
    rw [rst_cons e]
    show (t.w && decide (t.v = s)) = decide (t.v = s)
    rw [W.w t (List.mem_of_getElem? e)]
    by_cases h : t.v = s
    · rw [h, hs, decide_eq_true rfl]; rfl
    · rw [decide_eq_false h, Bool.and_false]
theorem nm_yes {all : List Tk} {k : Nat} (W : Wk all) (h : nmB8 (rst all k) = true) : ∃ v a, all[k]? = some ⟨true, v, a⟩ ∧ v.length ≤ 8 := by
  cases e : all[k]? with
  | none => rw [rst_nil e] at h; cases h
  | some t =>
    rw [rst_cons e] at h
    obtain ⟨h1, h2⟩ := and_of (show (wordB t.v && decide (t.v.length ≤ 8)) = true from h)
    have hw := W.w t (List.mem_of_getElem? e)
    obtain ⟨w, v, a⟩ := t
    have hw : w = wordB v := hw
    have h1 : wordB v = true := h1
    rw [h1] at hw; subst hw
    exact ⟨v, a, rfl, of_decide_eq_true h2⟩
theorem nm_no {all : List Tk} {k : Nat} (W : Wk all) (h : nmB8 (rst all k) = false) : nmOk all[k]? = false := by
  cases e : all[k]? with
  | none => rfl
  | some t =>
    rw [rst_cons e] at h
    have h : (wordB t.v && decide (t.v.length ≤ 8)) = false := h
    show (t.w && decide (t.v.length ≤ 8)) = false
    rw [W.w t (List.mem_of_getElem? e)]
    exact h
theorem tok_at {all : List Tk} {k : Nat} {w : String} {l : List String} (W : Wk all) (h : rst all k = w :: l) : ∃ a, all[k]? = some ⟨wordB w, w, a⟩ ∧ rst all (k + 1) = l := by
  cases e : all[k]? with
  | none => rw [rst_nil e] at h; cases h
  | some t =>
    rw [rst_cons e] at h
    injection h with h1 h2
    have hw := W.w t (List.mem_of_getElem? e)
    obtain ⟨w', v, a⟩ := t
    have h1 : v = w := h1
    have hw : w' = wordB v := hw
    subst h1; subst hw
    exact ⟨a, rfl, h2⟩
def spPc (lv n : Nat) : Spec := fun ds M Q E => ∃ (p : Addr) (sz : Nat) (all : List Tk) (k : Nat) (b : Bool) (c : Nat) (vs : List D), ds = [.ptr p] ∧ M p = some (rdO sz all k) ∧ RdOk sz all ∧ Wk all ∧ k ≤ all.length ∧ all.length ≤ 100000 ∧ Pc lv n (rst all k) b c vs ∧
  (b = true → ∀ M', M' p = some (rdO sz all (k + c)) → Adv p M M' → Q (vaD lv vs) M') ∧ (b = false → ∀ M', Adv p M M' → ErrK sz all (k + c) M' E)
def spCo3 (n : Nat) : Spec := fun ds M Q E => ∃ m, n = m + 2 ∧ spPc 2 m ds M Q E
theorem w_looks : g_LOOKS = .tup (["child", "below", "parent", "above", "earlier", "later"].map D.str) := rfl
def heads : List String := ["child", "below", "parent", "above", "earlier", "later", "all", "none", "is", "not"]
theorem hd_iff {s : String} : s ∈ heads ↔ s ∈ lfL ∨ s ∈ unL := by
  simp only [heads, lfL, unL, List.mem_cons, List.not_mem_nil, or_false]
  constructor
  · rintro (h | h | h | h | h | h | h | h | h | h) <;> simp [h]
  · rintro ((h | h | h) | (h | h | h | h | h | h | h)) <;> simp [h]
theorem add_looks {M : Store} {Q : DK} : wBin .add g_LOOKS (.tup [.str "all", .str "none", .str "is", .str "not"]) M Q = Q (.tup (heads.map D.str)) M := by
  have ll : line = 16777216 := rfl
  rw [w_looks, w_addT]
  refine propext ⟨fun h => h.2, fun h => ⟨?_, h⟩⟩
  show 6 + 4 ≤ line
  omega
def facTail (n : Nat) : Sts := (.cons (.iff (.val (.cmp .in_ (.v 2) (.tup (.cons (.c (.str "all")) (.cons (.c (.str "none")) .nil))))) (.cons (.ret (.tup (.cons (.v 2) .nil))) .nil) .nil)
  (.cons (.iff (.val (.cmp .eq (.v 2) (.c (.str "is")))) (.cons (.ret (.tup (.cons (.v 2) (.cons (.meth "Reader" "name" spName (.v 0) .nil) .nil)))) .nil) .nil)
  (.cons (.ret (.tup (.cons (.v 2) (.cons (.call "read_factor" (spPc 0 n) (.cons (.v 0) .nil)) .nil)))) .nil)))
theorem fac_eq (n : Nat) : c_read_factor spAccept (spCo3 n) spNeed spValue spKind spFail spName (spPc 0 n) = (.cons (.iff (.val (.meth "Reader" "accept" spAccept (.v 0) (.cons (.c (.str "(")) .nil)))
  (.cons (.asg 1 (.call "read_condition" (spCo3 n) (.cons (.v 0) .nil)))
  (.cons (.ex (.meth "Reader" "need" spNeed (.v 0) (.cons (.c (.str ")")) .nil)))
  (.cons (.ret (.v 1))
  .nil)))
  .nil)
  (.cons (.asg 2 (.meth "Reader" "value" spValue (.v 0) .nil))
  (.cons (.iff (.or (.cons (.val (.cmp .ne (.meth "Reader" "kind" spKind (.v 0) .nil) (.c (.str "word")))) (.cons (.val (.cmp .nin (.v 2) (.bin .add (.g "LOOKS" g_LOOKS) (.tup (.cons (.c (.str "all")) (.cons (.c (.str "none")) (.cons (.c (.str "is")) (.cons (.c (.str "not")) .nil)))))))) .nil)))
  (.cons (.ex (.meth "Reader" "fail" spFail (.v 0) .nil))
  .nil)
  .nil)
  (.cons (.augF "Reader" (.v 0) "taken" (.c (.int 1)))
  (facTail n))))) := rfl
theorem h_factor (n : Nat) : ∀ ds M Q E, ds.length = 1 → spPc 0 (n + 1) ds M Q E → dSs E (c_read_factor spAccept (spCo3 n) spNeed spValue spKind spFail spName (spPc 0 n)) { nx := fun _ M' => Q .non M', rt := Q } (startD n_read_factor.length ds) M := by
  rintro ds M Q E hl ⟨p, sz, all, k, b, c, vs, rfl, hM, ok, W, hk, hal, hg, q, bad⟩
  show dSs E (c_read_factor spAccept (spCo3 n) spNeed spValue spKind spFail spName (spPc 0 n)) _ [some (.ptr p), none, none] M
  rw [fac_eq]
  have ll : line = 16777216 := rfl
  have rlen : ∀ j, (rst all j).length = all.length - j := fun j => by unfold rst; rw [List.length_drop, List.length_map]
  -- a word at the head
  have word : ∀ (s : String) (l' : List String), rst all k = s :: l' → s ∈ heads → (∀ M', M' p = some (rdO sz all (k + 1)) → Adv p M M' →
      dSs E (facTail n) { nx := fun _ M' => Q .non M', rt := Q } [some (.ptr p), none, some (.str s)] M') →
      dSs E (.cons (.iff (.val (.meth "Reader" "accept" spAccept (.v 0) (.cons (.c (.str "(")) .nil)))
  (.cons (.asg 1 (.call "read_condition" (spCo3 n) (.cons (.v 0) .nil)))
  (.cons (.ex (.meth "Reader" "need" spNeed (.v 0) (.cons (.c (.str ")")) .nil)))
  (.cons (.ret (.v 1))
  .nil)))
  .nil)
  (.cons (.asg 2 (.meth "Reader" "value" spValue (.v 0) .nil))
  (.cons (.iff (.or (.cons (.val (.cmp .ne (.meth "Reader" "kind" spKind (.v 0) .nil) (.c (.str "word")))) (.cons (.val (.cmp .nin (.v 2) (.bin .add (.g "LOOKS" g_LOOKS) (.tup (.cons (.c (.str "all")) (.cons (.c (.str "none")) (.cons (.c (.str "is")) (.cons (.c (.str "not")) .nil)))))))) .nil)))
  (.cons (.ex (.meth "Reader" "fail" spFail (.v 0) .nil))
  .nil)
  .nil)
  (.cons (.augF "Reader" (.v 0) "taken" (.c (.int 1)))
  (facTail n))))) { nx := fun _ M' => Q .non M', rt := Q } [some (.ptr p), none, none] M := fun s l' el hh hk => by
    obtain ⟨a, e, _⟩ := tok_at W el
    have hw : wordB s = true := by
      simp only [heads, List.mem_cons, List.not_mem_nil, or_false] at hh
      rcases hh with rfl | rfl | rfl | rfl | rfl | rfl | rfl | rfl | rfl | rfl <;> decide
    rw [hw] at e
    simp only [dSs, dS, dT, dE, dEs, dTO, dTA, dAnd, dOr, dIt, dIf, gTg, gTgs, wipeD, List.map_cons, List.map_nil, getS_z, getS_s, List.set_cons_zero, List.set_cons_succ, ty_non, ty_bl, ty_int, ty_str, ty_tup, ty_lst, tk1, tk2, tk3, tk4, tk5, tk6, tk7, tk8, tk9, tk10, tk11, tk12, tk13, tk14, tk15, tk16, tk17, tk18, tk19, tk20, w_truB, w_truI, w_truN, w_truL, w_truT, w_is, w_isn, isNon_non, isNon_bl, isNon_int, isNon_str, isNon_lst, isNon_tup, w_add, w_addS, w_addT, w_addL, w_sub, w_mul, w_mod, w_fdiv, w_pow, w_neg, w_eqI, w_neI, w_eqS, w_neS, w_eqB, w_neB, w_lt, w_le, w_gt, w_ge, w_int, w_abs, w_lenL, w_lenT, w_lenS, w_tupL, w_rng1, w_in2, w_in3, bne_self, Bool.not_true, Bool.not_false, Bool.or_false, Bool.false_or, Bool.or_true, Bool.true_or, decide_true, decide_false, and_true, true_and, rd_asI hM, rd_m7]
    refine ⟨p, sz, all, k, "(", rfl, hM, (fun h => by rw [e] at h; cases h), fun _ => ?_⟩
    simp only [dSs, dS, dT, dE, dEs, dTO, dTA, dAnd, dOr, dIt, dIf, gTg, gTgs, wipeD, List.map_cons, List.map_nil, getS_z, getS_s, List.set_cons_zero, List.set_cons_succ, ty_non, ty_bl, ty_int, ty_str, ty_tup, ty_lst, tk1, tk2, tk3, tk4, tk5, tk6, tk7, tk8, tk9, tk10, tk11, tk12, tk13, tk14, tk15, tk16, tk17, tk18, tk19, tk20, w_truB, w_truI, w_truN, w_truL, w_truT, w_is, w_isn, isNon_non, isNon_bl, isNon_int, isNon_str, isNon_lst, isNon_tup, w_add, w_addS, w_addT, w_addL, w_sub, w_mul, w_mod, w_fdiv, w_pow, w_neg, w_eqI, w_neI, w_eqS, w_neS, w_eqB, w_neB, w_lt, w_le, w_gt, w_ge, w_int, w_abs, w_lenL, w_lenT, w_lenS, w_tupL, w_rng1, w_in2, w_in3, bne_self, Bool.not_true, Bool.not_false, Bool.or_false, Bool.false_or, Bool.or_true, Bool.true_or, decide_true, decide_false, and_true, true_and, rd_asI hM, rd_m2]
    refine ⟨p, sz, all, k, rfl, hM, ?_⟩
    rw [e]
    simp only [dSs, dS, dT, dE, dEs, dTO, dTA, dAnd, dOr, dIt, dIf, gTg, gTgs, wipeD, List.map_cons, List.map_nil, getS_z, getS_s, List.set_cons_zero, List.set_cons_succ, ty_non, ty_bl, ty_int, ty_str, ty_tup, ty_lst, tk1, tk2, tk3, tk4, tk5, tk6, tk7, tk8, tk9, tk10, tk11, tk12, tk13, tk14, tk15, tk16, tk17, tk18, tk19, tk20, w_truB, w_truI, w_truN, w_truL, w_truT, w_is, w_isn, isNon_non, isNon_bl, isNon_int, isNon_str, isNon_lst, isNon_tup, w_add, w_addS, w_addT, w_addL, w_sub, w_mul, w_mod, w_fdiv, w_pow, w_neg, w_eqI, w_neI, w_eqS, w_neS, w_eqB, w_neB, w_lt, w_le, w_gt, w_ge, w_int, w_abs, w_lenL, w_lenT, w_lenS, w_tupL, w_rng1, w_in2, w_in3, bne_self, Bool.not_true, Bool.not_false, Bool.or_false, Bool.false_or, Bool.or_true, Bool.true_or, decide_true, decide_false, and_true, true_and, rd_asI hM, rd_m1, valK]
    refine ⟨p, sz, all, k, rfl, hM, ?_⟩
    rw [e]
    simp only [dSs, dS, dT, dE, dEs, dTO, dTA, dAnd, dOr, dIt, dIf, gTg, gTgs, wipeD, List.map_cons, List.map_nil, getS_z, getS_s, List.set_cons_zero, List.set_cons_succ, ty_non, ty_bl, ty_int, ty_str, ty_tup, ty_lst, tk1, tk2, tk3, tk4, tk5, tk6, tk7, tk8, tk9, tk10, tk11, tk12, tk13, tk14, tk15, tk16, tk17, tk18, tk19, tk20, w_truB, w_truI, w_truN, w_truL, w_truT, w_is, w_isn, isNon_non, isNon_bl, isNon_int, isNon_str, isNon_lst, isNon_tup, w_add, w_addS, w_addT, w_addL, w_sub, w_mul, w_mod, w_fdiv, w_pow, w_neg, w_eqI, w_neI, w_eqS, w_neS, w_eqB, w_neB, w_lt, w_le, w_gt, w_ge, w_int, w_abs, w_lenL, w_lenT, w_lenS, w_tupL, w_rng1, w_in2, w_in3, bne_self, Bool.not_true, Bool.not_false, Bool.or_false, Bool.false_or, Bool.or_true, Bool.true_or, decide_true, decide_false, and_true, true_and, kindK, kindT, show decide ("word" = "word") = true by decide, add_looks, w_nin, decide_eq_true hh, rd_asI hM, rd_taken, rd_plus hM]
    exact hk _ put_same ((Adv.refl p M).put)
  generalize er : rst all k = l at hg
  have lk1 : ∀ {w : String} {l' : List String}, rst all k = w :: l' → k + 1 ≤ all.length := fun {w l'} h => by
    have := congrArg List.length h
    rw [rlen, List.length_cons] at this; omega
  cases hg with
  | @lf _ w l' hw =>
    refine word w l' er (hd_iff.mpr (.inl (by rcases hw with rfl | rfl <;> decide))) fun M' h1 h2 => ?_
    unfold facTail
    have : w ∈ ["all", "none"] := by rcases hw with rfl | rfl <;> decide
    simp only [dSs, dS, dT, dE, dEs, dTO, dTA, dAnd, dOr, dIt, dIf, gTg, gTgs, wipeD, List.map_cons, List.map_nil, getS_z, getS_s, List.set_cons_zero, List.set_cons_succ, ty_non, ty_bl, ty_int, ty_str, ty_tup, ty_lst, tk1, tk2, tk3, tk4, tk5, tk6, tk7, tk8, tk9, tk10, tk11, tk12, tk13, tk14, tk15, tk16, tk17, tk18, tk19, tk20, w_truB, w_truI, w_truN, w_truL, w_truT, w_is, w_isn, isNon_non, isNon_bl, isNon_int, isNon_str, isNon_lst, isNon_tup, w_add, w_addS, w_addT, w_addL, w_sub, w_mul, w_mod, w_fdiv, w_pow, w_neg, w_eqI, w_neI, w_eqS, w_neS, w_eqB, w_neB, w_lt, w_le, w_gt, w_ge, w_int, w_abs, w_lenL, w_lenT, w_lenS, w_tupL, w_rng1, w_in2, w_in3, bne_self, Bool.not_true, Bool.not_false, Bool.or_false, Bool.false_or, Bool.or_true, Bool.true_or, decide_true, decide_false, and_true, true_and, decide_eq_true this]
    exact q rfl M' h1 h2
  | @is _ x l' hx =>
    refine word "is" (x :: l') er (by decide) fun M' h1 h2 => ?_
    unfold facTail
    simp only [dSs, dS, dT, dE, dEs, dTO, dTA, dAnd, dOr, dIt, dIf, gTg, gTgs, wipeD, List.map_cons, List.map_nil, getS_z, getS_s, List.set_cons_zero, List.set_cons_succ, ty_non, ty_bl, ty_int, ty_str, ty_tup, ty_lst, tk1, tk2, tk3, tk4, tk5, tk6, tk7, tk8, tk9, tk10, tk11, tk12, tk13, tk14, tk15, tk16, tk17, tk18, tk19, tk20, w_truB, w_truI, w_truN, w_truL, w_truT, w_is, w_isn, isNon_non, isNon_bl, isNon_int, isNon_str, isNon_lst, isNon_tup, w_add, w_addS, w_addT, w_addL, w_sub, w_mul, w_mod, w_fdiv, w_pow, w_neg, w_eqI, w_neI, w_eqS, w_neS, w_eqB, w_neB, w_lt, w_le, w_gt, w_ge, w_int, w_abs, w_lenL, w_lenT, w_lenS, w_tupL, w_rng1, w_in2, w_in3, bne_self, Bool.not_true, Bool.not_false, Bool.or_false, Bool.false_or, Bool.or_true, Bool.true_or, decide_true, decide_false, and_true, true_and, show decide ("is" ∈ ["all", "none"]) = false by decide, show decide ("is" = "is") = true by decide, rd_asI h1, rd_m9]
    obtain ⟨_, _, e1⟩ := tok_at W er
    obtain ⟨v, a, ev, hv⟩ := nm_yes (k := k + 1) W (by rw [e1]; exact hx)
    obtain ⟨a', ev', _⟩ := tok_at W e1
    rw [ev] at ev'
    have exv : v = x := congrArg Tk.v (Option.some.inj ev')
    refine ⟨p, sz, all, k + 1, rfl, h1, ok, fun v2 a2 e2 _ => ?_, fun h => ?_⟩
    · rw [ev] at e2
      have : v = v2 := congrArg Tk.v (Option.some.inj e2)
      rw [← this, exv]
      exact q rfl _ put_same h2.put
    · rw [ev, show nmOk (some ⟨true, v, a⟩) = decide (v.length ≤ 8) from rfl, decide_eq_true hv] at h; cases h
  | @isN _ l' hx =>
    refine word "is" l' er (by decide) fun M' h1 h2 => ?_
    unfold facTail
    simp only [dSs, dS, dT, dE, dEs, dTO, dTA, dAnd, dOr, dIt, dIf, gTg, gTgs, wipeD, List.map_cons, List.map_nil, getS_z, getS_s, List.set_cons_zero, List.set_cons_succ, ty_non, ty_bl, ty_int, ty_str, ty_tup, ty_lst, tk1, tk2, tk3, tk4, tk5, tk6, tk7, tk8, tk9, tk10, tk11, tk12, tk13, tk14, tk15, tk16, tk17, tk18, tk19, tk20, w_truB, w_truI, w_truN, w_truL, w_truT, w_is, w_isn, isNon_non, isNon_bl, isNon_int, isNon_str, isNon_lst, isNon_tup, w_add, w_addS, w_addT, w_addL, w_sub, w_mul, w_mod, w_fdiv, w_pow, w_neg, w_eqI, w_neI, w_eqS, w_neS, w_eqB, w_neB, w_lt, w_le, w_gt, w_ge, w_int, w_abs, w_lenL, w_lenT, w_lenS, w_tupL, w_rng1, w_in2, w_in3, bne_self, Bool.not_true, Bool.not_false, Bool.or_false, Bool.false_or, Bool.or_true, Bool.true_or, decide_true, decide_false, and_true, true_and, show decide ("is" ∈ ["all", "none"]) = false by decide, show decide ("is" = "is") = true by decide, rd_asI h1, rd_m9]
    obtain ⟨_, _, e1⟩ := tok_at W er
    have hno := nm_no (k := k + 1) W (by rw [e1]; exact hx)
    refine ⟨p, sz, all, k + 1, rfl, h1, ok, fun v2 a2 e2 l8 => ?_, fun _ => bad rfl M' h2⟩
    rw [e2, show nmOk (some ⟨true, v2, a2⟩) = decide (v2.length ≤ 8) from rfl, decide_eq_true l8] at hno; cases hno
  | @un _ c w l' d hw hp =>
    have hne : w ∉ ["all", "none"] ∧ w ≠ "is" := by
      simp only [unL, List.mem_cons, List.not_mem_nil, or_false] at hw
      rcases hw with rfl | rfl | rfl | rfl | rfl | rfl | rfl <;> exact ⟨by decide, by decide⟩
    refine word w l' er (hd_iff.mpr (.inr hw)) fun M' h1 h2 => ?_
    unfold facTail
    obtain ⟨_, _, e1⟩ := tok_at W er
    simp only [dSs, dS, dT, dE, dEs, dTO, dTA, dAnd, dOr, dIt, dIf, gTg, gTgs, wipeD, List.map_cons, List.map_nil, getS_z, getS_s, List.set_cons_zero, List.set_cons_succ, ty_non, ty_bl, ty_int, ty_str, ty_tup, ty_lst, tk1, tk2, tk3, tk4, tk5, tk6, tk7, tk8, tk9, tk10, tk11, tk12, tk13, tk14, tk15, tk16, tk17, tk18, tk19, tk20, w_truB, w_truI, w_truN, w_truL, w_truT, w_is, w_isn, isNon_non, isNon_bl, isNon_int, isNon_str, isNon_lst, isNon_tup, w_add, w_addS, w_addT, w_addL, w_sub, w_mul, w_mod, w_fdiv, w_pow, w_neg, w_eqI, w_neI, w_eqS, w_neS, w_eqB, w_neB, w_lt, w_le, w_gt, w_ge, w_int, w_abs, w_lenL, w_lenT, w_lenS, w_tupL, w_rng1, w_in2, w_in3, bne_self, Bool.not_true, Bool.not_false, Bool.or_false, Bool.false_or, Bool.or_true, Bool.true_or, decide_true, decide_false, and_true, true_and, decide_eq_false hne.1, decide_eq_false hne.2]
    refine ⟨p, sz, all, k + 1, true, c, [d], rfl, h1, ok, W, lk1 er, hal, by rw [e1]; exact hp, fun _ M2 h3 h4 => ?_, fun z => by cases z⟩
    exact q rfl M2 (by rw [show k + (1 + c) = k + 1 + c by omega]; exact h3) (h2.trans h4)
  | @unN _ c w l' ds hw hp =>
    have hne : w ∉ ["all", "none"] ∧ w ≠ "is" := by
      simp only [unL, List.mem_cons, List.not_mem_nil, or_false] at hw
      rcases hw with rfl | rfl | rfl | rfl | rfl | rfl | rfl <;> exact ⟨by decide, by decide⟩
    refine word w l' er (hd_iff.mpr (.inr hw)) fun M' h1 h2 => ?_
    unfold facTail
    obtain ⟨_, _, e1⟩ := tok_at W er
    simp only [dSs, dS, dT, dE, dEs, dTO, dTA, dAnd, dOr, dIt, dIf, gTg, gTgs, wipeD, List.map_cons, List.map_nil, getS_z, getS_s, List.set_cons_zero, List.set_cons_succ, ty_non, ty_bl, ty_int, ty_str, ty_tup, ty_lst, tk1, tk2, tk3, tk4, tk5, tk6, tk7, tk8, tk9, tk10, tk11, tk12, tk13, tk14, tk15, tk16, tk17, tk18, tk19, tk20, w_truB, w_truI, w_truN, w_truL, w_truT, w_is, w_isn, isNon_non, isNon_bl, isNon_int, isNon_str, isNon_lst, isNon_tup, w_add, w_addS, w_addT, w_addL, w_sub, w_mul, w_mod, w_fdiv, w_pow, w_neg, w_eqI, w_neI, w_eqS, w_neS, w_eqB, w_neB, w_lt, w_le, w_gt, w_ge, w_int, w_abs, w_lenL, w_lenT, w_lenS, w_tupL, w_rng1, w_in2, w_in3, bne_self, Bool.not_true, Bool.not_false, Bool.or_false, Bool.false_or, Bool.or_true, Bool.true_or, decide_true, decide_false, and_true, true_and, decide_eq_false hne.1, decide_eq_false hne.2]
    refine ⟨p, sz, all, k + 1, false, c, ds, rfl, h1, ok, W, lk1 er, hal, by rw [e1]; exact hp, (fun z => by cases z), fun _ M2 h4 => ?_⟩
    rw [show k + 1 + c = k + (1 + c) by omega]
    exact bad rfl M2 (h2.trans h4)
  | no hx =>
    have n1 : isHd "(" (rst all k) = false := by
      cases z : rst all k with
      | nil => rfl
      | cons x r => exact decide_eq_false (hx x r (by rw [← er, z])).1
    have fl := bad rfl M (Adv.refl p M)
    simp only [dSs, dS, dT, dE, dEs, dTO, dTA, dAnd, dOr, dIt, dIf, gTg, gTgs, wipeD, List.map_cons, List.map_nil, getS_z, getS_s, List.set_cons_zero, List.set_cons_succ, ty_non, ty_bl, ty_int, ty_str, ty_tup, ty_lst, tk1, tk2, tk3, tk4, tk5, tk6, tk7, tk8, tk9, tk10, tk11, tk12, tk13, tk14, tk15, tk16, tk17, tk18, tk19, tk20, w_truB, w_truI, w_truN, w_truL, w_truT, w_is, w_isn, isNon_non, isNon_bl, isNon_int, isNon_str, isNon_lst, isNon_tup, w_add, w_addS, w_addT, w_addL, w_sub, w_mul, w_mod, w_fdiv, w_pow, w_neg, w_eqI, w_neI, w_eqS, w_neS, w_eqB, w_neB, w_lt, w_le, w_gt, w_ge, w_int, w_abs, w_lenL, w_lenT, w_lenS, w_tupL, w_rng1, w_in2, w_in3, bne_self, Bool.not_true, Bool.not_false, Bool.or_false, Bool.false_or, Bool.or_true, Bool.true_or, decide_true, decide_false, and_true, true_and, rd_asI hM, rd_m7]
    refine ⟨p, sz, all, k, "(", rfl, hM, (fun h => by rw [sg_hd W (by decide), n1] at h; cases h), fun _ => ?_⟩
    simp only [dSs, dS, dT, dE, dEs, dTO, dTA, dAnd, dOr, dIt, dIf, gTg, gTgs, wipeD, List.map_cons, List.map_nil, getS_z, getS_s, List.set_cons_zero, List.set_cons_succ, ty_non, ty_bl, ty_int, ty_str, ty_tup, ty_lst, tk1, tk2, tk3, tk4, tk5, tk6, tk7, tk8, tk9, tk10, tk11, tk12, tk13, tk14, tk15, tk16, tk17, tk18, tk19, tk20, w_truB, w_truI, w_truN, w_truL, w_truT, w_is, w_isn, isNon_non, isNon_bl, isNon_int, isNon_str, isNon_lst, isNon_tup, w_add, w_addS, w_addT, w_addL, w_sub, w_mul, w_mod, w_fdiv, w_pow, w_neg, w_eqI, w_neI, w_eqS, w_neS, w_eqB, w_neB, w_lt, w_le, w_gt, w_ge, w_int, w_abs, w_lenL, w_lenT, w_lenS, w_tupL, w_rng1, w_in2, w_in3, bne_self, Bool.not_true, Bool.not_false, Bool.or_false, Bool.false_or, Bool.or_true, Bool.true_or, decide_true, decide_false, and_true, true_and, rd_asI hM, rd_m2]
    refine ⟨p, sz, all, k, rfl, hM, ?_⟩
    simp only [dSs, dS, dT, dE, dEs, dTO, dTA, dAnd, dOr, dIt, dIf, gTg, gTgs, wipeD, List.map_cons, List.map_nil, getS_z, getS_s, List.set_cons_zero, List.set_cons_succ, ty_non, ty_bl, ty_int, ty_str, ty_tup, ty_lst, tk1, tk2, tk3, tk4, tk5, tk6, tk7, tk8, tk9, tk10, tk11, tk12, tk13, tk14, tk15, tk16, tk17, tk18, tk19, tk20, w_truB, w_truI, w_truN, w_truL, w_truT, w_is, w_isn, isNon_non, isNon_bl, isNon_int, isNon_str, isNon_lst, isNon_tup, w_add, w_addS, w_addT, w_addL, w_sub, w_mul, w_mod, w_fdiv, w_pow, w_neg, w_eqI, w_neI, w_eqS, w_neS, w_eqB, w_neB, w_lt, w_le, w_gt, w_ge, w_int, w_abs, w_lenL, w_lenT, w_lenS, w_tupL, w_rng1, w_in2, w_in3, bne_self, Bool.not_true, Bool.not_false, Bool.or_false, Bool.false_or, Bool.or_true, Bool.true_or, decide_true, decide_false, and_true, true_and, rd_asI hM, rd_m1]
    refine ⟨p, sz, all, k, rfl, hM, ?_⟩
    cases e : all[k]? with
    | none =>
      simp only [dSs, dS, dT, dE, dEs, dTO, dTA, dAnd, dOr, dIt, dIf, gTg, gTgs, wipeD, List.map_cons, List.map_nil, getS_z, getS_s, List.set_cons_zero, List.set_cons_succ, ty_non, ty_bl, ty_int, ty_str, ty_tup, ty_lst, tk1, tk2, tk3, tk4, tk5, tk6, tk7, tk8, tk9, tk10, tk11, tk12, tk13, tk14, tk15, tk16, tk17, tk18, tk19, tk20, w_truB, w_truI, w_truN, w_truL, w_truT, w_is, w_isn, isNon_non, isNon_bl, isNon_int, isNon_str, isNon_lst, isNon_tup, w_add, w_addS, w_addT, w_addL, w_sub, w_mul, w_mod, w_fdiv, w_pow, w_neg, w_eqI, w_neI, w_eqS, w_neS, w_eqB, w_neB, w_lt, w_le, w_gt, w_ge, w_int, w_abs, w_lenL, w_lenT, w_lenS, w_tupL, w_rng1, w_in2, w_in3, bne_self, Bool.not_true, Bool.not_false, Bool.or_false, Bool.false_or, Bool.or_true, Bool.true_or, decide_true, decide_false, and_true, true_and, kindK, show decide ("end" = "word") = false by decide, rd_asI hM, rd_m4]
      exact ⟨p, sz, all, k, rfl, hM, ok, fl⟩
    | some t =>
      have e2 := rst_cons e
      obtain ⟨h1, h2, h3⟩ := hx _ _ (by rw [← er, e2])
      have hnh : t.v ∉ heads := fun z => by
        rcases hd_iff.mp z with z | z
        · exact h2 z
        · exact h3 z
      obtain ⟨w, v, a⟩ := t
      cases w with
      | false =>
        simp only [dSs, dS, dT, dE, dEs, dTO, dTA, dAnd, dOr, dIt, dIf, gTg, gTgs, wipeD, List.map_cons, List.map_nil, getS_z, getS_s, List.set_cons_zero, List.set_cons_succ, ty_non, ty_bl, ty_int, ty_str, ty_tup, ty_lst, tk1, tk2, tk3, tk4, tk5, tk6, tk7, tk8, tk9, tk10, tk11, tk12, tk13, tk14, tk15, tk16, tk17, tk18, tk19, tk20, w_truB, w_truI, w_truN, w_truL, w_truT, w_is, w_isn, isNon_non, isNon_bl, isNon_int, isNon_str, isNon_lst, isNon_tup, w_add, w_addS, w_addT, w_addL, w_sub, w_mul, w_mod, w_fdiv, w_pow, w_neg, w_eqI, w_neI, w_eqS, w_neS, w_eqB, w_neB, w_lt, w_le, w_gt, w_ge, w_int, w_abs, w_lenL, w_lenT, w_lenS, w_tupL, w_rng1, w_in2, w_in3, bne_self, Bool.not_true, Bool.not_false, Bool.or_false, Bool.false_or, Bool.or_true, Bool.true_or, decide_true, decide_false, and_true, true_and, kindK, kindT, show decide ("sign" = "word") = false by decide, rd_asI hM, rd_m4]
        exact ⟨p, sz, all, k, rfl, hM, ok, fl⟩
      | true =>
        simp only [dSs, dS, dT, dE, dEs, dTO, dTA, dAnd, dOr, dIt, dIf, gTg, gTgs, wipeD, List.map_cons, List.map_nil, getS_z, getS_s, List.set_cons_zero, List.set_cons_succ, ty_non, ty_bl, ty_int, ty_str, ty_tup, ty_lst, tk1, tk2, tk3, tk4, tk5, tk6, tk7, tk8, tk9, tk10, tk11, tk12, tk13, tk14, tk15, tk16, tk17, tk18, tk19, tk20, w_truB, w_truI, w_truN, w_truL, w_truT, w_is, w_isn, isNon_non, isNon_bl, isNon_int, isNon_str, isNon_lst, isNon_tup, w_add, w_addS, w_addT, w_addL, w_sub, w_mul, w_mod, w_fdiv, w_pow, w_neg, w_eqI, w_neI, w_eqS, w_neS, w_eqB, w_neB, w_lt, w_le, w_gt, w_ge, w_int, w_abs, w_lenL, w_lenT, w_lenS, w_tupL, w_rng1, w_in2, w_in3, bne_self, Bool.not_true, Bool.not_false, Bool.or_false, Bool.false_or, Bool.or_true, Bool.true_or, decide_true, decide_false, and_true, true_and, kindK, kindT, show decide ("word" = "word") = true by decide, valK, add_looks, w_nin, decide_eq_false hnh, rd_asI hM, rd_m4]
        exact ⟨p, sz, all, k, rfl, hM, ok, fl⟩
  | @par m c l' vs hp hc =>
    obtain ⟨a, e, e1⟩ := tok_at W er
    simp only [dSs, dS, dT, dE, dEs, dTO, dTA, dAnd, dOr, dIt, dIf, gTg, gTgs, wipeD, List.map_cons, List.map_nil, getS_z, getS_s, List.set_cons_zero, List.set_cons_succ, ty_non, ty_bl, ty_int, ty_str, ty_tup, ty_lst, tk1, tk2, tk3, tk4, tk5, tk6, tk7, tk8, tk9, tk10, tk11, tk12, tk13, tk14, tk15, tk16, tk17, tk18, tk19, tk20, w_truB, w_truI, w_truN, w_truL, w_truT, w_is, w_isn, isNon_non, isNon_bl, isNon_int, isNon_str, isNon_lst, isNon_tup, w_add, w_addS, w_addT, w_addL, w_sub, w_mul, w_mod, w_fdiv, w_pow, w_neg, w_eqI, w_neI, w_eqS, w_neS, w_eqB, w_neB, w_lt, w_le, w_gt, w_ge, w_int, w_abs, w_lenL, w_lenT, w_lenS, w_tupL, w_rng1, w_in2, w_in3, bne_self, Bool.not_true, Bool.not_false, Bool.or_false, Bool.false_or, Bool.or_true, Bool.true_or, decide_true, decide_false, and_true, true_and, rd_asI hM, rd_m7]
    refine ⟨p, sz, all, k, "(", rfl, hM, fun _ => ?_, fun h => by rw [sg_hd W (by decide), er] at h; exact absurd h (by simp [isHd])⟩
    simp only [dSs, dS, dT, dE, dEs, dTO, dTA, dAnd, dOr, dIt, dIf, gTg, gTgs, wipeD, List.map_cons, List.map_nil, getS_z, getS_s, List.set_cons_zero, List.set_cons_succ, ty_non, ty_bl, ty_int, ty_str, ty_tup, ty_lst, tk1, tk2, tk3, tk4, tk5, tk6, tk7, tk8, tk9, tk10, tk11, tk12, tk13, tk14, tk15, tk16, tk17, tk18, tk19, tk20, w_truB, w_truI, w_truN, w_truL, w_truT, w_is, w_isn, isNon_non, isNon_bl, isNon_int, isNon_str, isNon_lst, isNon_tup, w_add, w_addS, w_addT, w_addL, w_sub, w_mul, w_mod, w_fdiv, w_pow, w_neg, w_eqI, w_neI, w_eqS, w_neS, w_eqB, w_neB, w_lt, w_le, w_gt, w_ge, w_int, w_abs, w_lenL, w_lenT, w_lenS, w_tupL, w_rng1, w_in2, w_in3, bne_self, Bool.not_true, Bool.not_false, Bool.or_false, Bool.false_or, Bool.or_true, Bool.true_or, decide_true, decide_false, and_true, true_and]
    refine ⟨m, rfl, p, sz, all, k + 1, true, c, vs, rfl, put_same, ok, W, lk1 er, hal, by rw [e1]; exact hp, fun _ M2 h3 h4 => ?_, fun z => by cases z⟩
    simp only [dSs, dS, dT, dE, dEs, dTO, dTA, dAnd, dOr, dIt, dIf, gTg, gTgs, wipeD, List.map_cons, List.map_nil, getS_z, getS_s, List.set_cons_zero, List.set_cons_succ, ty_non, ty_bl, ty_int, ty_str, ty_tup, ty_lst, tk1, tk2, tk3, tk4, tk5, tk6, tk7, tk8, tk9, tk10, tk11, tk12, tk13, tk14, tk15, tk16, tk17, tk18, tk19, tk20, w_truB, w_truI, w_truN, w_truL, w_truT, w_is, w_isn, isNon_non, isNon_bl, isNon_int, isNon_str, isNon_lst, isNon_tup, w_add, w_addS, w_addT, w_addL, w_sub, w_mul, w_mod, w_fdiv, w_pow, w_neg, w_eqI, w_neI, w_eqS, w_neS, w_eqB, w_neB, w_lt, w_le, w_gt, w_ge, w_int, w_abs, w_lenL, w_lenT, w_lenS, w_tupL, w_rng1, w_in2, w_in3, bne_self, Bool.not_true, Bool.not_false, Bool.or_false, Bool.false_or, Bool.or_true, Bool.true_or, decide_true, decide_false, and_true, true_and, rd_asI h3, rd_m8]
    have hs : isSg ")" all[k + 1 + c]? = true := by rw [sg_hd W (by decide), ← rst_drop, e1]; exact hc
    refine ⟨p, sz, all, k + 1 + c, ")", rfl, h3, ok, fun _ => ?_, fun h => by rw [hs] at h; cases h⟩
    simp only [dSs, dS, dT, dE, dEs, dTO, dTA, dAnd, dOr, dIt, dIf, gTg, gTgs, wipeD, List.map_cons, List.map_nil, getS_z, getS_s, List.set_cons_zero, List.set_cons_succ, ty_non, ty_bl, ty_int, ty_str, ty_tup, ty_lst, tk1, tk2, tk3, tk4, tk5, tk6, tk7, tk8, tk9, tk10, tk11, tk12, tk13, tk14, tk15, tk16, tk17, tk18, tk19, tk20, w_truB, w_truI, w_truN, w_truL, w_truT, w_is, w_isn, isNon_non, isNon_bl, isNon_int, isNon_str, isNon_lst, isNon_tup, w_add, w_addS, w_addT, w_addL, w_sub, w_mul, w_mod, w_fdiv, w_pow, w_neg, w_eqI, w_neI, w_eqS, w_neS, w_eqB, w_neB, w_lt, w_le, w_gt, w_ge, w_int, w_abs, w_lenL, w_lenT, w_lenS, w_tupL, w_rng1, w_in2, w_in3, bne_self, Bool.not_true, Bool.not_false, Bool.or_false, Bool.false_or, Bool.or_true, Bool.true_or, decide_true, decide_false, and_true, true_and]
    refine q rfl _ ?_ (((Adv.refl p M).put.trans h4).put)
    rw [show k + (1 + c + 1) = k + 1 + c + 1 by omega]
    exact put_same
  | @parN m c l' vs hp hc =>
    obtain ⟨a, e, e1⟩ := tok_at W er
    simp only [dSs, dS, dT, dE, dEs, dTO, dTA, dAnd, dOr, dIt, dIf, gTg, gTgs, wipeD, List.map_cons, List.map_nil, getS_z, getS_s, List.set_cons_zero, List.set_cons_succ, ty_non, ty_bl, ty_int, ty_str, ty_tup, ty_lst, tk1, tk2, tk3, tk4, tk5, tk6, tk7, tk8, tk9, tk10, tk11, tk12, tk13, tk14, tk15, tk16, tk17, tk18, tk19, tk20, w_truB, w_truI, w_truN, w_truL, w_truT, w_is, w_isn, isNon_non, isNon_bl, isNon_int, isNon_str, isNon_lst, isNon_tup, w_add, w_addS, w_addT, w_addL, w_sub, w_mul, w_mod, w_fdiv, w_pow, w_neg, w_eqI, w_neI, w_eqS, w_neS, w_eqB, w_neB, w_lt, w_le, w_gt, w_ge, w_int, w_abs, w_lenL, w_lenT, w_lenS, w_tupL, w_rng1, w_in2, w_in3, bne_self, Bool.not_true, Bool.not_false, Bool.or_false, Bool.false_or, Bool.or_true, Bool.true_or, decide_true, decide_false, and_true, true_and, rd_asI hM, rd_m7]
    refine ⟨p, sz, all, k, "(", rfl, hM, fun _ => ?_, fun h => by rw [sg_hd W (by decide), er] at h; exact absurd h (by simp [isHd])⟩
    simp only [dSs, dS, dT, dE, dEs, dTO, dTA, dAnd, dOr, dIt, dIf, gTg, gTgs, wipeD, List.map_cons, List.map_nil, getS_z, getS_s, List.set_cons_zero, List.set_cons_succ, ty_non, ty_bl, ty_int, ty_str, ty_tup, ty_lst, tk1, tk2, tk3, tk4, tk5, tk6, tk7, tk8, tk9, tk10, tk11, tk12, tk13, tk14, tk15, tk16, tk17, tk18, tk19, tk20, w_truB, w_truI, w_truN, w_truL, w_truT, w_is, w_isn, isNon_non, isNon_bl, isNon_int, isNon_str, isNon_lst, isNon_tup, w_add, w_addS, w_addT, w_addL, w_sub, w_mul, w_mod, w_fdiv, w_pow, w_neg, w_eqI, w_neI, w_eqS, w_neS, w_eqB, w_neB, w_lt, w_le, w_gt, w_ge, w_int, w_abs, w_lenL, w_lenT, w_lenS, w_tupL, w_rng1, w_in2, w_in3, bne_self, Bool.not_true, Bool.not_false, Bool.or_false, Bool.false_or, Bool.or_true, Bool.true_or, decide_true, decide_false, and_true, true_and]
    refine ⟨m, rfl, p, sz, all, k + 1, true, c, vs, rfl, put_same, ok, W, lk1 er, hal, by rw [e1]; exact hp, fun _ M2 h3 h4 => ?_, fun z => by cases z⟩
    simp only [dSs, dS, dT, dE, dEs, dTO, dTA, dAnd, dOr, dIt, dIf, gTg, gTgs, wipeD, List.map_cons, List.map_nil, getS_z, getS_s, List.set_cons_zero, List.set_cons_succ, ty_non, ty_bl, ty_int, ty_str, ty_tup, ty_lst, tk1, tk2, tk3, tk4, tk5, tk6, tk7, tk8, tk9, tk10, tk11, tk12, tk13, tk14, tk15, tk16, tk17, tk18, tk19, tk20, w_truB, w_truI, w_truN, w_truL, w_truT, w_is, w_isn, isNon_non, isNon_bl, isNon_int, isNon_str, isNon_lst, isNon_tup, w_add, w_addS, w_addT, w_addL, w_sub, w_mul, w_mod, w_fdiv, w_pow, w_neg, w_eqI, w_neI, w_eqS, w_neS, w_eqB, w_neB, w_lt, w_le, w_gt, w_ge, w_int, w_abs, w_lenL, w_lenT, w_lenS, w_tupL, w_rng1, w_in2, w_in3, bne_self, Bool.not_true, Bool.not_false, Bool.or_false, Bool.false_or, Bool.or_true, Bool.true_or, decide_true, decide_false, and_true, true_and, rd_asI h3, rd_m8]
    have hs : isSg ")" all[k + 1 + c]? = false := by rw [sg_hd W (by decide), ← rst_drop, e1]; exact hc
    refine ⟨p, sz, all, k + 1 + c, ")", rfl, h3, ok, (fun h => by rw [hs] at h; cases h), fun _ => ?_⟩
    have := bad rfl M2 ((Adv.refl p M).put.trans h4)
    rw [show k + (1 + c) = k + 1 + c by omega] at this
    exact this
  | @parB m c l' vs hp =>
    obtain ⟨a, e, e1⟩ := tok_at W er
    simp only [dSs, dS, dT, dE, dEs, dTO, dTA, dAnd, dOr, dIt, dIf, gTg, gTgs, wipeD, List.map_cons, List.map_nil, getS_z, getS_s, List.set_cons_zero, List.set_cons_succ, ty_non, ty_bl, ty_int, ty_str, ty_tup, ty_lst, tk1, tk2, tk3, tk4, tk5, tk6, tk7, tk8, tk9, tk10, tk11, tk12, tk13, tk14, tk15, tk16, tk17, tk18, tk19, tk20, w_truB, w_truI, w_truN, w_truL, w_truT, w_is, w_isn, isNon_non, isNon_bl, isNon_int, isNon_str, isNon_lst, isNon_tup, w_add, w_addS, w_addT, w_addL, w_sub, w_mul, w_mod, w_fdiv, w_pow, w_neg, w_eqI, w_neI, w_eqS, w_neS, w_eqB, w_neB, w_lt, w_le, w_gt, w_ge, w_int, w_abs, w_lenL, w_lenT, w_lenS, w_tupL, w_rng1, w_in2, w_in3, bne_self, Bool.not_true, Bool.not_false, Bool.or_false, Bool.false_or, Bool.or_true, Bool.true_or, decide_true, decide_false, and_true, true_and, rd_asI hM, rd_m7]
    refine ⟨p, sz, all, k, "(", rfl, hM, fun _ => ?_, fun h => by rw [sg_hd W (by decide), er] at h; exact absurd h (by simp [isHd])⟩
    simp only [dSs, dS, dT, dE, dEs, dTO, dTA, dAnd, dOr, dIt, dIf, gTg, gTgs, wipeD, List.map_cons, List.map_nil, getS_z, getS_s, List.set_cons_zero, List.set_cons_succ, ty_non, ty_bl, ty_int, ty_str, ty_tup, ty_lst, tk1, tk2, tk3, tk4, tk5, tk6, tk7, tk8, tk9, tk10, tk11, tk12, tk13, tk14, tk15, tk16, tk17, tk18, tk19, tk20, w_truB, w_truI, w_truN, w_truL, w_truT, w_is, w_isn, isNon_non, isNon_bl, isNon_int, isNon_str, isNon_lst, isNon_tup, w_add, w_addS, w_addT, w_addL, w_sub, w_mul, w_mod, w_fdiv, w_pow, w_neg, w_eqI, w_neI, w_eqS, w_neS, w_eqB, w_neB, w_lt, w_le, w_gt, w_ge, w_int, w_abs, w_lenL, w_lenT, w_lenS, w_tupL, w_rng1, w_in2, w_in3, bne_self, Bool.not_true, Bool.not_false, Bool.or_false, Bool.false_or, Bool.or_true, Bool.true_or, decide_true, decide_false, and_true, true_and]
    refine ⟨m, rfl, p, sz, all, k + 1, false, c, vs, rfl, put_same, ok, W, lk1 er, hal, by rw [e1]; exact hp, (fun z => by cases z), fun _ M2 h4 => ?_⟩
    rw [show k + 1 + c = k + (1 + c) by omega]
    exact bad rfl M2 ((Adv.refl p M).put.trans h4)
end K46
end VS

set_option maxHeartbeats 1000000
/-! terms and conditions are read, or an error is told -/
namespace VS
open PySem PySem.Spec PyProof.Rows L2
theorem joD_ne {k : String} {vs : List D} (h : vs.length ≠ 1) : joD k vs = .tup [.str k, .tup (flD k vs)] := by
  match vs, h with
  | [], _ => rfl
  | [d], h => exact absurd rfl h
  | _ :: _ :: _, _ => rfl
theorem flD_snoc {k : String} {vs : List D} {d : D} : flD k (vs ++ [d]) = flD k vs ++ (if hdD d = k then inD d else [d]) := by
  unfold flD
  rw [List.flatMap_append]
  simp
theorem VL.flen {h L : Nat} {k : String} {vs : List D} (hk : k = "and" ∨ k = "or") (v : VL h vs L) (j : Nat) : (flD k (vs.take j)).length ≤ L := by
  obtain ⟨es, rfl, e2, e3⟩ := v.ex
  obtain ⟨es', i1, i2, i3⟩ := VL.flat hk (es.take j) fun e he => e2 e (List.mem_of_mem_take he)
  have a : ∀ fs : List (D × List D), (∀ e ∈ fs, CvD h e.1 e.2) → fs.length ≤ ((fs.map (·.2)).flatten).length := fun fs => by
    induction fs with
    | nil => intro _; exact Nat.zero_le _
    | cons f fs ih =>
      intro H
      have := (H f List.mem_cons_self).pos.2
      have := ih fun e he => H e (List.mem_cons_of_mem _ he)
      rw [List.length_cons, List.map_cons, List.flatten_cons, List.length_append]; omega
  have b := a es' i2
  have c : (((es.take j).map (·.2)).flatten).length ≤ ((es.map (·.2)).flatten).length := by
    conv => rhs; rw [← List.take_append_drop j es, List.map_append, List.flatten_append, List.length_append]
    omega
  rw [← List.map_take, i1, List.length_map]
  omega
theorem VL.get {h L : Nat} {vs : List D} (v : VL h vs L) {j : Nat} {d : D} (hj : vs[j]? = some d) : ∃ ps, CvD h d ps := by
  obtain ⟨es, rfl, e2, _⟩ := v.ex
  rw [List.getElem?_map] at hj
  cases e : es[j]? with
  | none => rw [e] at hj; cases hj
  | some x => rw [e] at hj; cases hj; exact ⟨_, e2 x (List.mem_of_getElem? e)⟩
theorem VL.snoc {h L L' : Nat} {vs : List D} {d : D} {ps : List D} (v : VL h vs L) (c : CvD h d ps) (l : ps.length ≤ L') : VL h (vs ++ [d]) (L + L') := by
  obtain ⟨es, rfl, e2, e3⟩ := v.ex
  refine ⟨es ++ [(d, ps)], by rw [List.map_append]; rfl, fun e he => ?_, ?_⟩
  · rcases List.mem_append.mp he with z | z
    · exact e2 e z
    · rw [List.mem_singleton] at z; subst z; exact c
  · rw [List.map_append, List.flatten_append, List.length_append]
    simp only [List.map_cons, List.map_nil, List.flatten_cons, List.flatten_nil, List.append_nil]
    omega
/-- some of one kind, with a word between -/
inductive Lp (P : List String → Bool → Nat → D → Prop) (w : String) : List String → Bool → Nat → List D → Prop
  | bad {l : List String} {c : Nat} {d : D} {ds : List D} : P l false c d → Lp P w l false c ds
  | one {l : List String} {c : Nat} {d : D} : P l true c d → isHd w (l.drop c) = false → Lp P w l true c [d]
  | more {l : List String} {b : Bool} {c c' : Nat} {d : D} {ds : List D} : P l true c d → isHd w (l.drop c) = true → Lp P w (l.drop (c + 1)) b c' ds → Lp P w l b (c + 1 + c') (d :: ds)
def PcV (lv n : Nat) (l : List String) (b : Bool) (c : Nat) (d : D) : Prop := ∃ ds, Pc lv n l b c ds ∧ (b = true → vaD lv ds = d)
theorem Pc.lp1 {n c : Nat} {l : List String} {b : Bool} {ds : List D} (h : Pc 1 n l b c ds) : Lp (PcV 0 n) "and" l b c ds := by
  generalize e : 1 = lv at h
  induction h with
  | tN p _ => exact .bad (d := .non) ⟨_, p, fun z => by cases z⟩
  | tE p h _ => exact .one ⟨_, p, fun _ => rfl⟩ h
  | tM p h _ _ ih => exact .more ⟨_, p, fun _ => rfl⟩ h (ih e)
  | _ => cases e
theorem Pc.lp2 {n c : Nat} {l : List String} {b : Bool} {ds : List D} (h : Pc 2 n l b c ds) : Lp (PcV 1 n) "or" l b c ds := by
  generalize e : 2 = lv at h
  induction h with
  | cN p _ => exact .bad (d := .non) ⟨_, p, fun z => by cases z⟩
  | cE p h _ => exact .one ⟨_, p, fun _ => rfl⟩ h
  | cM p h _ _ ih => exact .more ⟨_, p, fun _ => rfl⟩ h (ih e)
  | _ => cases e
theorem PcV.ok {lv n c : Nat} {l : List String} {b : Bool} {d : D} (h : PcV lv n l b c d) (hl : lv ≤ 1) : c ≤ l.length ∧ (b = true → 1 ≤ c ∧ ∃ ps, CvD (n + 1) d ps ∧ ps.length ≤ 2 * c) := by
  obtain ⟨ds, p, e⟩ := h
  refine ⟨p.le.1, fun hb => ⟨p.le.2 hb, ?_⟩⟩
  obtain ⟨hn, _, h3, v⟩ := p.ok hb
  have hp := List.length_pos_iff.mpr hn
  have v' : VL n ds (2 * c - ds.length) := by
    have : hof lv n = n := if_neg (by omega)
    rw [this] at v; exact v
  obtain ⟨ps, q1, q2⟩ := v'.jo (.inl rfl) hn
  have ev : vaD lv ds = joD "and" ds := if_neg (by omega)
  rw [← e hb, ev]
  exact ⟨ps, q1, by omega⟩
namespace K46
def spJo : Spec := fun ds M Q _ => ∃ s q vs h L, ds = [.str s, .ptr q] ∧ (s = "and" ∨ s = "or") ∧ M q = some (.lst vs) ∧ VL h vs L ∧ L ≤ 1000000 ∧ ∀ M', Dr M M' → Q (joD s vs) M'
theorem w_extT {M : Store} {p : Addr} {xs ys : List D} {Q : DK} (h : M p = some (.lst xs)) : wMt .extend (.ptr p) [.tup ys] M Q = (xs.length + ys.length ≤ line ∧ Q .non (M.put p (.lst (xs ++ ys)))) := by
  show (match M p with
    | some (.lst xs) => (match asS M (.tup ys) with | some ys => xs.length + ys.length ≤ line ∧ Q .non (M.put p (.lst (xs ++ ys))) | none => False)
    | _ => False) = _
  rw [h]; rfl
theorem w_appTy2 {M : Store} {p : Addr} {xs : List D} (h : M p = some (.lst xs)) : mtTy .extend (.ptr p) M = true := by show (asL M (.ptr p)).isSome = true; rw [asL_ptr h]; rfl
theorem h_joined : ∀ ds M Q E, ds.length = 2 → spJo ds M Q E → dSs E c_joined { nx := fun _ M' => Q .non M', rt := Q } (startD n_joined.length ds) M := by
  rintro ds M Q E hl ⟨s, q, vs, h, L, rfl, hs, hM, hv, hL, fin⟩
  show dSs E c_joined _ [some (.str s), some (.ptr q), none, none] M
  unfold c_joined
  have ll : line = 16777216 := rfl
  simp only [dSs, dS, dT, dE, dEs, dTO, dTA, dAnd, dOr, dIt, dIf, gTg, gTgs, wipeD, List.map_cons, List.map_nil, getS_z, getS_s, List.set_cons_zero, List.set_cons_succ, ty_non, ty_bl, ty_int, ty_str, ty_tup, ty_lst, tk1, tk2, tk3, tk4, tk5, tk6, tk7, tk8, tk9, tk10, tk11, tk12, tk13, tk14, tk15, tk16, tk17, tk18, tk19, tk20, w_truB, w_truI, w_truN, w_truL, w_truT, w_is, w_isn, isNon_non, isNon_bl, isNon_int, isNon_str, isNon_lst, isNon_tup, w_add, w_addS, w_addT, w_addL, w_sub, w_mul, w_mod, w_fdiv, w_pow, w_neg, w_eqI, w_neI, w_eqS, w_neS, w_eqB, w_neB, w_lt, w_le, w_gt, w_ge, w_int, w_abs, w_lenL, w_lenT, w_lenS, w_tupL, w_rng1, w_in2, w_in3, bne_self, Bool.not_true, Bool.not_false, Bool.or_false, Bool.false_or, Bool.or_true, Bool.true_or, decide_true, decide_false, and_true, true_and, w_lenP hM]
  by_cases h1 : vs.length = 1
  · have e1 : (vs.length : Int) = 1 := by omega
    simp only [decide_eq_true e1]
    match vs, h1 with
    | [v], _ =>
      simp only [w_ixP hM at_0]
      exact fin M (Dr.refl M)
  · have e1 : ¬ (vs.length : Int) = 1 := by omega
    simp only [decide_eq_false e1]
    intro p hp
    have hpq : q ≠ p := fun z => by subst z; rw [hM] at hp; cases hp
    have hM' : ∀ o, (M.put p o) q = some (.lst vs) := fun o => by rw [put_ne hpq]; exact hM
    rw [it_P (hM' _)]
    refine forGo_inv (fun j σ M' => ∃ (o3 : Option D), σ = [some (.str s), some (.ptr q), some (.ptr p), o3] ∧ M' = M.put p (.lst (flD s (vs.take j)))) _ (fun _ _ _ h => ?_) ?_ ?_ ?_
    · obtain ⟨_, _, rfl⟩ := h; exact hM' _
    · rintro j x σ M2 nx hx ⟨o3, rfl, rfl⟩ hnx
      obtain ⟨ps, cv⟩ := hv.get hx
      have P : (M.put p (.lst (flD s (vs.take j)))) p = some (.lst (flD s (vs.take j))) := put_same
      have fl := hv.flen hs (j + 1)
      have et : vs.take (j + 1) = vs.take j ++ [x] := by rw [List.take_succ, hx]; rfl
      rw [et, flD_snoc, List.length_append] at fl
      obtain ⟨r, er⟩ := cv.hd
      have e0 : ∀ (M : Store) (Q : DK), wIx x (.int 0) M Q = Q (.str (hdD x)) M := fun M Q => by
        generalize hdD x = hx' at er
        rw [er]; exact w_ixT at_0
      simp only [dSs, dS, dT, dE, dEs, dTO, dTA, dAnd, dOr, dIt, dIf, gTg, gTgs, wipeD, List.map_cons, List.map_nil, getS_z, getS_s, List.set_cons_zero, List.set_cons_succ, ty_non, ty_bl, ty_int, ty_str, ty_tup, ty_lst, tk1, tk2, tk3, tk4, tk5, tk6, tk7, tk8, tk9, tk10, tk11, tk12, tk13, tk14, tk15, tk16, tk17, tk18, tk19, tk20, w_truB, w_truI, w_truN, w_truL, w_truT, w_is, w_isn, isNon_non, isNon_bl, isNon_int, isNon_str, isNon_lst, isNon_tup, w_add, w_addS, w_addT, w_addL, w_sub, w_mul, w_mod, w_fdiv, w_pow, w_neg, w_eqI, w_neI, w_eqS, w_neS, w_eqB, w_neB, w_lt, w_le, w_gt, w_ge, w_int, w_abs, w_lenL, w_lenT, w_lenS, w_tupL, w_rng1, w_in2, w_in3, bne_self, Bool.not_true, Bool.not_false, Bool.or_false, Bool.false_or, Bool.or_true, Bool.true_or, decide_true, decide_false, and_true, true_and, e0]
      by_cases hh : hdD x = s
      · rw [if_pos hh] at fl
        obtain ⟨es, j1, j2, _, _⟩ := cv.bin (by rw [hh]; exact hs)
        have ey : ∀ (M : Store) (Q : DK), wIx x (.int 1) M Q = Q (.tup (inD x)) M := fun M Q => by
          rw [j2]
          generalize hdD x = hx' at j1
          rw [j1]; exact w_ixT at_1
        simp only [decide_eq_true hh, w_appTy2 P, true_and, ey, w_extT P, put_put]
        refine ⟨by omega, hnx _ _ ⟨_, rfl, ?_⟩⟩
        rw [et, flD_snoc, if_pos hh]
      · rw [if_neg hh] at fl
        simp only [decide_eq_false hh, w_appTy P, w_app P, true_and, put_put]
        have fl : (flD s (vs.take j)).length + 1 ≤ L := fl
        refine ⟨by omega, hnx _ _ ⟨_, rfl, ?_⟩⟩
        rw [et, flD_snoc, if_neg hh]
    · exact ⟨none, rfl, rfl⟩
    · rintro σ M2 ⟨o3, rfl, rfl⟩
      rw [List.take_length]
      simp only [dSs, dS, dT, dE, dEs, dTO, dTA, dAnd, dOr, dIt, dIf, gTg, gTgs, wipeD, List.map_cons, List.map_nil, getS_z, getS_s, List.set_cons_zero, List.set_cons_succ, ty_non, ty_bl, ty_int, ty_str, ty_tup, ty_lst, tk1, tk2, tk3, tk4, tk5, tk6, tk7, tk8, tk9, tk10, tk11, tk12, tk13, tk14, tk15, tk16, tk17, tk18, tk19, tk20, w_truB, w_truI, w_truN, w_truL, w_truT, w_is, w_isn, isNon_non, isNon_bl, isNon_int, isNon_str, isNon_lst, isNon_tup, w_add, w_addS, w_addT, w_addL, w_sub, w_mul, w_mod, w_fdiv, w_pow, w_neg, w_eqI, w_neI, w_eqS, w_neS, w_eqB, w_neB, w_lt, w_le, w_gt, w_ge, w_int, w_abs, w_lenL, w_lenT, w_lenS, w_tupL, w_rng1, w_in2, w_in3, bne_self, Bool.not_true, Bool.not_false, Bool.or_false, Bool.false_or, Bool.or_true, Bool.true_or, decide_true, decide_false, and_true, true_and, w_tupP (put_same (M := M) (a := p) (o := .lst (flD s vs)))]
      have := fin _ (Dr.new hp (o := .lst (flD s vs)))
      rw [joD_ne h1] at this
      exact this
def cLo (f : String) (sp : Spec) (w : String) : Sts :=
  (.cons (.asg 1 (.mlst (.cons (.call f sp (.cons (.v 0) .nil)) .nil)))
  (.cons (.whl (.val (.meth "Reader" "is_word" spIsWord (.v 0) (.cons (.c (.str w)) .nil)))
  (.cons (.augF "Reader" (.v 0) "taken" (.c (.int 1)))
  (.cons (.ex (.mth .append (.v 1) (.cons (.call f sp (.cons (.v 0) .nil)) .nil)))
  .nil)))
  (.cons (.ret (.call "joined" spJo (.cons (.c (.str w)) (.cons (.v 1) .nil))))
  .nil)))
theorem h_loop {f w : String} {sp : Spec} {lv n : Nat} (hw : w = "and" ∨ w = "or") (hlv : lv ≤ 1) {p : Addr} {sz : Nat} {all : List Tk} {k : Nat} {b : Bool} {c : Nat} {vs : List D} {M : Store} {Q : DK} {E : XP}
    (hsp : ∀ (k : Nat) (b : Bool) (c : Nat) (d : D) (M : Store) (Q : DK), M p = some (rdO sz all k) → k ≤ all.length → PcV lv n (rst all k) b c d → (b = true → ∀ M', M' p = some (rdO sz all (k + c)) → Adv p M M' → Q d M') → (b = false → ∀ M', Adv p M M' → ErrK sz all (k + c) M' E) → sp [.ptr p] M Q E)
    (hM : M p = some (rdO sz all k)) (W : Wk all) (hk : k ≤ all.length) (hal : all.length ≤ 100000) (hg : Lp (PcV lv n) w (rst all k) b c vs)
    (q : b = true → ∀ M', M' p = some (rdO sz all (k + c)) → Adv p M M' → Q (joD w vs) M') (bad : b = false → ∀ M', Adv p M M' → ErrK sz all (k + c) M' E) :
    dSs E (cLo f sp w) { nx := fun _ M' => Q .non M', rt := Q } [some (.ptr p), none] M := by
  have ll : line = 16777216 := rfl
  have ww : wordB w = true := by rcases hw with rfl | rfl <;> decide
  have rlen : ∀ j, (rst all j).length = all.length - j := fun j => by unfold rst; rw [List.length_drop, List.length_map]
  unfold cLo
  simp only [dSs, dS, dT, dE, dEs, dTO, dTA, dAnd, dOr, dIt, dIf, gTg, gTgs, wipeD, List.map_cons, List.map_nil, getS_z, getS_s, List.set_cons_zero, List.set_cons_succ, ty_non, ty_bl, ty_int, ty_str, ty_tup, ty_lst, tk1, tk2, tk3, tk4, tk5, tk6, tk7, tk8, tk9, tk10, tk11, tk12, tk13, tk14, tk15, tk16, tk17, tk18, tk19, tk20, w_truB, w_truI, w_truN, w_truL, w_truT, w_is, w_isn, isNon_non, isNon_bl, isNon_int, isNon_str, isNon_lst, isNon_tup, w_add, w_addS, w_addT, w_addL, w_sub, w_mul, w_mod, w_fdiv, w_pow, w_neg, w_eqI, w_neI, w_eqS, w_neS, w_eqB, w_neB, w_lt, w_le, w_gt, w_ge, w_int, w_abs, w_lenL, w_lenT, w_lenS, w_tupL, w_rng1, w_in2, w_in3, bne_self, Bool.not_true, Bool.not_false, Bool.or_false, Bool.false_or, Bool.or_true, Bool.true_or, decide_true, decide_false, and_true, true_and]
  -- what stands behind one that was read
  let RK : Nat → List D → Prop := fun ca vs0 => (isHd w (rst all (k + ca)) = false ∧ b = true ∧ c = ca ∧ vs = vs0) ∨ (isHd w (rst all (k + ca)) = true ∧ ∃ cb ds, Lp (PcV lv n) w (rst all (k + ca + 1)) b cb ds ∧ c = ca + 1 + cb ∧ (b = true → vs = vs0 ++ ds))
  -- one is read
  have step : ∀ (ca : Nat) (vs0 : List D) (cb : Nat) (ds : List D) (M1 : Store) (Qd : DK), k + ca ≤ all.length → Lp (PcV lv n) w (rst all (k + ca)) b cb ds → c = ca + cb → (b = true → vs = vs0 ++ ds) → M1 p = some (rdO sz all (k + ca)) → Adv p M M1 →
      (∀ (M2 : Store) (d : D) (c1 : Nat) (ps : List D), k + (ca + c1) ≤ all.length → 1 ≤ c1 → CvD (n + 1) d ps → ps.length ≤ 2 * c1 → RK (ca + c1) (vs0 ++ [d]) → M2 p = some (rdO sz all (k + (ca + c1))) → Adv p M1 M2 → Qd d M2) → sp [.ptr p] M1 Qd E := fun ca vs0 cb ds M1 Qd hca hlp ec ev h1 ad go => by
    cases hlp with
    | @bad _ _ d _ hp =>
      refine hsp (k + ca) false cb d M1 Qd h1 hca hp (fun z => by cases z) fun _ M2 a2 => ?_
      rw [Nat.add_assoc, ← ec]
      exact bad rfl M2 (ad.trans a2)
    | @one _ _ d hp hn =>
      obtain ⟨l1, l2⟩ := hp.ok hlv
      obtain ⟨l2, ps, l3, l4⟩ := l2 rfl
      rw [rlen] at l1
      rw [rst_drop, Nat.add_assoc] at hn
      refine hsp (k + ca) true cb d M1 Qd h1 hca hp (fun _ M2 h2 a2 => ?_) fun z => by cases z
      exact go M2 d cb ps (by omega) l2 l3 l4 (.inl ⟨hn, rfl, ec, ev rfl⟩) (by rw [← Nat.add_assoc]; exact h2) a2
    | @more _ _ c1 c2 d ds' hp hn hr =>
      obtain ⟨l1, l2⟩ := hp.ok hlv
      obtain ⟨l2, ps, l3, l4⟩ := l2 rfl
      rw [rlen] at l1
      rw [rst_drop, Nat.add_assoc] at hn
      rw [rst_drop] at hr
      refine hsp (k + ca) true c1 d M1 Qd h1 hca hp (fun _ M2 h2 a2 => ?_) fun z => by cases z
      refine go M2 d c1 ps (by omega) l2 l3 l4 (.inr ⟨hn, c2, ds', ?_, by omega, fun hb => by rw [ev hb, List.append_assoc]; rfl⟩) (by rw [← Nat.add_assoc]; exact h2) a2
      rw [show k + (ca + c1) + 1 = k + ca + (c1 + 1) by omega]; exact hr
  refine step 0 [] c vs M _ hk hg (by omega) (fun _ => rfl) hM (Adv.refl p M) fun M2 d c1 ps l0 l1 l2 l3 rk h2 a2 => ?_
  rw [Nat.zero_add] at l0 rk h2
  intro z hz
  have zp : z ≠ p := fun e => by subst e; rw [h2] at hz; cases hz
  have hz0 : M z = none := a2.non zp hz
  refine ⟨fun m σ M' => ∃ (ca : Nat) (vs0 : List D), σ = [some (.ptr p), some (.ptr z)] ∧ Adv p M M' ∧ k + ca ≤ all.length ∧ RK ca vs0 ∧ M' p = some (rdO sz all (k + ca)) ∧ M' z = some (.lst vs0) ∧ VL (n + 1) vs0 (2 * ca) ∧ vs0.length ≤ ca ∧ m = all.length - (k + ca),
    ⟨_, c1, [d], rfl, a2.new hz0, l0, rk, by rw [put_ne zp.symm]; exact h2, put_same, .one l2 l3, l1, rfl⟩, ?_⟩
  rintro m σ M' ⟨ca, vs0, rfl, ad, l4, rk2, g1, g2, v0, l5, rfl⟩
  simp only [dSs, dS, dT, dE, dEs, dTO, dTA, dAnd, dOr, dIt, dIf, gTg, gTgs, wipeD, List.map_cons, List.map_nil, getS_z, getS_s, List.set_cons_zero, List.set_cons_succ, ty_non, ty_bl, ty_int, ty_str, ty_tup, ty_lst, tk1, tk2, tk3, tk4, tk5, tk6, tk7, tk8, tk9, tk10, tk11, tk12, tk13, tk14, tk15, tk16, tk17, tk18, tk19, tk20, w_truB, w_truI, w_truN, w_truL, w_truT, w_is, w_isn, isNon_non, isNon_bl, isNon_int, isNon_str, isNon_lst, isNon_tup, w_add, w_addS, w_addT, w_addL, w_sub, w_mul, w_mod, w_fdiv, w_pow, w_neg, w_eqI, w_neI, w_eqS, w_neS, w_eqB, w_neB, w_lt, w_le, w_gt, w_ge, w_int, w_abs, w_lenL, w_lenT, w_lenS, w_tupL, w_rng1, w_in2, w_in3, bne_self, Bool.not_true, Bool.not_false, Bool.or_false, Bool.false_or, Bool.or_true, Bool.true_or, decide_true, decide_false, and_true, true_and, rd_asI g1, rd_m6]
  refine ⟨p, sz, all, _, w, rfl, g1, ?_⟩
  rw [wd_hd W ww]
  rcases rk2 with ⟨hn, hb, ec, ev⟩ | ⟨hn, cb, ds, hlp, ec, ev⟩
  · rw [hn]
    simp only [dSs, dS, dT, dE, dEs, dTO, dTA, dAnd, dOr, dIt, dIf, gTg, gTgs, wipeD, List.map_cons, List.map_nil, getS_z, getS_s, List.set_cons_zero, List.set_cons_succ, ty_non, ty_bl, ty_int, ty_str, ty_tup, ty_lst, tk1, tk2, tk3, tk4, tk5, tk6, tk7, tk8, tk9, tk10, tk11, tk12, tk13, tk14, tk15, tk16, tk17, tk18, tk19, tk20, w_truB, w_truI, w_truN, w_truL, w_truT, w_is, w_isn, isNon_non, isNon_bl, isNon_int, isNon_str, isNon_lst, isNon_tup, w_add, w_addS, w_addT, w_addL, w_sub, w_mul, w_mod, w_fdiv, w_pow, w_neg, w_eqI, w_neI, w_eqS, w_neS, w_eqB, w_neB, w_lt, w_le, w_gt, w_ge, w_int, w_abs, w_lenL, w_lenT, w_lenS, w_tupL, w_rng1, w_in2, w_in3, bne_self, Bool.not_true, Bool.not_false, Bool.or_false, Bool.false_or, Bool.or_true, Bool.true_or, decide_true, decide_false, and_true, true_and]
    refine ⟨w, z, vs0, n + 1, 2 * ca, rfl, hw, g2, v0, by omega, fun M3 dr => ?_⟩
    rw [← ev]
    refine q hb M3 ?_ (ad.dr dr)
    rw [dr p (by rw [g1]; exact fun e => by cases e), g1, ec]
  · rw [hn]
    have l6 := hd_len hn
    rw [rlen] at l6
    simp only [dSs, dS, dT, dE, dEs, dTO, dTA, dAnd, dOr, dIt, dIf, gTg, gTgs, wipeD, List.map_cons, List.map_nil, getS_z, getS_s, List.set_cons_zero, List.set_cons_succ, ty_non, ty_bl, ty_int, ty_str, ty_tup, ty_lst, tk1, tk2, tk3, tk4, tk5, tk6, tk7, tk8, tk9, tk10, tk11, tk12, tk13, tk14, tk15, tk16, tk17, tk18, tk19, tk20, w_truB, w_truI, w_truN, w_truL, w_truT, w_is, w_isn, isNon_non, isNon_bl, isNon_int, isNon_str, isNon_lst, isNon_tup, w_add, w_addS, w_addT, w_addL, w_sub, w_mul, w_mod, w_fdiv, w_pow, w_neg, w_eqI, w_neI, w_eqS, w_neS, w_eqB, w_neB, w_lt, w_le, w_gt, w_ge, w_int, w_abs, w_lenL, w_lenT, w_lenS, w_tupL, w_rng1, w_in2, w_in3, bne_self, Bool.not_true, Bool.not_false, Bool.or_false, Bool.false_or, Bool.or_true, Bool.true_or, decide_true, decide_false, and_true, true_and, rd_asI g1, rd_taken, rd_plus g1]
    have g2' : (M'.put p (rdO sz all (k + ca + 1))) z = some (.lst vs0) := by rw [put_ne zp]; exact g2
    refine ⟨w_appTy g2', step (ca + 1) vs0 cb ds _ _ (by omega) (by rw [← Nat.add_assoc]; exact hlp) (by omega) ev (by rw [← Nat.add_assoc]; exact put_same) ad.put fun M3 d' c3 ps' m0 m1 m2 m3 rk3 h3 a3 => ?_⟩
    have g3 : M3 z = some (.lst vs0) := by rw [a3 z zp (by rw [g2']; exact fun e => by cases e)]; exact g2'
    simp only [w_app g3]
    refine ⟨by omega, _, ?_, ca + 1 + c3, vs0 ++ [d'], (ad.put.trans a3).new hz0, m0, rk3, by rw [put_ne zp.symm]; exact h3, put_same, ?_, by rw [List.length_append]; show vs0.length + 1 ≤ _; omega, rfl⟩
    · omega
    · obtain ⟨es, f1, f2, f3⟩ := (v0.snoc m2 m3).ex
      exact ⟨es, f1, f2, by omega⟩
theorem h_term (n : Nat) : ∀ ds M Q E, ds.length = 1 → spPc 1 n ds M Q E → dSs E (c_read_term (spPc 0 n) spIsWord spJo) { nx := fun _ M' => Q .non M', rt := Q } (startD n_read_term.length ds) M := by
  rintro ds M Q E hl ⟨p, sz, all, k, b, c, vs, rfl, hM, ok, W, hk, hal, hg, q, bad⟩
  show dSs E (cLo "read_factor" (spPc 0 n) "and") _ [some (.ptr p), none] M
  exact h_loop (.inl rfl) (Nat.zero_le 1) (fun k b c d M Q h1 h2 ⟨ds, h3, h4⟩ h5 h6 => ⟨p, sz, all, k, b, c, ds, rfl, h1, ok, W, h2, hal, h3, fun hb M' a b => by rw [h4 hb]; exact h5 hb M' a b, h6⟩) hM W hk hal hg.lp1 q bad
theorem h_condition (n : Nat) : ∀ ds M Q E, ds.length = 1 → spPc 2 n ds M Q E → dSs E (c_read_condition (spPc 1 n) spIsWord spJo) { nx := fun _ M' => Q .non M', rt := Q } (startD n_read_condition.length ds) M := by
  rintro ds M Q E hl ⟨p, sz, all, k, b, c, vs, rfl, hM, ok, W, hk, hal, hg, q, bad⟩
  show dSs E (cLo "read_term" (spPc 1 n) "or") _ [some (.ptr p), none] M
  exact h_loop (.inr rfl) (Nat.le_refl 1) (fun k b c d M Q h1 h2 ⟨ds, h3, h4⟩ h5 h6 => ⟨p, sz, all, k, b, c, ds, rfl, h1, ok, W, h2, hal, h3, fun hb M' a b => by rw [h4 hb]; exact h5 hb M' a b, h6⟩) hM W hk hal hg.lp2 q bad
end K46
end VS

set_option maxHeartbeats 1000000
/-! the parts of a condition; a condition is read from a text, or an error is told -/
namespace VS
open PySem PySem.Spec PyProof.Rows L2
theorem CvD.parts {h : Nat} {d : D} {ps : List D} (c : CvD h d ps) : ∀ x ∈ ps, ∃ r, x = .tup (.str (hdD x) :: r) := by
  induction c with
  | lf _ => intro x hx; rw [List.mem_singleton] at hx; subst hx; exact ⟨_, rfl⟩
  | un _ _ ih =>
    intro x hx
    rcases List.mem_cons.mp hx with z | z
    · subst z; exact ⟨_, rfl⟩
    · exact ih x z
  | nr _ _ ih =>
    intro x hx
    rcases List.mem_cons.mp hx with z | z
    · subst z; exact ⟨_, rfl⟩
    · obtain ⟨l, hl, hx⟩ := List.mem_flatten.mp z
      obtain ⟨e, he, rfl⟩ := List.mem_map.mp hl
      exact ih e he x hx
def phL (x : D) : Option D := if lkD x = true then some x else none
theorem phL_len : ∀ ps : List D, (ps.filterMap phL).length = (ps.filter lkD).length
  | [] => rfl
  | x :: ps => by
    cases h : lkD x with
    | true => rw [List.filterMap_cons_some (by unfold phL; rw [if_pos h]), List.filter_cons_of_pos h, List.length_cons, List.length_cons, phL_len ps]
    | false => rw [List.filterMap_cons_none (by unfold phL; rw [if_neg (by rw [h]; exact Bool.false_ne_true)]), List.filter_cons_of_neg (by rw [h]; exact Bool.false_ne_true), phL_len ps]
def sgC : List Char := ['(', ')']
theorem sgC_ok : ∀ c ∈ sgC, isLet c = false := fun c hc => by
  simp only [sgC, List.mem_cons, List.not_mem_nil, or_false] at hc
  rcases hc with rfl | rfl <;> decide
namespace K46
def spInn : Spec := fun ds M Q _ => ∃ d h ps, ds = [d] ∧ CvD (h + 1) d ps ∧ ∀ es : List (D × List D), (∀ e ∈ es, CvD h e.1 e.2) → ps = d :: (es.map (·.2)).flatten → Q (.tup (es.map (·.1))) M
theorem h_inn : ∀ ds M Q E, ds.length = 1 → spInn ds M Q E → dSs E c_inner_of { nx := fun _ M' => Q .non M', rt := Q } (startD n_inner_of.length ds) M := by
  rintro ds M Q E hl ⟨d, h, ps, rfl, cv, q⟩
  show dSs E c_inner_of _ [some d] M
  unfold c_inner_of
  cases cv with
  | @lf _ s r hs =>
    have hs' : s ∈ ["all", "none", "is"] := hs
    simp only [dSs, dS, dT, dE, dEs, dTO, dTA, dAnd, dOr, dIt, dIf, gTg, gTgs, wipeD, List.map_cons, List.map_nil, getS_z, getS_s, List.set_cons_zero, List.set_cons_succ, ty_non, ty_bl, ty_int, ty_str, ty_tup, ty_lst, tk1, tk2, tk3, tk4, tk5, tk6, tk7, tk8, tk9, tk10, tk11, tk12, tk13, tk14, tk15, tk16, tk17, tk18, tk19, tk20, w_truB, w_truI, w_truN, w_truL, w_truT, w_is, w_isn, isNon_non, isNon_bl, isNon_int, isNon_str, isNon_lst, isNon_tup, w_add, w_addS, w_addT, w_addL, w_sub, w_mul, w_mod, w_fdiv, w_pow, w_neg, w_eqI, w_neI, w_eqS, w_neS, w_eqB, w_neB, w_lt, w_le, w_gt, w_ge, w_int, w_abs, w_lenL, w_lenT, w_lenS, w_tupL, w_rng1, w_in2, w_in3, bne_self, Bool.not_true, Bool.not_false, Bool.or_false, Bool.false_or, Bool.or_true, Bool.true_or, decide_true, decide_false, and_true, true_and, w_ixT at_0, decide_eq_true hs']
    exact q [] (fun e he => by cases he) rfl
  | @un _ w e ps hw hc =>
    have h1 : w ∉ ["all", "none", "is"] ∧ w ∉ ["and", "or"] := by
      simp only [unL, List.mem_cons, List.not_mem_nil, or_false] at hw
      rcases hw with rfl | rfl | rfl | rfl | rfl | rfl | rfl <;> exact ⟨by decide, by decide⟩
    simp only [dSs, dS, dT, dE, dEs, dTO, dTA, dAnd, dOr, dIt, dIf, gTg, gTgs, wipeD, List.map_cons, List.map_nil, getS_z, getS_s, List.set_cons_zero, List.set_cons_succ, ty_non, ty_bl, ty_int, ty_str, ty_tup, ty_lst, tk1, tk2, tk3, tk4, tk5, tk6, tk7, tk8, tk9, tk10, tk11, tk12, tk13, tk14, tk15, tk16, tk17, tk18, tk19, tk20, w_truB, w_truI, w_truN, w_truL, w_truT, w_is, w_isn, isNon_non, isNon_bl, isNon_int, isNon_str, isNon_lst, isNon_tup, w_add, w_addS, w_addT, w_addL, w_sub, w_mul, w_mod, w_fdiv, w_pow, w_neg, w_eqI, w_neI, w_eqS, w_neS, w_eqB, w_neB, w_lt, w_le, w_gt, w_ge, w_int, w_abs, w_lenL, w_lenT, w_lenS, w_tupL, w_rng1, w_in2, w_in3, bne_self, Bool.not_true, Bool.not_false, Bool.or_false, Bool.false_or, Bool.or_true, Bool.true_or, decide_true, decide_false, and_true, true_and, w_ixT at_0, w_ixT at_1, decide_eq_false h1.1, decide_eq_false h1.2]
    exact q [(e, ps)] (fun x hx => by rw [List.mem_singleton] at hx; subst hx; exact hc) (by simp)
  | @nr _ k es hk hc =>
    have h1 : k ∉ ["all", "none", "is"] ∧ k ∈ ["and", "or"] := by rcases hk with rfl | rfl <;> exact ⟨by decide, by decide⟩
    simp only [dSs, dS, dT, dE, dEs, dTO, dTA, dAnd, dOr, dIt, dIf, gTg, gTgs, wipeD, List.map_cons, List.map_nil, getS_z, getS_s, List.set_cons_zero, List.set_cons_succ, ty_non, ty_bl, ty_int, ty_str, ty_tup, ty_lst, tk1, tk2, tk3, tk4, tk5, tk6, tk7, tk8, tk9, tk10, tk11, tk12, tk13, tk14, tk15, tk16, tk17, tk18, tk19, tk20, w_truB, w_truI, w_truN, w_truL, w_truT, w_is, w_isn, isNon_non, isNon_bl, isNon_int, isNon_str, isNon_lst, isNon_tup, w_add, w_addS, w_addT, w_addL, w_sub, w_mul, w_mod, w_fdiv, w_pow, w_neg, w_eqI, w_neI, w_eqS, w_neS, w_eqB, w_neB, w_lt, w_le, w_gt, w_ge, w_int, w_abs, w_lenL, w_lenT, w_lenS, w_tupL, w_rng1, w_in2, w_in3, bne_self, Bool.not_true, Bool.not_false, Bool.or_false, Bool.false_or, Bool.or_true, Bool.true_or, decide_true, decide_false, and_true, true_and, w_ixT at_0, w_ixT at_1, decide_eq_false h1.1, decide_eq_true h1.2]
    exact q es hc rfl
def spPo (n : Nat) : Spec := fun ds M Q _ => ∃ d ps, ds = [d] ∧ CvD n d ps ∧ ps.length ≤ 1000000 ∧ Q (.lst ps) M
theorem h_po (n : Nat) : ∀ ds M Q E, ds.length = 1 → spPo (n + 1) ds M Q E → dSs E (c_parts_of spInn (spPo n)) { nx := fun _ M' => Q .non M', rt := Q } (startD n_parts_of.length ds) M := by
  rintro ds M Q E hl ⟨d, ps, rfl, cv, hs, q⟩
  show dSs E (c_parts_of spInn (spPo n)) _ [some d, none, none] M
  unfold c_parts_of
  have ll : line = 16777216 := rfl
  simp only [dSs, dS, dT, dE, dEs, dTO, dTA, dAnd, dOr, dIt, dIf, gTg, gTgs, wipeD, List.map_cons, List.map_nil, getS_z, getS_s, List.set_cons_zero, List.set_cons_succ, ty_non, ty_bl, ty_int, ty_str, ty_tup, ty_lst, tk1, tk2, tk3, tk4, tk5, tk6, tk7, tk8, tk9, tk10, tk11, tk12, tk13, tk14, tk15, tk16, tk17, tk18, tk19, tk20, w_truB, w_truI, w_truN, w_truL, w_truT, w_is, w_isn, isNon_non, isNon_bl, isNon_int, isNon_str, isNon_lst, isNon_tup, w_add, w_addS, w_addT, w_addL, w_sub, w_mul, w_mod, w_fdiv, w_pow, w_neg, w_eqI, w_neI, w_eqS, w_neS, w_eqB, w_neB, w_lt, w_le, w_gt, w_ge, w_int, w_abs, w_lenL, w_lenT, w_lenS, w_tupL, w_rng1, w_in2, w_in3, bne_self, Bool.not_true, Bool.not_false, Bool.or_false, Bool.false_or, Bool.or_true, Bool.true_or, decide_true, decide_false, and_true, true_and]
  intro p hp
  refine ⟨d, n, ps, rfl, cv, fun es he ep => ?_⟩
  rw [ep, List.length_cons] at hs
  have tk : ∀ j, (((es.take j).map (·.2)).flatten).length ≤ ((es.map (·.2)).flatten).length := fun j => by
    conv => rhs; rw [← List.take_append_drop j es, List.map_append, List.flatten_append, List.length_append]
    omega
  simp only [it_T]
  refine forGo_inv (fun j σ M' => ∃ o : Option D, σ = [some d, some (.ptr p), o] ∧ M' = M.put p (.lst (d :: ((es.take j).map (·.2)).flatten))) _ (fun _ _ _ _ => trivial) ?_ ?_ ?_
  · rintro j x σ M2 nx hx ⟨o, rfl, rfl⟩ hn
    obtain ⟨e, ee, rfl⟩ : ∃ e, es[j]? = some e ∧ x = e.1 := map_at (f := fun e : D × List D => e.1) hx
    have et : es.take (j + 1) = es.take j ++ [e] := by rw [List.take_succ, ee]; rfl
    have t1 := tk (j + 1)
    have ef : ((es.take (j + 1)).map (·.2)).flatten = ((es.take j).map (·.2)).flatten ++ e.2 := by rw [et, List.map_append, List.flatten_append]; simp
    rw [ef, List.length_append] at t1
    have hP : (M.put p (.lst (d :: ((es.take j).map (·.2)).flatten))) p = some (.lst (d :: ((es.take j).map (·.2)).flatten)) := put_same
    simp only [dSs, dS, dT, dE, dEs, dTO, dTA, dAnd, dOr, dIt, dIf, gTg, gTgs, wipeD, List.map_cons, List.map_nil, getS_z, getS_s, List.set_cons_zero, List.set_cons_succ, ty_non, ty_bl, ty_int, ty_str, ty_tup, ty_lst, tk1, tk2, tk3, tk4, tk5, tk6, tk7, tk8, tk9, tk10, tk11, tk12, tk13, tk14, tk15, tk16, tk17, tk18, tk19, tk20, w_truB, w_truI, w_truN, w_truL, w_truT, w_is, w_isn, isNon_non, isNon_bl, isNon_int, isNon_str, isNon_lst, isNon_tup, w_add, w_addS, w_addT, w_addL, w_sub, w_mul, w_mod, w_fdiv, w_pow, w_neg, w_eqI, w_neI, w_eqS, w_neS, w_eqB, w_neB, w_lt, w_le, w_gt, w_ge, w_int, w_abs, w_lenL, w_lenT, w_lenS, w_tupL, w_rng1, w_in2, w_in3, bne_self, Bool.not_true, Bool.not_false, Bool.or_false, Bool.false_or, Bool.or_true, Bool.true_or, decide_true, decide_false, and_true, true_and]
    refine ⟨by show (asL _ (.ptr p)).isSome = true; rw [asL_ptr hP]; rfl, e.1, e.2, rfl, he e (List.mem_of_getElem? ee), by omega, ?_⟩
    simp only [w_ext hP, List.length_cons, put_put]
    refine ⟨by omega, ?_⟩
    refine hn _ _ ⟨_, rfl, ?_⟩
    rw [ef]; rfl
  · exact ⟨none, rfl, rfl⟩
  · rintro σ M2 ⟨o, rfl, rfl⟩
    rw [List.length_map, List.take_length]
    refine ⟨_, _, ⟨p, _, rfl, put_same, rfl, rfl⟩, ?_⟩
    simp only [dSs, dS, dT, dE, dEs, dTO, dTA, dAnd, dOr, dIt, dIf, gTg, gTgs, wipeD, List.map_cons, List.map_nil, getS_z, getS_s, List.set_cons_zero, List.set_cons_succ, ty_non, ty_bl, ty_int, ty_str, ty_tup, ty_lst, tk1, tk2, tk3, tk4, tk5, tk6, tk7, tk8, tk9, tk10, tk11, tk12, tk13, tk14, tk15, tk16, tk17, tk18, tk19, tk20, w_truB, w_truI, w_truN, w_truL, w_truT, w_is, w_isn, isNon_non, isNon_bl, isNon_int, isNon_str, isNon_lst, isNon_tup, w_add, w_addS, w_addT, w_addL, w_sub, w_mul, w_mod, w_fdiv, w_pow, w_neg, w_eqI, w_neI, w_eqS, w_neS, w_eqB, w_neB, w_lt, w_le, w_gt, w_ge, w_int, w_abs, w_lenL, w_lenT, w_lenS, w_tupL, w_rng1, w_in2, w_in3, bne_self, Bool.not_true, Bool.not_false, Bool.or_false, Bool.false_or, Bool.or_true, Bool.true_or, decide_true, decide_false, and_true, true_and, del_put hp]
    rw [ep] at q
    exact q
def spParseC (n : Nat) : Spec := fun ds M Q E => ∃ (t : String) (ts : List Tk) (o : Option Nat), ds = [.str t] ∧ t.length ≤ 100000 ∧ LexO sgC t.toList 0 ts o ∧
  (∀ e, o = some e → ∀ M', Dr M M' → E "TextError" (errF "unknown character" e) M') ∧
  (o = none → RdOk t.length ts ∧ Wk ts ∧ ∃ b c vs ps, Pc 2 n (rst ts 0) b c vs ∧ (b = true → CvD (n + 2) (joD "or" vs) ps ∧ ps.length ≤ 1000000) ∧
    (b = false → ∀ M', Dr M M' → ErrK t.length ts c M' E) ∧ (b = true → c < ts.length → ∀ M', Dr M M' → ErrK t.length ts c M' E) ∧
    (b = true → c = ts.length → (12 < ps.length → ∀ M', Dr M M' → E "TextError" (errF "too many parts" (spotK t.length ts[0]?)) M') ∧ (ps.length ≤ 12 → 4 < (ps.filter lkD).length → ∀ M', Dr M M' → E "TextError" (errF "too many looks" (spotK t.length ts[0]?)) M') ∧
      (ps.length ≤ 12 → (ps.filter lkD).length ≤ 4 → ∀ M', Dr M M' → Q (joD "or" vs) M')))
theorem h_parse (n : Nat) : ∀ ds M Q E, ds.length = 1 → spParseC n ds M Q E → dSs E (c_parse_condition spRInit spSpot (spPc 2 n) spKind spFail (spPo (n + 2))) { nx := fun _ M' => Q .non M', rt := Q } (startD n_parse_condition.length ds) M := by
  rintro ds M Q E hl ⟨t, ts, o, rfl, ht, lx, bad0, fin⟩
  show dSs E (c_parse_condition spRInit spSpot (spPc 2 n) spKind spFail (spPo (n + 2))) _ [some (.str t), none, none, none, none, none] M
  unfold c_parse_condition
  have ll : line = 16777216 := rfl
  have tlen : ts.length ≤ 100000 := by have := lx.len; rw [String.length_toList] at this; omega
  simp only [dSs, dS, dT, dE, dEs, dTO, dTA, dAnd, dOr, dIt, dIf, gTg, gTgs, wipeD, List.map_cons, List.map_nil, getS_z, getS_s, List.set_cons_zero, List.set_cons_succ, ty_non, ty_bl, ty_int, ty_str, ty_tup, ty_lst, tk1, tk2, tk3, tk4, tk5, tk6, tk7, tk8, tk9, tk10, tk11, tk12, tk13, tk14, tk15, tk16, tk17, tk18, tk19, tk20, w_truB, w_truI, w_truN, w_truL, w_truT, w_is, w_isn, isNon_non, isNon_bl, isNon_int, isNon_str, isNon_lst, isNon_tup, w_add, w_addS, w_addT, w_addL, w_sub, w_mul, w_mod, w_fdiv, w_pow, w_neg, w_eqI, w_neI, w_eqS, w_neS, w_eqB, w_neB, w_lt, w_le, w_gt, w_ge, w_int, w_abs, w_lenL, w_lenT, w_lenS, w_tupL, w_rng1, w_in2, w_in3, bne_self, Bool.not_true, Bool.not_false, Bool.or_false, Bool.false_or, Bool.or_true, Bool.true_or, decide_true, decide_false, and_true, true_and]
  intro p hp
  have old : ∀ x, M x ≠ none → x ≠ p := fun x hx e => by subst e; exact hx hp
  refine ⟨p, t, "()", ts, o, rfl, put_same, ht, by decide, by decide, sgC_ok, lx, fun eo => ?_, fun e eo M' ad => ?_⟩
  case refine_2 =>
    refine bad0 e eo M' fun x hx => ?_
    have xp := old x hx
    rw [ad x xp (by rw [put_ne xp]; exact hx), put_ne xp]
  obtain ⟨ok, W, b, c, vs, ps, hg, hcv, bad1, bad2, fin⟩ := fin eo
  refine ⟨rfl, ?_⟩
  rw [put_put]
  have hM1 : (M.put p (rdO t.length ts 0)) p = some (rdO t.length ts 0) := put_same
  have dr1 : ∀ {M'}, Adv p (M.put p (rdO t.length ts 0)) M' → Dr M M' := fun {M'} a x hx => by
    have xp := old x hx
    rw [a x xp (by rw [put_ne xp]; exact hx), put_ne xp]
  simp only [dSs, dS, dT, dE, dEs, dTO, dTA, dAnd, dOr, dIt, dIf, gTg, gTgs, wipeD, List.map_cons, List.map_nil, getS_z, getS_s, List.set_cons_zero, List.set_cons_succ, ty_non, ty_bl, ty_int, ty_str, ty_tup, ty_lst, tk1, tk2, tk3, tk4, tk5, tk6, tk7, tk8, tk9, tk10, tk11, tk12, tk13, tk14, tk15, tk16, tk17, tk18, tk19, tk20, w_truB, w_truI, w_truN, w_truL, w_truT, w_is, w_isn, isNon_non, isNon_bl, isNon_int, isNon_str, isNon_lst, isNon_tup, w_add, w_addS, w_addT, w_addL, w_sub, w_mul, w_mod, w_fdiv, w_pow, w_neg, w_eqI, w_neI, w_eqS, w_neS, w_eqB, w_neB, w_lt, w_le, w_gt, w_ge, w_int, w_abs, w_lenL, w_lenT, w_lenS, w_tupL, w_rng1, w_in2, w_in3, bne_self, Bool.not_true, Bool.not_false, Bool.or_false, Bool.false_or, Bool.or_true, Bool.true_or, decide_true, decide_false, and_true, true_and, rd_asI hM1, rd_m3]
  refine ⟨p, _, ts, 0, rfl, hM1, ?_⟩
  simp only [dSs, dS, dT, dE, dEs, dTO, dTA, dAnd, dOr, dIt, dIf, gTg, gTgs, wipeD, List.map_cons, List.map_nil, getS_z, getS_s, List.set_cons_zero, List.set_cons_succ, ty_non, ty_bl, ty_int, ty_str, ty_tup, ty_lst, tk1, tk2, tk3, tk4, tk5, tk6, tk7, tk8, tk9, tk10, tk11, tk12, tk13, tk14, tk15, tk16, tk17, tk18, tk19, tk20, w_truB, w_truI, w_truN, w_truL, w_truT, w_is, w_isn, isNon_non, isNon_bl, isNon_int, isNon_str, isNon_lst, isNon_tup, w_add, w_addS, w_addT, w_addL, w_sub, w_mul, w_mod, w_fdiv, w_pow, w_neg, w_eqI, w_neI, w_eqS, w_neS, w_eqB, w_neB, w_lt, w_le, w_gt, w_ge, w_int, w_abs, w_lenL, w_lenT, w_lenS, w_tupL, w_rng1, w_in2, w_in3, bne_self, Bool.not_true, Bool.not_false, Bool.or_false, Bool.false_or, Bool.or_true, Bool.true_or, decide_true, decide_false, and_true, true_and]
  have hst := ok.spot 0
  generalize spotK t.length ts[0]? = a0 at hst fin ⊢
  refine ⟨p, _, ts, 0, b, c, vs, rfl, hM1, ok, W, Nat.zero_le _, tlen, hg, fun hb M2 h2 a2 => ?_, fun hb M2 a2 => ?_⟩
  case refine_2 =>
    rw [Nat.zero_add]
    exact bad1 hb M2 (dr1 a2)
  rw [Nat.zero_add] at h2
  have ev : vaD 2 vs = joD "or" vs := rfl
  simp only [dSs, dS, dT, dE, dEs, dTO, dTA, dAnd, dOr, dIt, dIf, gTg, gTgs, wipeD, List.map_cons, List.map_nil, getS_z, getS_s, List.set_cons_zero, List.set_cons_succ, ty_non, ty_bl, ty_int, ty_str, ty_tup, ty_lst, tk1, tk2, tk3, tk4, tk5, tk6, tk7, tk8, tk9, tk10, tk11, tk12, tk13, tk14, tk15, tk16, tk17, tk18, tk19, tk20, w_truB, w_truI, w_truN, w_truL, w_truT, w_is, w_isn, isNon_non, isNon_bl, isNon_int, isNon_str, isNon_lst, isNon_tup, w_add, w_addS, w_addT, w_addL, w_sub, w_mul, w_mod, w_fdiv, w_pow, w_neg, w_eqI, w_neI, w_eqS, w_neS, w_eqB, w_neB, w_lt, w_le, w_gt, w_ge, w_int, w_abs, w_lenL, w_lenT, w_lenS, w_tupL, w_rng1, w_in2, w_in3, bne_self, Bool.not_true, Bool.not_false, Bool.or_false, Bool.false_or, Bool.or_true, Bool.true_or, decide_true, decide_false, and_true, true_and, rd_asI h2, rd_m1, ev]
  refine ⟨p, _, ts, c, rfl, h2, ?_⟩
  have cl := hg.le.1
  have rl : (rst ts 0).length = ts.length := by unfold rst; rw [List.drop_zero, List.length_map]
  rw [rl] at cl
  by_cases hc : c = ts.length
  · have en : ts[c]? = none := List.getElem?_eq_none_iff.mpr (by omega)
    rw [en]
    obtain ⟨cv, pl⟩ := hcv hb
    obtain ⟨f1, f2, f3⟩ := fin hb hc
    simp only [dSs, dS, dT, dE, dEs, dTO, dTA, dAnd, dOr, dIt, dIf, gTg, gTgs, wipeD, List.map_cons, List.map_nil, getS_z, getS_s, List.set_cons_zero, List.set_cons_succ, ty_non, ty_bl, ty_int, ty_str, ty_tup, ty_lst, tk1, tk2, tk3, tk4, tk5, tk6, tk7, tk8, tk9, tk10, tk11, tk12, tk13, tk14, tk15, tk16, tk17, tk18, tk19, tk20, w_truB, w_truI, w_truN, w_truL, w_truT, w_is, w_isn, isNon_non, isNon_bl, isNon_int, isNon_str, isNon_lst, isNon_tup, w_add, w_addS, w_addT, w_addL, w_sub, w_mul, w_mod, w_fdiv, w_pow, w_neg, w_eqI, w_neI, w_eqS, w_neS, w_eqB, w_neB, w_lt, w_le, w_gt, w_ge, w_int, w_abs, w_lenL, w_lenT, w_lenS, w_tupL, w_rng1, w_in2, w_in3, bne_self, Bool.not_true, Bool.not_false, Bool.or_false, Bool.false_or, Bool.or_true, Bool.true_or, decide_true, decide_false, and_true, true_and, kindK, show decide ("end" = "end") = true by decide]
    refine ⟨_, ps, rfl, cv, pl, ?_⟩
    simp only [dSs, dS, dT, dE, dEs, dTO, dTA, dAnd, dOr, dIt, dIf, gTg, gTgs, wipeD, List.map_cons, List.map_nil, getS_z, getS_s, List.set_cons_zero, List.set_cons_succ, ty_non, ty_bl, ty_int, ty_str, ty_tup, ty_lst, tk1, tk2, tk3, tk4, tk5, tk6, tk7, tk8, tk9, tk10, tk11, tk12, tk13, tk14, tk15, tk16, tk17, tk18, tk19, tk20, w_truB, w_truI, w_truN, w_truL, w_truT, w_is, w_isn, isNon_non, isNon_bl, isNon_int, isNon_str, isNon_lst, isNon_tup, w_add, w_addS, w_addT, w_addL, w_sub, w_mul, w_mod, w_fdiv, w_pow, w_neg, w_eqI, w_neI, w_eqS, w_neS, w_eqB, w_neB, w_lt, w_le, w_gt, w_ge, w_int, w_abs, w_lenL, w_lenT, w_lenS, w_tupL, w_rng1, w_in2, w_in3, bne_self, Bool.not_true, Bool.not_false, Bool.or_false, Bool.false_or, Bool.or_true, Bool.true_or, decide_true, decide_false, and_true, true_and, g_PARTS_MOST]
    by_cases h12 : 12 < ps.length
    · simp only [decide_eq_true (show ((12 : Int) < (ps.length : Int)) by omega), dSs, dS, dT, dE, dEs, dTO, dTA, dAnd, dOr, dIt, dIf, gTg, gTgs, wipeD, List.map_cons, List.map_nil, getS_z, getS_s, List.set_cons_zero, List.set_cons_succ, ty_non, ty_bl, ty_int, ty_str, ty_tup, ty_lst, tk1, tk2, tk3, tk4, tk5, tk6, tk7, tk8, tk9, tk10, tk11, tk12, tk13, tk14, tk15, tk16, tk17, tk18, tk19, tk20, w_truB, w_truI, w_truN, w_truL, w_truT, w_is, w_isn, isNon_non, isNon_bl, isNon_int, isNon_str, isNon_lst, isNon_tup, w_add, w_addS, w_addT, w_addL, w_sub, w_mul, w_mod, w_fdiv, w_pow, w_neg, w_eqI, w_neI, w_eqS, w_neS, w_eqB, w_neB, w_lt, w_le, w_gt, w_ge, w_int, w_abs, w_lenL, w_lenT, w_lenS, w_tupL, w_rng1, w_in2, w_in3, bne_self, Bool.not_true, Bool.not_false, Bool.or_false, Bool.false_or, Bool.or_true, Bool.true_or, decide_true, decide_false, and_true, true_and]
      exact w_raise hst (by decide) (f1 h12 M2 (dr1 a2))
    simp only [decide_eq_false (show ¬ ((12 : Int) < (ps.length : Int)) by omega), dSs, dS, dT, dE, dEs, dTO, dTA, dAnd, dOr, dIt, dIf, gTg, gTgs, wipeD, List.map_cons, List.map_nil, getS_z, getS_s, List.set_cons_zero, List.set_cons_succ, ty_non, ty_bl, ty_int, ty_str, ty_tup, ty_lst, tk1, tk2, tk3, tk4, tk5, tk6, tk7, tk8, tk9, tk10, tk11, tk12, tk13, tk14, tk15, tk16, tk17, tk18, tk19, tk20, w_truB, w_truI, w_truN, w_truL, w_truT, w_is, w_isn, isNon_non, isNon_bl, isNon_int, isNon_str, isNon_lst, isNon_tup, w_add, w_addS, w_addT, w_addL, w_sub, w_mul, w_mod, w_fdiv, w_pow, w_neg, w_eqI, w_neI, w_eqS, w_neS, w_eqB, w_neB, w_lt, w_le, w_gt, w_ge, w_int, w_abs, w_lenL, w_lenT, w_lenS, w_tupL, w_rng1, w_in2, w_in3, bne_self, Bool.not_true, Bool.not_false, Bool.or_false, Bool.false_or, Bool.or_true, Bool.true_or, decide_true, decide_false, and_true, true_and, it_L]
    refine lcGo_map (fun M' => M' = M2) phL (fun _ _ => trivial) _ _ M2 _ (fun x hx M' k e hk2 => ?_) rfl fun M' e => ?_
    · subst e
      obtain ⟨r, er⟩ := cv.parts x hx
      have e0 : ∀ (M : Store) (Q : DK), wIx x (.int 0) M Q = Q (.str (hdD x)) M := fun M Q => by
        generalize hdD x = hx' at er
        rw [er]; exact w_ixT at_0
      have el : ∀ (M : Store) (Q : DK) (s : String), wCmp .in_ (.str s) g_LOOKS M Q = Q (.bl (decide (s ∈ lkL))) M := fun M Q s => w_in lkL
      simp only [dSs, dS, dT, dE, dEs, dTO, dTA, dAnd, dOr, dIt, dIf, gTg, gTgs, wipeD, List.map_cons, List.map_nil, getS_z, getS_s, List.set_cons_zero, List.set_cons_succ, ty_non, ty_bl, ty_int, ty_str, ty_tup, ty_lst, tk1, tk2, tk3, tk4, tk5, tk6, tk7, tk8, tk9, tk10, tk11, tk12, tk13, tk14, tk15, tk16, tk17, tk18, tk19, tk20, w_truB, w_truI, w_truN, w_truL, w_truT, w_is, w_isn, isNon_non, isNon_bl, isNon_int, isNon_str, isNon_lst, isNon_tup, w_add, w_addS, w_addT, w_addL, w_sub, w_mul, w_mod, w_fdiv, w_pow, w_neg, w_eqI, w_neI, w_eqS, w_neS, w_eqB, w_neB, w_lt, w_le, w_gt, w_ge, w_int, w_abs, w_lenL, w_lenT, w_lenS, w_tupL, w_rng1, w_in2, w_in3, bne_self, Bool.not_true, Bool.not_false, Bool.or_false, Bool.false_or, Bool.or_true, Bool.true_or, decide_true, decide_false, and_true, true_and, e0, el]
      have := hk2 M' rfl
      unfold phL lkD at this
      cases hh : decide (hdD x ∈ lkL) with
      | true => rw [hh, if_pos rfl] at this; exact this
      | false => rw [hh, if_neg Bool.false_ne_true] at this; exact this
    · subst e
      refine .inl ?_
      rw [List.nil_append]
      have pl2 := phL_len ps
      simp only [dSs, dS, dT, dE, dEs, dTO, dTA, dAnd, dOr, dIt, dIf, gTg, gTgs, wipeD, List.map_cons, List.map_nil, getS_z, getS_s, List.set_cons_zero, List.set_cons_succ, ty_non, ty_bl, ty_int, ty_str, ty_tup, ty_lst, tk1, tk2, tk3, tk4, tk5, tk6, tk7, tk8, tk9, tk10, tk11, tk12, tk13, tk14, tk15, tk16, tk17, tk18, tk19, tk20, w_truB, w_truI, w_truN, w_truL, w_truT, w_is, w_isn, isNon_non, isNon_bl, isNon_int, isNon_str, isNon_lst, isNon_tup, w_add, w_addS, w_addT, w_addL, w_sub, w_mul, w_mod, w_fdiv, w_pow, w_neg, w_eqI, w_neI, w_eqS, w_neS, w_eqB, w_neB, w_lt, w_le, w_gt, w_ge, w_int, w_abs, w_lenL, w_lenT, w_lenS, w_tupL, w_rng1, w_in2, w_in3, bne_self, Bool.not_true, Bool.not_false, Bool.or_false, Bool.false_or, Bool.or_true, Bool.true_or, decide_true, decide_false, and_true, true_and, g_LOOKS_MOST, pl2]
      by_cases h4 : 4 < (ps.filter lkD).length
      · simp only [decide_eq_true (show ((4 : Int) < ((ps.filter lkD).length : Int)) by omega), dSs, dS, dT, dE, dEs, dTO, dTA, dAnd, dOr, dIt, dIf, gTg, gTgs, wipeD, List.map_cons, List.map_nil, getS_z, getS_s, List.set_cons_zero, List.set_cons_succ, ty_non, ty_bl, ty_int, ty_str, ty_tup, ty_lst, tk1, tk2, tk3, tk4, tk5, tk6, tk7, tk8, tk9, tk10, tk11, tk12, tk13, tk14, tk15, tk16, tk17, tk18, tk19, tk20, w_truB, w_truI, w_truN, w_truL, w_truT, w_is, w_isn, isNon_non, isNon_bl, isNon_int, isNon_str, isNon_lst, isNon_tup, w_add, w_addS, w_addT, w_addL, w_sub, w_mul, w_mod, w_fdiv, w_pow, w_neg, w_eqI, w_neI, w_eqS, w_neS, w_eqB, w_neB, w_lt, w_le, w_gt, w_ge, w_int, w_abs, w_lenL, w_lenT, w_lenS, w_tupL, w_rng1, w_in2, w_in3, bne_self, Bool.not_true, Bool.not_false, Bool.or_false, Bool.false_or, Bool.or_true, Bool.true_or, decide_true, decide_false, and_true, true_and]
        exact w_raise hst (by decide) (f2 (by omega) h4 M' (dr1 a2))
      · simp only [decide_eq_false (show ¬ ((4 : Int) < ((ps.filter lkD).length : Int)) by omega), dSs, dS, dT, dE, dEs, dTO, dTA, dAnd, dOr, dIt, dIf, gTg, gTgs, wipeD, List.map_cons, List.map_nil, getS_z, getS_s, List.set_cons_zero, List.set_cons_succ, ty_non, ty_bl, ty_int, ty_str, ty_tup, ty_lst, tk1, tk2, tk3, tk4, tk5, tk6, tk7, tk8, tk9, tk10, tk11, tk12, tk13, tk14, tk15, tk16, tk17, tk18, tk19, tk20, w_truB, w_truI, w_truN, w_truL, w_truT, w_is, w_isn, isNon_non, isNon_bl, isNon_int, isNon_str, isNon_lst, isNon_tup, w_add, w_addS, w_addT, w_addL, w_sub, w_mul, w_mod, w_fdiv, w_pow, w_neg, w_eqI, w_neI, w_eqS, w_neS, w_eqB, w_neB, w_lt, w_le, w_gt, w_ge, w_int, w_abs, w_lenL, w_lenT, w_lenS, w_tupL, w_rng1, w_in2, w_in3, bne_self, Bool.not_true, Bool.not_false, Bool.or_false, Bool.false_or, Bool.or_true, Bool.true_or, decide_true, decide_false, and_true, true_and]
        exact f3 (by omega) (by omega) M' (dr1 a2)
  · have lt : c < ts.length := by omega
    have ex : ts[c]? = some ts[c] := List.getElem?_eq_getElem lt
    have kn : decide (kindK ts[c]? = "end") = false := by rw [ex]; show decide (kindT ts[c].w = "end") = false; cases ts[c].w <;> decide
    simp only [kn, dSs, dS, dT, dE, dEs, dTO, dTA, dAnd, dOr, dIt, dIf, gTg, gTgs, wipeD, List.map_cons, List.map_nil, getS_z, getS_s, List.set_cons_zero, List.set_cons_succ, ty_non, ty_bl, ty_int, ty_str, ty_tup, ty_lst, tk1, tk2, tk3, tk4, tk5, tk6, tk7, tk8, tk9, tk10, tk11, tk12, tk13, tk14, tk15, tk16, tk17, tk18, tk19, tk20, w_truB, w_truI, w_truN, w_truL, w_truT, w_is, w_isn, isNon_non, isNon_bl, isNon_int, isNon_str, isNon_lst, isNon_tup, w_add, w_addS, w_addT, w_addL, w_sub, w_mul, w_mod, w_fdiv, w_pow, w_neg, w_eqI, w_neI, w_eqS, w_neS, w_eqB, w_neB, w_lt, w_le, w_gt, w_ge, w_int, w_abs, w_lenL, w_lenT, w_lenS, w_tupL, w_rng1, w_in2, w_in3, bne_self, Bool.not_true, Bool.not_false, Bool.or_false, Bool.false_or, Bool.or_true, Bool.true_or, decide_true, decide_false, and_true, true_and, rd_asI h2, rd_m4]
    exact ⟨p, _, ts, c, rfl, h2, ok, bad2 hb lt M2 (dr1 a2)⟩
end K46
end VS

namespace VS
open PySem PySem.Spec PyProof.Rows L2
namespace K46
theorem h_draw : ∀ ds M Q E, ds.length = 1 → spDraw ds M Q E → dSs E c_law_draw { nx := fun _ M' => Q .non M', rt := Q } (startD n_law_draw.length ds) M := by
  rintro ds M Q E hl ⟨ns, rfl, h63, q⟩
  refine .inl ?_
  intro p hp
  exact q p _ hp (fun a ha => put_ne ha) ⟨ns, 0, 0, 17, put_same, by decide, by decide, by decide, by decide, h63⟩
theorem h_next : ∀ ds M Q E, ds.length = 2 → spNext ds M Q E → dSs E c_law_next { nx := fun _ M' => Q .non M', rt := Q } (startD n_law_next.length ds) M := by
  rintro ds M Q E hl ⟨d, m, rfl, m0, m1, ⟨cells, i, p, s, hM, i0, p0, s0, s1, hc⟩, q⟩
  show dSs E c_law_next _ [some (.ptr d), some (.int m), none, none] M
  have c1 : ∀ x : Int, CMul x 48271 := fun x => .inr (by decide)
  have c2 : ∀ x : Int, CMul x 69621 := fun x => .inr (by decide)
  have fin : ∀ (M' : Store) (cells : List Int) (i p s : Int), (∀ a, a ≠ d → M' a = M a) → M' d = some (.lst [.lst (cells.map D.int), .int i, .int p, .int s]) → 0 ≤ i → 0 ≤ p → 0 ≤ s → s < 2147483648 → cells.length ≤ 63 → Q (.int (s * 69621 % 2147483629 / 7 % m)) M' :=
    fun M' cells i p s ho hM i0 p0 s0 s1 hc => q _ M' (Int.emod_nonneg _ (by omega)) (Int.emod_lt_of_pos _ m0) ⟨cells, i, p, s, hM, i0, p0, s0, s1, hc⟩ ho
  unfold c_law_next
  simp only [dSs, dS, dT, dE, dEs, getS_z, getS_s, List.set_cons_zero, List.set_cons_succ, w_ixP hM at_0, w_ixP hM at_1, w_ixP hM at_2, w_ixP hM at_3, w_gt, w_lt, w_ge, w_truB, w_int, w_mod, w_fdiv, w_mul, w_add, w_lenL, w_pow, w_abs, m0, c1, c2, true_and]
  by_cases hp : 0 < p
  · simp only [decide_eq_true hp]
    refine ⟨by omega, ?_⟩
    rw [w_stoP hM (k := 2) (by rfl)]
    exact q _ _ (Int.emod_nonneg _ (by omega)) (Int.emod_lt_of_pos _ m0) ⟨cells, i, p / m, s, put_same, i0, Int.ediv_nonneg p0 (by omega), s0, s1, hc⟩ (fun a ha => put_ne ha)
  · simp only [decide_eq_false hp]
    by_cases hi : i < ((cells.map D.int).length : Nat)
    · simp only [decide_eq_true hi]
      have hi' : i.toNat < cells.length := by rw [List.length_map] at hi; omega
      have ei : ((i.toNat : Nat) : Int) = i := by omega
      have hx : atI (cells.map D.int) i = some (.int cells[i.toNat]) := by
        have z : atI (cells.map D.int) ((i.toNat : Nat) : Int) = some (.int cells[i.toNat]) := atI_natD (by rw [List.getElem?_map, List.getElem?_eq_getElem hi']; rfl)
        rw [ei] at z
        exact z
      rw [w_ixL hx]
      simp only [w_abs, w_ixP hM at_1, w_add]
      rw [w_stoP hM (k := 1) (by rfl)]
      simp only [List.set_cons_succ, List.set_cons_zero]
      generalize ea : (if cells[i.toNat] < 0 then -cells[i.toNat] else cells[i.toNat]) = x
      have x0 : 0 ≤ x := by rw [← ea]; split <;> omega
      have hM1 : (M.put d (.lst [.lst (cells.map D.int), .int (i + 1), .int p, .int s])) d = some (.lst [.lst (cells.map D.int), .int (i + 1), .int p, .int s]) := put_same
      refine ⟨by decide, ?_⟩
      simp only [w_ge, w_truB]
      by_cases hx : (10 : Int) ^ Int.toNat 18 ≤ x
      · simp only [decide_eq_true hx]
        simp only [w_fdiv, m0, true_and]
        refine ⟨by omega, ?_⟩
        rw [w_stoP hM1 (k := 2) (by rfl)]
        simp only [w_int, w_mod, m0, true_and]
        exact q _ _ (Int.emod_nonneg _ (by omega)) (Int.emod_lt_of_pos _ m0) ⟨cells, i + 1, x / m, s, put_same, by omega, Int.ediv_nonneg x0 (by omega), s0, s1, hc⟩ (fun a ha => by rw [put_ne ha, put_ne ha])
      · simp only [decide_eq_false hx]
        simp only [w_ixP hM1 at_3, w_mul, c1, w_add, w_int, w_mod, true_and]
        refine ⟨by decide, ?_⟩
        rw [w_stoP hM1 (k := 3) (by rfl)]
        simp only [List.set_cons_succ, List.set_cons_zero]
        rw [w_ixP put_same at_3]
        simp only [w_mul, c2, w_mod, w_int, w_fdiv, true_and]
        refine ⟨by decide, by decide, m0, ?_⟩
        exact fin _ cells (i + 1) p _ (fun a ha => by rw [put_ne ha, put_ne ha]) put_same (by omega) p0 (Int.emod_nonneg _ (by decide)) (Int.lt_trans (Int.emod_lt_of_pos _ (by decide)) (by decide)) hc
    · simp only [decide_eq_false hi]
      refine ⟨by decide, ?_⟩
      rw [w_stoP hM (k := 3) (by rfl)]
      simp only [List.set_cons_succ, List.set_cons_zero]
      rw [w_ixP put_same at_3]
      simp only [w_mul, c2, w_mod, w_int, w_fdiv, true_and]
      refine ⟨by decide, by decide, m0, ?_⟩
      exact fin _ cells i p _ (fun a ha => put_ne ha) put_same i0 p0 (Int.emod_nonneg _ (by decide)) (Int.lt_trans (Int.emod_lt_of_pos _ (by decide)) (by decide)) hc
end K46
end VS
namespace VS
open PySem PySem.Spec PyProof.Rows L2
namespace K46
theorem h_same (n : Nat) : ∀ ds M Q E, ds.length = 2 → spSame (n + 1) ds M Q E → dSs E (c_law_same (spSame n)) { nx := fun _ M' => Q .non M', rt := Q } (startD n_law_same.length ds) M := by
  rintro ds M Q E hl ⟨x, rfl, hx, q⟩
  show dSs E (c_law_same (spSame n)) _ [some x, some x, none] M
  unfold c_law_same
  have go : ∀ xs : List D, (decide (xs.length ≤ line) && xs.all (plainD n)) = true → ∀ f : D → Store → (Option D → Store → Prop) → Prop, (∀ k : Nat, k < xs.length → ∀ y, xs[k]? = some y → plainD n y = true → ∀ kk : Option D → Store → Prop, kk (some (.bl true)) M → f (.int k) M kk) →
      (-2 ^ 62 ≤ (xs.length : Int) ∧ (xs.length : Int) < 2 ^ 62) ∧ ((xs.length : Nat) : Int).toNat ≤ line ∧ lcGo (fun _ => True) f (rngD 0 xs.length) [] M fun d M1 => wBi .all [d] M1 Q := fun xs h f hf => by
    obtain ⟨h1, h2⟩ := and_of h
    have h1 := of_decide_eq_true h1
    have hl : line = 16777216 := rfl
    refine ⟨⟨by omega, by omega⟩, by omega, ?_⟩
    refine lcGo_map (fun M' => M' = M) (fun _ => some (.bl true)) (fun _ _ => trivial) _ _ M _ (fun y hy M' k e hk => ?_) rfl (fun M' e => ?_)
    · subst e
      obtain ⟨j, hj, rfl⟩ := rng_mem hy
      exact hf j hj xs[j] (List.getElem?_eq_getElem hj) (List.all_eq_true.mp h2 _ (List.getElem_mem hj)) k (hk _ rfl)
    · subst e
      refine .inl ?_
      rw [List.nil_append, filterMap_some]
      have e : (rngD 0 (xs.length : Int)).map (fun _ => D.bl true) = ((rngD 0 (xs.length : Int)).map fun _ => true).map D.bl := by rw [List.map_map]; rfl
      rw [e]
      refine all_bl _ ?_
      have : (((rngD 0 (xs.length : Int)).map fun _ => true).all id) = true := by rw [List.all_map, List.all_eq_true]; intro _ _; rfl
      rw [this]
      exact q
  cases x with
  | non => simp only [dSs, dS, dT, dE, dEs, dTO, dTA, dAnd, dOr, dIt, dIf, gTg, gTgs, wipeD, List.map_cons, List.map_nil, getS_z, getS_s, List.set_cons_zero, List.set_cons_succ, ty_non, ty_bl, ty_int, ty_str, ty_tup, ty_lst, tk1, tk2, tk3, tk4, tk5, tk6, tk7, tk8, tk9, tk10, tk11, tk12, tk13, tk14, tk15, tk16, tk17, tk18, tk19, tk20, w_truB, w_truI, w_truN, w_truL, w_truT, w_is, w_isn, isNon_non, isNon_bl, isNon_int, isNon_str, isNon_lst, isNon_tup, w_add, w_addS, w_addT, w_addL, w_sub, w_mul, w_mod, w_fdiv, w_pow, w_neg, w_eqI, w_neI, w_eqS, w_neS, w_eqB, w_neB, w_lt, w_le, w_gt, w_ge, w_int, w_abs, w_lenL, w_lenT, w_lenS, w_tupL, w_rng1, w_in2, w_in3, bne_self, Bool.not_true, Bool.not_false, Bool.or_false, Bool.false_or, Bool.or_true, Bool.true_or, decide_true, decide_false, and_true, true_and]; exact q
  | bl b => simp only [dSs, dS, dT, dE, dEs, dTO, dTA, dAnd, dOr, dIt, dIf, gTg, gTgs, wipeD, List.map_cons, List.map_nil, getS_z, getS_s, List.set_cons_zero, List.set_cons_succ, ty_non, ty_bl, ty_int, ty_str, ty_tup, ty_lst, tk1, tk2, tk3, tk4, tk5, tk6, tk7, tk8, tk9, tk10, tk11, tk12, tk13, tk14, tk15, tk16, tk17, tk18, tk19, tk20, w_truB, w_truI, w_truN, w_truL, w_truT, w_is, w_isn, isNon_non, isNon_bl, isNon_int, isNon_str, isNon_lst, isNon_tup, w_add, w_addS, w_addT, w_addL, w_sub, w_mul, w_mod, w_fdiv, w_pow, w_neg, w_eqI, w_neI, w_eqS, w_neS, w_eqB, w_neB, w_lt, w_le, w_gt, w_ge, w_int, w_abs, w_lenL, w_lenT, w_lenS, w_tupL, w_rng1, w_in2, w_in3, bne_self, Bool.not_true, Bool.not_false, Bool.or_false, Bool.false_or, Bool.or_true, Bool.true_or, decide_true, decide_false, and_true, true_and]; exact q
  | int i => simp only [dSs, dS, dT, dE, dEs, dTO, dTA, dAnd, dOr, dIt, dIf, gTg, gTgs, wipeD, List.map_cons, List.map_nil, getS_z, getS_s, List.set_cons_zero, List.set_cons_succ, ty_non, ty_bl, ty_int, ty_str, ty_tup, ty_lst, tk1, tk2, tk3, tk4, tk5, tk6, tk7, tk8, tk9, tk10, tk11, tk12, tk13, tk14, tk15, tk16, tk17, tk18, tk19, tk20, w_truB, w_truI, w_truN, w_truL, w_truT, w_is, w_isn, isNon_non, isNon_bl, isNon_int, isNon_str, isNon_lst, isNon_tup, w_add, w_addS, w_addT, w_addL, w_sub, w_mul, w_mod, w_fdiv, w_pow, w_neg, w_eqI, w_neI, w_eqS, w_neS, w_eqB, w_neB, w_lt, w_le, w_gt, w_ge, w_int, w_abs, w_lenL, w_lenT, w_lenS, w_tupL, w_rng1, w_in2, w_in3, bne_self, Bool.not_true, Bool.not_false, Bool.or_false, Bool.false_or, Bool.or_true, Bool.true_or, decide_true, decide_false, and_true, true_and]; exact q
  | str s => simp only [dSs, dS, dT, dE, dEs, dTO, dTA, dAnd, dOr, dIt, dIf, gTg, gTgs, wipeD, List.map_cons, List.map_nil, getS_z, getS_s, List.set_cons_zero, List.set_cons_succ, ty_non, ty_bl, ty_int, ty_str, ty_tup, ty_lst, tk1, tk2, tk3, tk4, tk5, tk6, tk7, tk8, tk9, tk10, tk11, tk12, tk13, tk14, tk15, tk16, tk17, tk18, tk19, tk20, w_truB, w_truI, w_truN, w_truL, w_truT, w_is, w_isn, isNon_non, isNon_bl, isNon_int, isNon_str, isNon_lst, isNon_tup, w_add, w_addS, w_addT, w_addL, w_sub, w_mul, w_mod, w_fdiv, w_pow, w_neg, w_eqI, w_neI, w_eqS, w_neS, w_eqB, w_neB, w_lt, w_le, w_gt, w_ge, w_int, w_abs, w_lenL, w_lenT, w_lenS, w_tupL, w_rng1, w_in2, w_in3, bne_self, Bool.not_true, Bool.not_false, Bool.or_false, Bool.false_or, Bool.or_true, Bool.true_or, decide_true, decide_false, and_true, true_and]; exact q
  | lst xs =>
    simp only [dSs, dS, dT, dE, dEs, dTO, dTA, dAnd, dOr, dIt, dIf, gTg, gTgs, wipeD, List.map_cons, List.map_nil, getS_z, getS_s, List.set_cons_zero, List.set_cons_succ, ty_non, ty_bl, ty_int, ty_str, ty_tup, ty_lst, tk1, tk2, tk3, tk4, tk5, tk6, tk7, tk8, tk9, tk10, tk11, tk12, tk13, tk14, tk15, tk16, tk17, tk18, tk19, tk20, w_truB, w_truI, w_truN, w_truL, w_truT, w_is, w_isn, isNon_non, isNon_bl, isNon_int, isNon_str, isNon_lst, isNon_tup, w_add, w_addS, w_addT, w_addL, w_sub, w_mul, w_mod, w_fdiv, w_pow, w_neg, w_eqI, w_neI, w_eqS, w_neS, w_eqB, w_neB, w_lt, w_le, w_gt, w_ge, w_int, w_abs, w_lenL, w_lenT, w_lenS, w_tupL, w_rng1, w_in2, w_in3, bne_self, Bool.not_true, Bool.not_false, Bool.or_false, Bool.false_or, Bool.or_true, Bool.true_or, decide_true, decide_false, and_true, true_and]
    refine go xs hx _ fun k hk y hy py kk hkk => ?_
    rw [w_ixL (atI_natD hy), w_ixL (atI_natD hy)]
    exact ⟨y, rfl, py, hkk⟩
  | tup xs =>
    simp only [dSs, dS, dT, dE, dEs, dTO, dTA, dAnd, dOr, dIt, dIf, gTg, gTgs, wipeD, List.map_cons, List.map_nil, getS_z, getS_s, List.set_cons_zero, List.set_cons_succ, ty_non, ty_bl, ty_int, ty_str, ty_tup, ty_lst, tk1, tk2, tk3, tk4, tk5, tk6, tk7, tk8, tk9, tk10, tk11, tk12, tk13, tk14, tk15, tk16, tk17, tk18, tk19, tk20, w_truB, w_truI, w_truN, w_truL, w_truT, w_is, w_isn, isNon_non, isNon_bl, isNon_int, isNon_str, isNon_lst, isNon_tup, w_add, w_addS, w_addT, w_addL, w_sub, w_mul, w_mod, w_fdiv, w_pow, w_neg, w_eqI, w_neI, w_eqS, w_neS, w_eqB, w_neB, w_lt, w_le, w_gt, w_ge, w_int, w_abs, w_lenL, w_lenT, w_lenS, w_tupL, w_rng1, w_in2, w_in3, bne_self, Bool.not_true, Bool.not_false, Bool.or_false, Bool.false_or, Bool.or_true, Bool.true_or, decide_true, decide_false, and_true, true_and]
    refine go xs hx _ fun k hk y hy py kk hkk => ?_
    rw [w_ixT (atI_natD hy), w_ixT (atI_natD hy)]
    exact ⟨y, rfl, py, hkk⟩
  | _ => cases hx
end K46
end VS

/-! conditions as the law draws them -/
namespace VS
open PySem PySem.Spec PyProof.Rows L2
def capC : Nat → Nat
  | 0 => 1 | k + 1 => 2 * capC k + 3
theorem capC_pos : ∀ k, 1 ≤ capC k
  | 0 => Nat.le_refl _
  | k + 1 => by show 1 ≤ 2 * capC k + 3; omega
theorem sub_bin {b : Bool} {c d : Cond} : (subC (.bin b c d)).length = (subC c).length + (subC d).length + 1 := by show (subC c ++ subC d).length + 1 = _; rw [List.length_append]
namespace K46
def spTree (n : Nat) : Spec := fun ds M Q _ => ∃ (d : Addr) (k : Nat), ds = [.ptr d, .int (k : Int)] ∧ k < n ∧ DrawAt M d ∧ ∀ c M', htC c ≤ 2 * k + 1 → wfC c = true → (subC c).length ≤ capC k → Grow d M M' → Q (encC c) M'
theorem h_tree (n : Nat) : ∀ ds M Q E, ds.length = 2 → spTree (n + 1) ds M Q E → dSs E (c_law_tree spNext (spTree n)) { nx := fun _ M' => Q .non M', rt := Q } (startD n_law_tree.length ds) M := by
  rintro ds M Q E hl ⟨d, k, rfl, hk, hd, q⟩
  show dSs E (c_law_tree spNext (spTree n)) _ [some (.ptr d), some (.int k), none, none, none, none, none, none, none] M
  unfold c_law_tree
  simp only [dSs, dS, dT, dE, dEs, dTO, dTA, dAnd, dOr, dIt, dIf, gTg, gTgs, wipeD, List.map_cons, List.map_nil, getS_z, getS_s, List.set_cons_zero, List.set_cons_succ, ty_non, ty_bl, ty_int, ty_str, ty_tup, ty_lst, tk1, tk2, tk3, tk4, tk5, tk6, tk7, tk8, tk9, tk10, tk11, tk12, tk13, tk14, tk15, tk16, tk17, tk18, tk19, tk20, w_truB, w_truI, w_truN, w_truL, w_truT, w_is, w_isn, isNon_non, isNon_bl, isNon_int, isNon_str, isNon_lst, isNon_tup, w_add, w_addS, w_addT, w_addL, w_sub, w_mul, w_mod, w_fdiv, w_pow, w_neg, w_eqI, w_neI, w_eqS, w_neS, w_eqB, w_neB, w_lt, w_le, w_gt, w_ge, w_int, w_abs, w_lenL, w_lenT, w_lenS, w_tupL, w_rng1, w_in2, w_in3, bne_self, Bool.not_true, Bool.not_false, Bool.or_false, Bool.false_or, Bool.or_true, Bool.true_or, decide_true, decide_false, and_true, true_and]
  refine ⟨d, 13, rfl, by decide, by decide, hd, fun f M1 f0 f13 hd1 e1 => ?_⟩
  have gr1 : Grow d M M1 := .next hd1 e1
  have leaf : spNext [.ptr d, .int 6] M1 (fun y M2 => wIx (.lst [.tup [.str "all"], .tup [.str "none"], .tup [.str "is", .str "a"], .tup [.str "is", .str "b"], .tup [.str "is", .str "ab"], .tup [.str "is", .str "is"]]) y M2 Q) E := by
    refine ⟨d, 6, rfl, by decide, by decide, hd1, fun r M2 r0 r6 hd2 e2 => ?_⟩
    have gr2 := gr1.trans (.next hd2 e2)
    obtain ⟨x, hx, hm⟩ := pick_ix (xs := [.tup [.str "all"], .tup [.str "none"], .tup [.str "is", .str "a"], .tup [.str "is", .str "b"], .tup [.str "is", .str "ab"], .tup [.str "is", .str "is"]]) r0 r6
    simp only [w_ixL hx]
    simp only [List.mem_cons, List.not_mem_nil, or_false] at hm
    rcases hm with e | e | e | e | e | e <;> subst e
    · exact q .all M2 (by show 1 ≤ _; omega) (by decide) (capC_pos k) gr2
    · exact q .none M2 (by show 1 ≤ _; omega) (by decide) (capC_pos k) gr2
    · exact q (.is "a") M2 (by show 1 ≤ _; omega) (by decide) (capC_pos k) gr2
    · exact q (.is "b") M2 (by show 1 ≤ _; omega) (by decide) (capC_pos k) gr2
    · exact q (.is "ab") M2 (by show 1 ≤ _; omega) (by decide) (capC_pos k) gr2
    · exact q (.is "is") M2 (by show 1 ≤ _; omega) (by decide) (capC_pos k) gr2
  simp only [dSs, dS, dT, dE, dEs, dTO, dTA, dAnd, dOr, dIt, dIf, gTg, gTgs, wipeD, List.map_cons, List.map_nil, getS_z, getS_s, List.set_cons_zero, List.set_cons_succ, ty_non, ty_bl, ty_int, ty_str, ty_tup, ty_lst, tk1, tk2, tk3, tk4, tk5, tk6, tk7, tk8, tk9, tk10, tk11, tk12, tk13, tk14, tk15, tk16, tk17, tk18, tk19, tk20, w_truB, w_truI, w_truN, w_truL, w_truT, w_is, w_isn, isNon_non, isNon_bl, isNon_int, isNon_str, isNon_lst, isNon_tup, w_add, w_addS, w_addT, w_addL, w_sub, w_mul, w_mod, w_fdiv, w_pow, w_neg, w_eqI, w_neI, w_eqS, w_neS, w_eqB, w_neB, w_lt, w_le, w_gt, w_ge, w_int, w_abs, w_lenL, w_lenT, w_lenS, w_tupL, w_rng1, w_in2, w_in3, bne_self, Bool.not_true, Bool.not_false, Bool.or_false, Bool.false_or, Bool.or_true, Bool.true_or, decide_true, decide_false, and_true, true_and]
  cases k with
  | zero =>
    simp only [show ((0 : Nat) : Int) = 0 from rfl, decide_true]
    exact leaf
  | succ k =>
    simp only [show ¬ ((k + 1 : Nat) : Int) = 0 by omega, decide_false]
    have ek : ((k + 1 : Nat) : Int) - 1 = (k : Int) := by omega
    by_cases c1 : f < 3
    · simp only [decide_eq_true c1]; exact leaf
    simp only [decide_eq_false c1]
    by_cases c2 : f < 6
    · simp only [decide_eq_true c2]
      refine ⟨d, k, by rw [ek], by omega, hd1, fun c M2 hc wc lc gr2 => ?_⟩
      exact q (.not c) M2 (by show htC c + 1 ≤ _; omega) wc (by show (subC c).length + 1 ≤ 2 * capC k + 3; omega) (gr1.trans gr2)
    simp only [decide_eq_false c2]
    by_cases c3 : 8 < f
    · simp only [decide_eq_true c3]
      refine ⟨d, 6, rfl, by decide, by decide, hd1, fun r M2 r0 r6 hd2 e2 => ?_⟩
      have gr2 := gr1.trans (.next hd2 e2)
      obtain ⟨x, hx, hm⟩ := pick_ix (xs := [.str "child", .str "below", .str "parent", .str "above", .str "earlier", .str "later"]) r0 r6
      simp only [w_ixL hx, ek]
      refine ⟨d, k, rfl, by omega, hd2, fun c M3 hc wc lc gr3 => ?_⟩
      have gr := gr2.trans gr3
      simp only [List.mem_cons, List.not_mem_nil, or_false] at hm
      rcases hm with e | e | e | e | e | e <;> subst e
      · exact q (.look .child c) M3 (by show htC c + 1 ≤ _; omega) wc (by show (subC c).length + 1 ≤ 2 * capC k + 3; omega) gr
      · exact q (.look .below c) M3 (by show htC c + 1 ≤ _; omega) wc (by show (subC c).length + 1 ≤ 2 * capC k + 3; omega) gr
      · exact q (.look .parent c) M3 (by show htC c + 1 ≤ _; omega) wc (by show (subC c).length + 1 ≤ 2 * capC k + 3; omega) gr
      · exact q (.look .above c) M3 (by show htC c + 1 ≤ _; omega) wc (by show (subC c).length + 1 ≤ 2 * capC k + 3; omega) gr
      · exact q (.look .earlier c) M3 (by show htC c + 1 ≤ _; omega) wc (by show (subC c).length + 1 ≤ 2 * capC k + 3; omega) gr
      · exact q (.look .later c) M3 (by show htC c + 1 ≤ _; omega) wc (by show (subC c).length + 1 ≤ 2 * capC k + 3; omega) gr
    simp only [decide_eq_false c3]
    obtain ⟨b, hb⟩ : ∃ b : Bool, atI [D.str "and", .str "or"] (f % 2) = some (.str (binN b)) := by
      have : f % 2 = 0 ∨ f % 2 = 1 := by omega
      rcases this with e | e <;> rw [e]
      · exact ⟨true, at_0⟩
      · exact ⟨false, at_1⟩
    refine ⟨by decide, ?_⟩
    simp only [w_ixL hb]
    intro p hp
    have hpd : p ≠ d := fun z => by subst z; exact DrawAt.ne hd1 hp
    have hl : line = 16777216 := rfl
    refine ⟨⟨by decide, by decide⟩, by decide, ?_⟩
    refine forGo_inv (fun j σ M' => ∃ (o1 o2 : Option D) (cs : List Cond), σ = [some (.ptr d), some (.int ((k + 1 : Nat) : Int)), some (.int f), none, none, some (.str (binN b)), some (.ptr p), o1, o2] ∧ M' p = some (.lst (cs.map encC)) ∧ cs.length = j ∧ Grow d M M' ∧ ∀ c ∈ cs, htC c ≤ 2 * k + 2 ∧ wfC c = true ∧ hdC c ≠ binN b ∧ (subC c).length ≤ capC k + 1) _ (fun _ _ _ _ => trivial) ?_ ?_ ?_
    · rintro j x σ M2 nx hx ⟨o1, o2, cs, rfl, hM2, hj, gr, hh⟩ hn
      obtain ⟨hj2, rfl⟩ := rng_at (n := 2) hx
      simp only [dSs, dS, dT, dE, dEs, dTO, dTA, dAnd, dOr, dIt, dIf, gTg, gTgs, wipeD, List.map_cons, List.map_nil, getS_z, getS_s, List.set_cons_zero, List.set_cons_succ, ty_non, ty_bl, ty_int, ty_str, ty_tup, ty_lst, tk1, tk2, tk3, tk4, tk5, tk6, tk7, tk8, tk9, tk10, tk11, tk12, tk13, tk14, tk15, tk16, tk17, tk18, tk19, tk20, w_truB, w_truI, w_truN, w_truL, w_truT, w_is, w_isn, isNon_non, isNon_bl, isNon_int, isNon_str, isNon_lst, isNon_tup, w_add, w_addS, w_addT, w_addL, w_sub, w_mul, w_mod, w_fdiv, w_pow, w_neg, w_eqI, w_neI, w_eqS, w_neS, w_eqB, w_neB, w_lt, w_le, w_gt, w_ge, w_int, w_abs, w_lenL, w_lenT, w_lenS, w_tupL, w_rng1, w_in2, w_in3, bne_self, Bool.not_true, Bool.not_false, Bool.or_false, Bool.false_or, Bool.or_true, Bool.true_or, decide_true, decide_false, and_true, true_and, ek]
      refine ⟨d, k, rfl, by omega, gr.1, fun c M3 hc wc lc gr3 => ?_⟩
      have hM3 : M3 p = some (.lst (cs.map encC)) := by rw [gr3.2 p hpd (by rw [hM2]; exact fun z => by cases z)]; exact hM2
      simp only [w_appTy hM3, ixC0, w_eqS, w_truB, true_and]
      have last : ∀ c', htC c' ≤ 2 * k + 2 → wfC c' = true → hdC c' ≠ binN b → (subC c').length ≤ capC k + 1 → wMt .append (.ptr p) [encC c'] M3 fun x M1 => nx [some (.ptr d), some (.int ((k + 1 : Nat) : Int)), some (.int f), none, none, some (.str (binN b)), some (.ptr p), some (.int (j : Int)), some (encC c)] M1 := fun c' hc' wc' nc' lc' => by
        simp only [w_app hM3]
        refine ⟨by rw [List.length_map]; omega, ?_⟩
        refine hn _ _ ⟨_, _, cs ++ [c'], rfl, by rw [List.map_append]; exact put_same, by rw [List.length_append, hj]; rfl, (gr.trans gr3).put hpd ?_, fun z hz => ?_⟩
        · cases e : M p with
          | none => rfl
          | some o =>
            have := gr1.2 p hpd (by rw [e]; exact fun z => by cases z)
            rw [hp, e] at this; cases this
        · rcases List.mem_append.mp hz with h | h
          · exact hh z h
          · rw [List.mem_singleton] at h; subst h; exact ⟨hc', wc', nc', lc'⟩
      by_cases cc : hdC c = binN b
      · simp only [decide_eq_true cc]
        exact last (.not c) (by show htC c + 1 ≤ _; omega) wc (by show "not" ≠ binN b; cases b <;> decide) (by show (subC c).length + 1 ≤ _; omega)
      · simp only [decide_eq_false cc]
        exact last c (by omega) wc cc (by omega)
    · refine ⟨none, none, [], rfl, put_same, rfl, gr1.put hpd ?_, fun c hc => by cases hc⟩
      cases e : M p with
      | none => rfl
      | some o =>
        have := gr1.2 p hpd (by rw [e]; exact fun z => by cases z)
        rw [hp, e] at this; cases this
    · rintro σ M2 ⟨o1, o2, cs, rfl, hM2, hj, gr, hh⟩
      have hj : cs.length = 2 := hj
      match cs, hj with
      | [c, c'], _ =>
        simp only [dSs, dS, dT, dE, dEs, dTO, dTA, dAnd, dOr, dIt, dIf, gTg, gTgs, wipeD, List.map_cons, List.map_nil, getS_z, getS_s, List.set_cons_zero, List.set_cons_succ, ty_non, ty_bl, ty_int, ty_str, ty_tup, ty_lst, tk1, tk2, tk3, tk4, tk5, tk6, tk7, tk8, tk9, tk10, tk11, tk12, tk13, tk14, tk15, tk16, tk17, tk18, tk19, tk20, w_truB, w_truI, w_truN, w_truL, w_truT, w_is, w_isn, isNon_non, isNon_bl, isNon_int, isNon_str, isNon_lst, isNon_tup, w_add, w_addS, w_addT, w_addL, w_sub, w_mul, w_mod, w_fdiv, w_pow, w_neg, w_eqI, w_neI, w_eqS, w_neS, w_eqB, w_neB, w_lt, w_le, w_gt, w_ge, w_int, w_abs, w_lenL, w_lenT, w_lenS, w_tupL, w_rng1, w_in2, w_in3, bne_self, Bool.not_true, Bool.not_false, Bool.or_false, Bool.false_or, Bool.or_true, Bool.true_or, decide_true, decide_false, and_true, true_and, w_tupP hM2]
        have h1 := hh c List.mem_cons_self
        have h2 := hh c' (List.mem_cons_of_mem _ List.mem_cons_self)
        exact q (.bin b c c') M2 (by show max (htC c) (htC c') + 1 ≤ _; omega) (by show (wfC c && wfC c' && !decide (hdC c = binN b) && !decide (hdC c' = binN b)) = true; rw [h1.2.1, h2.2.1, decide_eq_false h1.2.2.1, decide_eq_false h2.2.2.1]; rfl) (by rw [sub_bin]; show _ ≤ 2 * capC k + 3; omega) gr
def spC (φ : Cond → Int) (n : Nat) : Spec := fun ds M Q _ => ∃ c, ds = [encC c] ∧ htC c ≤ n ∧ Q (.int (φ c)) M
theorem h_parts (n : Nat) : ∀ ds M Q E, ds.length = 1 → spC partsC (n + 1) ds M Q E → dSs E (c_law_parts (spC partsC n)) { nx := fun _ M' => Q .non M', rt := Q } (startD n_law_parts.length ds) M := by
  rintro ds M Q E hl ⟨c, rfl, hc, q⟩
  show dSs E (c_law_parts (spC partsC n)) _ [some (encC c), none, none] M
  unfold c_law_parts
  obtain ⟨l1, l2, l3, l4, l5, l6⟩ := lits
  have one : ∀ c' : Cond, htC c' ≤ n → Q (.int (1 + [partsC c'].sum)) M → lcGo (fun _ => True) (fun x M k => spC partsC n [x] M (fun y M'' => k (some y) M'') X0) [encC c'] [] M fun d M1 => wBi .sum [d] M1 fun y M2 => wBin .add (.int 1) y M2 Q := fun c' h q' =>
    lcGo_pure (fun _ => .int (partsC c')) trivial (fun x hx k hk => by rw [List.mem_singleton] at hx; subst hx; exact ⟨c', rfl, h, hk⟩) (sum_int [partsC c'] q')
  cases c with
  | all => simp only [dSs, dS, dT, dE, dEs, dTO, dTA, dAnd, dOr, dIt, dIf, gTg, gTgs, wipeD, List.map_cons, List.map_nil, getS_z, getS_s, List.set_cons_zero, List.set_cons_succ, ty_non, ty_bl, ty_int, ty_str, ty_tup, ty_lst, tk1, tk2, tk3, tk4, tk5, tk6, tk7, tk8, tk9, tk10, tk11, tk12, tk13, tk14, tk15, tk16, tk17, tk18, tk19, tk20, w_truB, w_truI, w_truN, w_truL, w_truT, w_is, w_isn, isNon_non, isNon_bl, isNon_int, isNon_str, isNon_lst, isNon_tup, w_add, w_addS, w_addT, w_addL, w_sub, w_mul, w_mod, w_fdiv, w_pow, w_neg, w_eqI, w_neI, w_eqS, w_neS, w_eqB, w_neB, w_lt, w_le, w_gt, w_ge, w_int, w_abs, w_lenL, w_lenT, w_lenS, w_tupL, w_rng1, w_in2, w_in3, bne_self, Bool.not_true, Bool.not_false, Bool.or_false, Bool.false_or, Bool.or_true, Bool.true_or, decide_true, decide_false, and_true, true_and, ixC0, hdC, l1]; exact q
  | none => simp only [dSs, dS, dT, dE, dEs, dTO, dTA, dAnd, dOr, dIt, dIf, gTg, gTgs, wipeD, List.map_cons, List.map_nil, getS_z, getS_s, List.set_cons_zero, List.set_cons_succ, ty_non, ty_bl, ty_int, ty_str, ty_tup, ty_lst, tk1, tk2, tk3, tk4, tk5, tk6, tk7, tk8, tk9, tk10, tk11, tk12, tk13, tk14, tk15, tk16, tk17, tk18, tk19, tk20, w_truB, w_truI, w_truN, w_truL, w_truT, w_is, w_isn, isNon_non, isNon_bl, isNon_int, isNon_str, isNon_lst, isNon_tup, w_add, w_addS, w_addT, w_addL, w_sub, w_mul, w_mod, w_fdiv, w_pow, w_neg, w_eqI, w_neI, w_eqS, w_neS, w_eqB, w_neB, w_lt, w_le, w_gt, w_ge, w_int, w_abs, w_lenL, w_lenT, w_lenS, w_tupL, w_rng1, w_in2, w_in3, bne_self, Bool.not_true, Bool.not_false, Bool.or_false, Bool.false_or, Bool.or_true, Bool.true_or, decide_true, decide_false, and_true, true_and, ixC0, hdC, l2]; exact q
  | is s => simp only [dSs, dS, dT, dE, dEs, dTO, dTA, dAnd, dOr, dIt, dIf, gTg, gTgs, wipeD, List.map_cons, List.map_nil, getS_z, getS_s, List.set_cons_zero, List.set_cons_succ, ty_non, ty_bl, ty_int, ty_str, ty_tup, ty_lst, tk1, tk2, tk3, tk4, tk5, tk6, tk7, tk8, tk9, tk10, tk11, tk12, tk13, tk14, tk15, tk16, tk17, tk18, tk19, tk20, w_truB, w_truI, w_truN, w_truL, w_truT, w_is, w_isn, isNon_non, isNon_bl, isNon_int, isNon_str, isNon_lst, isNon_tup, w_add, w_addS, w_addT, w_addL, w_sub, w_mul, w_mod, w_fdiv, w_pow, w_neg, w_eqI, w_neI, w_eqS, w_neS, w_eqB, w_neB, w_lt, w_le, w_gt, w_ge, w_int, w_abs, w_lenL, w_lenT, w_lenS, w_tupL, w_rng1, w_in2, w_in3, bne_self, Bool.not_true, Bool.not_false, Bool.or_false, Bool.false_or, Bool.or_true, Bool.true_or, decide_true, decide_false, and_true, true_and, ixC0, hdC, l3]; exact q
  | not c => simp only [dSs, dS, dT, dE, dEs, dTO, dTA, dAnd, dOr, dIt, dIf, gTg, gTgs, wipeD, List.map_cons, List.map_nil, getS_z, getS_s, List.set_cons_zero, List.set_cons_succ, ty_non, ty_bl, ty_int, ty_str, ty_tup, ty_lst, tk1, tk2, tk3, tk4, tk5, tk6, tk7, tk8, tk9, tk10, tk11, tk12, tk13, tk14, tk15, tk16, tk17, tk18, tk19, tk20, w_truB, w_truI, w_truN, w_truL, w_truT, w_is, w_isn, isNon_non, isNon_bl, isNon_int, isNon_str, isNon_lst, isNon_tup, w_add, w_addS, w_addT, w_addL, w_sub, w_mul, w_mod, w_fdiv, w_pow, w_neg, w_eqI, w_neI, w_eqS, w_neS, w_eqB, w_neB, w_lt, w_le, w_gt, w_ge, w_int, w_abs, w_lenL, w_lenT, w_lenS, w_tupL, w_rng1, w_in2, w_in3, bne_self, Bool.not_true, Bool.not_false, Bool.or_false, Bool.false_or, Bool.or_true, Bool.true_or, decide_true, decide_false, and_true, true_and, ixC0, hdC, l4, l5, ixN1, it_T]; exact one c (by have : htC c + 1 ≤ n + 1 := hc; omega) q
  | look l c => simp only [dSs, dS, dT, dE, dEs, dTO, dTA, dAnd, dOr, dIt, dIf, gTg, gTgs, wipeD, List.map_cons, List.map_nil, getS_z, getS_s, List.set_cons_zero, List.set_cons_succ, ty_non, ty_bl, ty_int, ty_str, ty_tup, ty_lst, tk1, tk2, tk3, tk4, tk5, tk6, tk7, tk8, tk9, tk10, tk11, tk12, tk13, tk14, tk15, tk16, tk17, tk18, tk19, tk20, w_truB, w_truI, w_truN, w_truL, w_truT, w_is, w_isn, isNon_non, isNon_bl, isNon_int, isNon_str, isNon_lst, isNon_tup, w_add, w_addS, w_addT, w_addL, w_sub, w_mul, w_mod, w_fdiv, w_pow, w_neg, w_eqI, w_neI, w_eqS, w_neS, w_eqB, w_neB, w_lt, w_le, w_gt, w_ge, w_int, w_abs, w_lenL, w_lenT, w_lenS, w_tupL, w_rng1, w_in2, w_in3, bne_self, Bool.not_true, Bool.not_false, Bool.or_false, Bool.false_or, Bool.or_true, Bool.true_or, decide_true, decide_false, and_true, true_and, ixC0, hdC, nm3, nm2, ixL1, it_T]; exact one c (by have : htC c + 1 ≤ n + 1 := hc; omega) q
  | bin b c d =>
    simp only [dSs, dS, dT, dE, dEs, dTO, dTA, dAnd, dOr, dIt, dIf, gTg, gTgs, wipeD, List.map_cons, List.map_nil, getS_z, getS_s, List.set_cons_zero, List.set_cons_succ, ty_non, ty_bl, ty_int, ty_str, ty_tup, ty_lst, tk1, tk2, tk3, tk4, tk5, tk6, tk7, tk8, tk9, tk10, tk11, tk12, tk13, tk14, tk15, tk16, tk17, tk18, tk19, tk20, w_truB, w_truI, w_truN, w_truL, w_truT, w_is, w_isn, isNon_non, isNon_bl, isNon_int, isNon_str, isNon_lst, isNon_tup, w_add, w_addS, w_addT, w_addL, w_sub, w_mul, w_mod, w_fdiv, w_pow, w_neg, w_eqI, w_neI, w_eqS, w_neS, w_eqB, w_neB, w_lt, w_le, w_gt, w_ge, w_int, w_abs, w_lenL, w_lenT, w_lenS, w_tupL, w_rng1, w_in2, w_in3, bne_self, Bool.not_true, Bool.not_false, Bool.or_false, Bool.false_or, Bool.or_true, Bool.true_or, decide_true, decide_false, and_true, true_and, ixC0, hdC, bn3, bn2, ixB1, it_T]
    have hc' : max (htC c) (htC d) + 1 ≤ n + 1 := hc
    refine ⟨trivial, c, rfl, by omega, trivial, d, rfl, by omega, trivial, .inl ?_⟩
    exact sum_int [partsC c, partsC d] q
theorem h_looks (n : Nat) : ∀ ds M Q E, ds.length = 1 → spC looksC (n + 1) ds M Q E → dSs E (c_law_looks (spC looksC n)) { nx := fun _ M' => Q .non M', rt := Q } (startD n_law_looks.length ds) M := by
  rintro ds M Q E hl ⟨c, rfl, hc, q⟩
  show dSs E (c_law_looks (spC looksC n)) _ [some (encC c), none, none] M
  unfold c_law_looks
  obtain ⟨l1, l2, l3, l4, l5, l6⟩ := lits
  cases c with
  | all => simp only [dSs, dS, dT, dE, dEs, dTO, dTA, dAnd, dOr, dIt, dIf, gTg, gTgs, wipeD, List.map_cons, List.map_nil, getS_z, getS_s, List.set_cons_zero, List.set_cons_succ, ty_non, ty_bl, ty_int, ty_str, ty_tup, ty_lst, tk1, tk2, tk3, tk4, tk5, tk6, tk7, tk8, tk9, tk10, tk11, tk12, tk13, tk14, tk15, tk16, tk17, tk18, tk19, tk20, w_truB, w_truI, w_truN, w_truL, w_truT, w_is, w_isn, isNon_non, isNon_bl, isNon_int, isNon_str, isNon_lst, isNon_tup, w_add, w_addS, w_addT, w_addL, w_sub, w_mul, w_mod, w_fdiv, w_pow, w_neg, w_eqI, w_neI, w_eqS, w_neS, w_eqB, w_neB, w_lt, w_le, w_gt, w_ge, w_int, w_abs, w_lenL, w_lenT, w_lenS, w_tupL, w_rng1, w_in2, w_in3, bne_self, Bool.not_true, Bool.not_false, Bool.or_false, Bool.false_or, Bool.or_true, Bool.true_or, decide_true, decide_false, and_true, true_and, ixC0, hdC, l1]; exact q
  | none => simp only [dSs, dS, dT, dE, dEs, dTO, dTA, dAnd, dOr, dIt, dIf, gTg, gTgs, wipeD, List.map_cons, List.map_nil, getS_z, getS_s, List.set_cons_zero, List.set_cons_succ, ty_non, ty_bl, ty_int, ty_str, ty_tup, ty_lst, tk1, tk2, tk3, tk4, tk5, tk6, tk7, tk8, tk9, tk10, tk11, tk12, tk13, tk14, tk15, tk16, tk17, tk18, tk19, tk20, w_truB, w_truI, w_truN, w_truL, w_truT, w_is, w_isn, isNon_non, isNon_bl, isNon_int, isNon_str, isNon_lst, isNon_tup, w_add, w_addS, w_addT, w_addL, w_sub, w_mul, w_mod, w_fdiv, w_pow, w_neg, w_eqI, w_neI, w_eqS, w_neS, w_eqB, w_neB, w_lt, w_le, w_gt, w_ge, w_int, w_abs, w_lenL, w_lenT, w_lenS, w_tupL, w_rng1, w_in2, w_in3, bne_self, Bool.not_true, Bool.not_false, Bool.or_false, Bool.false_or, Bool.or_true, Bool.true_or, decide_true, decide_false, and_true, true_and, ixC0, hdC, l2]; exact q
  | is s => simp only [dSs, dS, dT, dE, dEs, dTO, dTA, dAnd, dOr, dIt, dIf, gTg, gTgs, wipeD, List.map_cons, List.map_nil, getS_z, getS_s, List.set_cons_zero, List.set_cons_succ, ty_non, ty_bl, ty_int, ty_str, ty_tup, ty_lst, tk1, tk2, tk3, tk4, tk5, tk6, tk7, tk8, tk9, tk10, tk11, tk12, tk13, tk14, tk15, tk16, tk17, tk18, tk19, tk20, w_truB, w_truI, w_truN, w_truL, w_truT, w_is, w_isn, isNon_non, isNon_bl, isNon_int, isNon_str, isNon_lst, isNon_tup, w_add, w_addS, w_addT, w_addL, w_sub, w_mul, w_mod, w_fdiv, w_pow, w_neg, w_eqI, w_neI, w_eqS, w_neS, w_eqB, w_neB, w_lt, w_le, w_gt, w_ge, w_int, w_abs, w_lenL, w_lenT, w_lenS, w_tupL, w_rng1, w_in2, w_in3, bne_self, Bool.not_true, Bool.not_false, Bool.or_false, Bool.false_or, Bool.or_true, Bool.true_or, decide_true, decide_false, and_true, true_and, ixC0, hdC, l3]; exact q
  | not c =>
    simp only [dSs, dS, dT, dE, dEs, dTO, dTA, dAnd, dOr, dIt, dIf, gTg, gTgs, wipeD, List.map_cons, List.map_nil, getS_z, getS_s, List.set_cons_zero, List.set_cons_succ, ty_non, ty_bl, ty_int, ty_str, ty_tup, ty_lst, tk1, tk2, tk3, tk4, tk5, tk6, tk7, tk8, tk9, tk10, tk11, tk12, tk13, tk14, tk15, tk16, tk17, tk18, tk19, tk20, w_truB, w_truI, w_truN, w_truL, w_truT, w_is, w_isn, isNon_non, isNon_bl, isNon_int, isNon_str, isNon_lst, isNon_tup, w_add, w_addS, w_addT, w_addL, w_sub, w_mul, w_mod, w_fdiv, w_pow, w_neg, w_eqI, w_neI, w_eqS, w_neS, w_eqB, w_neB, w_lt, w_le, w_gt, w_ge, w_int, w_abs, w_lenL, w_lenT, w_lenS, w_tupL, w_rng1, w_in2, w_in3, bne_self, Bool.not_true, Bool.not_false, Bool.or_false, Bool.false_or, Bool.or_true, Bool.true_or, decide_true, decide_false, and_true, true_and, ixC0, hdC, l4, l5, l6, ixN1, it_T]
    have hc' : htC c + 1 ≤ n + 1 := hc
    refine ⟨trivial, c, rfl, by omega, trivial, .inl ?_⟩
    exact sum_int [looksC c] q
  | look l c =>
    simp only [dSs, dS, dT, dE, dEs, dTO, dTA, dAnd, dOr, dIt, dIf, gTg, gTgs, wipeD, List.map_cons, List.map_nil, getS_z, getS_s, List.set_cons_zero, List.set_cons_succ, ty_non, ty_bl, ty_int, ty_str, ty_tup, ty_lst, tk1, tk2, tk3, tk4, tk5, tk6, tk7, tk8, tk9, tk10, tk11, tk12, tk13, tk14, tk15, tk16, tk17, tk18, tk19, tk20, w_truB, w_truI, w_truN, w_truL, w_truT, w_is, w_isn, isNon_non, isNon_bl, isNon_int, isNon_str, isNon_lst, isNon_tup, w_add, w_addS, w_addT, w_addL, w_sub, w_mul, w_mod, w_fdiv, w_pow, w_neg, w_eqI, w_neI, w_eqS, w_neS, w_eqB, w_neB, w_lt, w_le, w_gt, w_ge, w_int, w_abs, w_lenL, w_lenT, w_lenS, w_tupL, w_rng1, w_in2, w_in3, bne_self, Bool.not_true, Bool.not_false, Bool.or_false, Bool.false_or, Bool.or_true, Bool.true_or, decide_true, decide_false, and_true, true_and, ixC0, hdC, nm3, nm2, nm2b, ixL1, it_T]
    have hc' : htC c + 1 ≤ n + 1 := hc
    refine ⟨trivial, c, rfl, by omega, trivial, .inl ?_⟩
    exact sum_int [looksC c] q
  | bin b c d =>
    simp only [dSs, dS, dT, dE, dEs, dTO, dTA, dAnd, dOr, dIt, dIf, gTg, gTgs, wipeD, List.map_cons, List.map_nil, getS_z, getS_s, List.set_cons_zero, List.set_cons_succ, ty_non, ty_bl, ty_int, ty_str, ty_tup, ty_lst, tk1, tk2, tk3, tk4, tk5, tk6, tk7, tk8, tk9, tk10, tk11, tk12, tk13, tk14, tk15, tk16, tk17, tk18, tk19, tk20, w_truB, w_truI, w_truN, w_truL, w_truT, w_is, w_isn, isNon_non, isNon_bl, isNon_int, isNon_str, isNon_lst, isNon_tup, w_add, w_addS, w_addT, w_addL, w_sub, w_mul, w_mod, w_fdiv, w_pow, w_neg, w_eqI, w_neI, w_eqS, w_neS, w_eqB, w_neB, w_lt, w_le, w_gt, w_ge, w_int, w_abs, w_lenL, w_lenT, w_lenS, w_tupL, w_rng1, w_in2, w_in3, bne_self, Bool.not_true, Bool.not_false, Bool.or_false, Bool.false_or, Bool.or_true, Bool.true_or, decide_true, decide_false, and_true, true_and, ixC0, hdC, bn3, bn2, bn2b, ixB1, it_T]
    have hc' : max (htC c) (htC d) + 1 ≤ n + 1 := hc
    refine ⟨trivial, c, rfl, by omega, trivial, d, rfl, by omega, trivial, .inl ?_⟩
    exact sum_int [looksC c, looksC d] q
end K46
end VS

/-! conditions: the law's tokens of a condition -/
namespace VS
open PySem PySem.Spec PyProof.Rows L2
theorem Gr.up {h : Nat} {c : Cond} {l : List String} (g : Gr 0 h c l) : ∀ k, k ≤ 2 → Gr k h c l
  | 0, _ => g
  | 1, _ => .term g
  | 2, _ => .cond (.term g)
  | k + 3, z => by omega
theorem Gr.up1 {h : Nat} {c : Cond} {l : List String} (g : Gr 1 h c l) : ∀ k, 1 ≤ k → k ≤ 2 → Gr k h c l
  | 1, _, _ => g
  | 2, _, _ => .cond g
  | 0, z, _ => by omega
  | k + 3, _, z => by omega
def hds : List String := ["all", "none", "is", "not", "and", "or", "child", "below", "parent", "above", "earlier", "later"]
theorem hd_in (c : Cond) : hdC c ∈ hds := by
  cases c with
  | all => exact (by decide : "all" ∈ hds)
  | none => exact (by decide : "none" ∈ hds)
  | is _ => exact (by decide : "is" ∈ hds)
  | not _ => exact (by decide : "not" ∈ hds)
  | bin b _ _ =>
    cases b with
    | true => exact (by decide : "and" ∈ hds)
    | false => exact (by decide : "or" ∈ hds)
  | look l _ =>
    cases l with
    | child => exact (by decide : "child" ∈ hds)
    | below => exact (by decide : "below" ∈ hds)
    | parent => exact (by decide : "parent" ∈ hds)
    | above => exact (by decide : "above" ∈ hds)
    | earlier => exact (by decide : "earlier" ∈ hds)
    | later => exact (by decide : "later" ∈ hds)
theorem hd_word (c : Cond) : hdC c ≠ "word" := fun e => by have := hd_in c; rw [e] at this; exact absurd this (by decide)
theorem hd_empty (c : Cond) : hdC c ≠ "" := fun e => by have := hd_in c; rw [e] at this; exact absurd this (by decide)
def lvl (w : String) : Nat := if w = "" then 2 else if w = "or" then 1 else 0
/-- the tokens of a condition -/
def sgK : List Char := '-' :: sgC
def tokC (s : String) : Bool := tok8 sgK s
theorem tokC_par : tokC "(" = true ∧ tokC ")" = true := by decide
theorem tokC_words : tokC "all" = true ∧ tokC "none" = true ∧ tokC "is" = true ∧ tokC "not" = true ∧ tokC "and" = true ∧ tokC "or" = true := by decide
theorem tokC_look (l : Look) : tokC l.nm = true := by cases l <;> decide
theorem tokC_name {n : String} (h : decide (n ∈ ["a", "b", "ab", "is"]) = true) : tokC n = true ∧ wordB n = true ∧ n.length ≤ 8 ∧ uno [n] ≤ 1 := by
  have h := of_decide_eq_true h
  simp only [List.mem_cons, List.not_mem_nil, or_false] at h
  rcases h with rfl | rfl | rfl | rfl <;> exact ⟨by decide, by decide, by decide, by decide⟩
namespace K46
def spBr : Spec := fun ds M Q _ => ∃ d l b, ds = [.ptr d, .lst (sts l), .bl b] ∧ DrawAt M d ∧ l.length ≤ 10000 ∧ (∀ M', Grow d M M' → Q (.lst (sts ("(" :: (l ++ [")"])))) M') ∧ (b = false → ∀ M', Grow d M M' → Q (.lst (sts l)) M')
theorem h_br : ∀ ds M Q E, ds.length = 3 → spBr ds M Q E → dSs E (c_law_bracket spNext) { nx := fun _ M' => Q .non M', rt := Q } (startD n_law_bracket.length ds) M := by
  rintro ds M Q E hl ⟨d, l, b, rfl, hd, hlen, q1, q2⟩
  show dSs E (c_law_bracket spNext) _ [some (.ptr d), some (.lst (sts l)), some (.bl b)] M
  unfold c_law_bracket
  have ll : line = 16777216 := rfl
  have yes : ∀ M', Grow d M M' → wBin .add (.lst [.str "("]) (.lst (sts l)) M' fun x M1 => wBin .add x (.lst [.str ")"]) M1 Q := fun M' gr => by
    rw [w_addL]
    refine ⟨by rw [sts_len]; show 1 + _ ≤ _; omega, .inl ?_⟩
    simp only [w_addL]
    refine ⟨by rw [List.length_append, sts_len]; show 1 + _ + 1 ≤ _; omega, .inl ?_⟩
    have := q1 M' gr
    rw [sts_cons, sts_app] at this
    exact this
  simp only [dSs, dS, dT, dE, dEs, dTO, dTA, dAnd, dOr, dIt, dIf, gTg, gTgs, wipeD, List.map_cons, List.map_nil, getS_z, getS_s, List.set_cons_zero, List.set_cons_succ, ty_non, ty_bl, ty_int, ty_str, ty_tup, ty_lst, tk1, tk2, tk3, tk4, tk5, tk6, tk7, tk8, tk9, tk10, tk11, tk12, tk13, tk14, tk15, tk16, tk17, tk18, tk19, tk20, w_truB, w_truI, w_truN, w_truL, w_truT, w_is, w_isn, isNon_non, isNon_bl, isNon_int, isNon_str, isNon_lst, isNon_tup, w_add, w_addS, w_addT, w_addL, w_sub, w_mul, w_mod, w_fdiv, w_pow, w_neg, w_eqI, w_neI, w_eqS, w_neS, w_eqB, w_neB, w_lt, w_le, w_gt, w_ge, w_int, w_abs, w_lenL, w_lenT, w_lenS, w_tupL, w_rng1, w_in2, w_in3, bne_self, Bool.not_true, Bool.not_false, Bool.or_false, Bool.false_or, Bool.or_true, Bool.true_or, decide_true, decide_false, and_true, true_and]
  cases b with
  | true => exact yes M (.refl hd)
  | false =>
    refine ⟨d, 7, rfl, by decide, by decide, hd, fun r M1 r0 r7 hd1 e1 => ?_⟩
    simp only [dSs, dS, dT, dE, dEs, dTO, dTA, dAnd, dOr, dIt, dIf, gTg, gTgs, wipeD, List.map_cons, List.map_nil, getS_z, getS_s, List.set_cons_zero, List.set_cons_succ, ty_non, ty_bl, ty_int, ty_str, ty_tup, ty_lst, tk1, tk2, tk3, tk4, tk5, tk6, tk7, tk8, tk9, tk10, tk11, tk12, tk13, tk14, tk15, tk16, tk17, tk18, tk19, tk20, w_truB, w_truI, w_truN, w_truL, w_truT, w_is, w_isn, isNon_non, isNon_bl, isNon_int, isNon_str, isNon_lst, isNon_tup, w_add, w_addS, w_addT, w_addL, w_sub, w_mul, w_mod, w_fdiv, w_pow, w_neg, w_eqI, w_neI, w_eqS, w_neS, w_eqB, w_neB, w_lt, w_le, w_gt, w_ge, w_int, w_abs, w_lenL, w_lenT, w_lenS, w_tupL, w_rng1, w_in2, w_in3, bne_self, Bool.not_true, Bool.not_false, Bool.or_false, Bool.false_or, Bool.or_true, Bool.true_or, decide_true, decide_false, and_true, true_and]
    by_cases hr : r = 0
    · simp only [decide_eq_true hr]; exact yes M1 (.next hd1 e1)
    · simp only [decide_eq_false hr]; exact q2 rfl M1 (.next hd1 e1)
def spTok (n : Nat) : Spec := fun ds M Q _ => ∃ d c w, ds = [.ptr d, encC c, .str w] ∧ DrawAt M d ∧ htC c ≤ n ∧ wfC c = true ∧ (subC c).length ≤ 1000 ∧ w ∈ ["", "word", "and", "or"] ∧ hdC c ≠ w ∧ ∀ l M', Grow d M M' → Gr (lvl w) (2 * htC c) c l → (∀ s ∈ l, tokC s = true) → l.length ≤ 4 * (subC c).length → TkC l (htC c) (subC c).length → Q (.lst (sts l)) M'
theorem par_all {l : List String} (h : ∀ s ∈ l, tokC s = true) : ∀ s ∈ "(" :: (l ++ [")"]), tokC s = true := fun s hs => by
  rcases List.mem_cons.mp hs with z | z
  · subst z; exact tokC_par.1
  · rcases List.mem_append.mp z with z | z
    · exact h s z
    · rw [List.mem_singleton] at z; subst z; exact tokC_par.2
theorem lvl_le {w : String} : lvl w ≤ 2 := by
  unfold lvl
  split
  · exact Nat.le_refl _
  · split <;> omega
theorem h_tok (n : Nat) : ∀ ds M Q E, ds.length = 3 → spTok (n + 1) ds M Q E → dSs E (c_law_condition_tokens spBr (spTok n)) { nx := fun _ M' => Q .non M', rt := Q } (startD n_law_condition_tokens.length ds) M := by
  rintro ds M Q E hl ⟨d, c, w, rfl, hd, hh, hw, hs, hww, hne, q⟩
  show dSs E (c_law_condition_tokens spBr (spTok n)) _ [some (.ptr d), some (encC c), some (.str w), none, none] M
  unfold c_law_condition_tokens
  have ll : line = 16777216 := rfl
  -- a factor, bracketed or not
  have fin : ∀ (l : List String) (M1 : Store), Grow d M M1 → Gr 0 (2 * htC c - 1) c l → (∀ s ∈ l, tokC s = true) → l.length + 2 ≤ 4 * (subC c).length → TkC l (htC c - 1) (subC c).length → spBr [.ptr d, .lst (sts l), .bl false] M1 Q E := fun l M1 gr g ht hl hcs => by
    have hp := htC_pos c
    refine ⟨d, l, false, rfl, gr.1, by omega, fun M' gr' => ?_, fun _ M' gr' => ?_⟩
    · have : Gr 0 (2 * htC c - 1 + 1) c ("(" :: (l ++ [")"])) := .par (g.up 2 (by omega))
      rw [show 2 * htC c - 1 + 1 = 2 * htC c by omega] at this
      exact q _ M' (gr.trans gr') (this.up _ lvl_le) (par_all ht) (by rw [List.length_cons, List.length_append]; show _ + 1 + 1 ≤ _; omega) (hcs.par.mono (by omega) (Nat.le_refl _))
    · exact q l M' (gr.trans gr') ((g.mono (by omega)).up _ lvl_le) ht (by omega) (hcs.mono (by omega) (Nat.le_refl _))
  have one : ∀ s, tokC s = true → ∀ x ∈ [s], tokC x = true := fun s h x hx => by rw [List.mem_singleton] at hx; subst hx; exact h
  cases c with
  | all =>
    simp only [dSs, dS, dT, dE, dEs, dTO, dTA, dAnd, dOr, dIt, dIf, gTg, gTgs, wipeD, List.map_cons, List.map_nil, getS_z, getS_s, List.set_cons_zero, List.set_cons_succ, ty_non, ty_bl, ty_int, ty_str, ty_tup, ty_lst, tk1, tk2, tk3, tk4, tk5, tk6, tk7, tk8, tk9, tk10, tk11, tk12, tk13, tk14, tk15, tk16, tk17, tk18, tk19, tk20, w_truB, w_truI, w_truN, w_truL, w_truT, w_is, w_isn, isNon_non, isNon_bl, isNon_int, isNon_str, isNon_lst, isNon_tup, w_add, w_addS, w_addT, w_addL, w_sub, w_mul, w_mod, w_fdiv, w_pow, w_neg, w_eqI, w_neI, w_eqS, w_neS, w_eqB, w_neB, w_lt, w_le, w_gt, w_ge, w_int, w_abs, w_lenL, w_lenT, w_lenS, w_tupL, w_rng1, w_in2, w_in3, bne_self, Bool.not_true, Bool.not_false, Bool.or_false, Bool.false_or, Bool.or_true, Bool.true_or, decide_true, decide_false, and_true, true_and, ixC0, hdC, show decide ("all" ∈ ["all", "none"]) = true by decide]
    exact fin ["all"] M (.refl hd) .all (one _ tokC_words.1) (by show 1 + 2 ≤ 4 * 1; omega) (.one (by decide) (by decide))
  | none =>
    simp only [dSs, dS, dT, dE, dEs, dTO, dTA, dAnd, dOr, dIt, dIf, gTg, gTgs, wipeD, List.map_cons, List.map_nil, getS_z, getS_s, List.set_cons_zero, List.set_cons_succ, ty_non, ty_bl, ty_int, ty_str, ty_tup, ty_lst, tk1, tk2, tk3, tk4, tk5, tk6, tk7, tk8, tk9, tk10, tk11, tk12, tk13, tk14, tk15, tk16, tk17, tk18, tk19, tk20, w_truB, w_truI, w_truN, w_truL, w_truT, w_is, w_isn, isNon_non, isNon_bl, isNon_int, isNon_str, isNon_lst, isNon_tup, w_add, w_addS, w_addT, w_addL, w_sub, w_mul, w_mod, w_fdiv, w_pow, w_neg, w_eqI, w_neI, w_eqS, w_neS, w_eqB, w_neB, w_lt, w_le, w_gt, w_ge, w_int, w_abs, w_lenL, w_lenT, w_lenS, w_tupL, w_rng1, w_in2, w_in3, bne_self, Bool.not_true, Bool.not_false, Bool.or_false, Bool.false_or, Bool.or_true, Bool.true_or, decide_true, decide_false, and_true, true_and, ixC0, hdC, show decide ("none" ∈ ["all", "none"]) = true by decide]
    exact fin ["none"] M (.refl hd) .none (one _ tokC_words.2.1) (by show 1 + 2 ≤ 4 * 1; omega) (.one (by decide) (by decide))
  | is s =>
    obtain ⟨t1, t2, t3, t4⟩ := tokC_name (show decide (s ∈ ["a", "b", "ab", "is"]) = true from hw)
    simp only [dSs, dS, dT, dE, dEs, dTO, dTA, dAnd, dOr, dIt, dIf, gTg, gTgs, wipeD, List.map_cons, List.map_nil, getS_z, getS_s, List.set_cons_zero, List.set_cons_succ, ty_non, ty_bl, ty_int, ty_str, ty_tup, ty_lst, tk1, tk2, tk3, tk4, tk5, tk6, tk7, tk8, tk9, tk10, tk11, tk12, tk13, tk14, tk15, tk16, tk17, tk18, tk19, tk20, w_truB, w_truI, w_truN, w_truL, w_truT, w_is, w_isn, isNon_non, isNon_bl, isNon_int, isNon_str, isNon_lst, isNon_tup, w_add, w_addS, w_addT, w_addL, w_sub, w_mul, w_mod, w_fdiv, w_pow, w_neg, w_eqI, w_neI, w_eqS, w_neS, w_eqB, w_neB, w_lt, w_le, w_gt, w_ge, w_int, w_abs, w_lenL, w_lenT, w_lenS, w_tupL, w_rng1, w_in2, w_in3, bne_self, Bool.not_true, Bool.not_false, Bool.or_false, Bool.false_or, Bool.or_true, Bool.true_or, decide_true, decide_false, and_true, true_and, ixC0, hdC, ixI1, show decide ("is" ∈ ["all", "none"]) = false by decide]
    refine fin ["is", s] M (.refl hd) (.is t2 t3) (fun x hx => ?_) (by show 2 + 2 ≤ 4 * 1; omega) (TkC.cat (a := ["is"]) (b := [s]) (u := 0) (v := 1) (.one (by decide) (by decide)) (.one (pv_word t2) t4))
    rcases List.mem_cons.mp hx with z | z
    · subst z; exact tokC_words.2.2.1
    · exact one s t1 x z
  | not c =>
    have hh' : htC c + 1 ≤ n + 1 := hh
    have hz : (subC (.not c)).length = (subC c).length + 1 := rfl
    simp only [dSs, dS, dT, dE, dEs, dTO, dTA, dAnd, dOr, dIt, dIf, gTg, gTgs, wipeD, List.map_cons, List.map_nil, getS_z, getS_s, List.set_cons_zero, List.set_cons_succ, ty_non, ty_bl, ty_int, ty_str, ty_tup, ty_lst, tk1, tk2, tk3, tk4, tk5, tk6, tk7, tk8, tk9, tk10, tk11, tk12, tk13, tk14, tk15, tk16, tk17, tk18, tk19, tk20, w_truB, w_truI, w_truN, w_truL, w_truT, w_is, w_isn, isNon_non, isNon_bl, isNon_int, isNon_str, isNon_lst, isNon_tup, w_add, w_addS, w_addT, w_addL, w_sub, w_mul, w_mod, w_fdiv, w_pow, w_neg, w_eqI, w_neI, w_eqS, w_neS, w_eqB, w_neB, w_lt, w_le, w_gt, w_ge, w_int, w_abs, w_lenL, w_lenT, w_lenS, w_tupL, w_rng1, w_in2, w_in3, bne_self, Bool.not_true, Bool.not_false, Bool.or_false, Bool.false_or, Bool.or_true, Bool.true_or, decide_true, decide_false, and_true, true_and, ixC0, hdC, ixN1, show decide ("not" ∈ ["all", "none"]) = false by decide, show decide ("not" ∈ ["and", "or"]) = false by decide]
    refine ⟨d, c, "word", rfl, hd, by omega, hw, by omega, by decide, hd_word c, fun l M1 gr g ht hl hcs => ?_⟩
    simp only [w_addL]
    refine ⟨by rw [sts_len]; show 1 + _ ≤ _; omega, .inl ?_⟩
    refine fin ("not" :: l) M1 gr ?_ (fun x hx => ?_) (by rw [List.length_cons]; omega) ((TkC.cat (a := ["not"]) (b := l) (u := 1) (h := htC c) (.one (by decide) (by decide)) hcs).mono (by show htC c ≤ htC c + 1 - 1; omega) (by rw [hz]; omega))
    · exact (Gr.not (show Gr 0 (2 * htC c) c l from g)).mono (by show 2 * htC c + 1 ≤ 2 * (htC c + 1) - 1; omega)
    · rcases List.mem_cons.mp hx with z | z
      · subst z; exact tokC_words.2.2.2.1
      · exact ht x z
  | look lk c =>
    have hh' : htC c + 1 ≤ n + 1 := hh
    have hz : (subC (.look lk c)).length = (subC c).length + 1 := rfl
    simp only [dSs, dS, dT, dE, dEs, dTO, dTA, dAnd, dOr, dIt, dIf, gTg, gTgs, wipeD, List.map_cons, List.map_nil, getS_z, getS_s, List.set_cons_zero, List.set_cons_succ, ty_non, ty_bl, ty_int, ty_str, ty_tup, ty_lst, tk1, tk2, tk3, tk4, tk5, tk6, tk7, tk8, tk9, tk10, tk11, tk12, tk13, tk14, tk15, tk16, tk17, tk18, tk19, tk20, w_truB, w_truI, w_truN, w_truL, w_truT, w_is, w_isn, isNon_non, isNon_bl, isNon_int, isNon_str, isNon_lst, isNon_tup, w_add, w_addS, w_addT, w_addL, w_sub, w_mul, w_mod, w_fdiv, w_pow, w_neg, w_eqI, w_neI, w_eqS, w_neS, w_eqB, w_neB, w_lt, w_le, w_gt, w_ge, w_int, w_abs, w_lenL, w_lenT, w_lenS, w_tupL, w_rng1, w_in2, w_in3, bne_self, Bool.not_true, Bool.not_false, Bool.or_false, Bool.false_or, Bool.or_true, Bool.true_or, decide_true, decide_false, and_true, true_and, ixC0, hdC, ixL1, nm2c, nm2, nmIs]
    refine ⟨d, c, "word", rfl, hd, by omega, hw, by omega, by decide, hd_word c, fun l M1 gr g ht hl hcs => ?_⟩
    simp only [w_addL]
    refine ⟨by rw [sts_len]; show 1 + _ ≤ _; omega, .inl ?_⟩
    refine fin (lk.nm :: l) M1 gr ?_ (fun x hx => ?_) (by rw [List.length_cons]; omega) ((TkC.cat (a := [lk.nm]) (b := l) (u := 1) (h := htC c) (.one (by cases lk <;> decide) (by cases lk <;> decide)) hcs).mono (by show htC c ≤ htC c + 1 - 1; omega) (by rw [hz]; omega))
    · exact (Gr.look (show Gr 0 (2 * htC c) c l from g)).mono (by show 2 * htC c + 1 ≤ 2 * (htC c + 1) - 1; omega)
    · rcases List.mem_cons.mp hx with z | z
      · subst z; exact tokC_look lk
      · exact ht x z
  | bin b c1 c2 =>
    have hh' : max (htC c1) (htC c2) + 1 ≤ n + 1 := hh
    have hz : (subC (.bin b c1 c2)).length = ((subC c1).length + (subC c2).length) + 1 := by show ((subC c1 ++ subC c2).length) + 1 = _; rw [List.length_append]
    obtain ⟨w1, w4⟩ := and_of (show (wfC c1 && wfC c2 && !decide (hdC c1 = binN b) && !decide (hdC c2 = binN b)) = true from hw)
    obtain ⟨w1, w3⟩ := and_of w1
    obtain ⟨w1, w2⟩ := and_of w1
    have n1 : hdC c1 ≠ binN b := by intro z; rw [decide_eq_true z] at w3; cases w3
    have n2 : hdC c2 ≠ binN b := by intro z; rw [decide_eq_true z] at w4; cases w4
    have bw : binN b ∈ ["", "word", "and", "or"] := by cases b <;> decide
    have bt : tokC (binN b) = true := by cases b <;> decide
    have p1 : 1 ≤ (subC c1).length := by cases c1 <;> simp [subC]
    have p2 : 1 ≤ (subC c2).length := by cases c2 <;> simp [subC]
    simp only [dSs, dS, dT, dE, dEs, dTO, dTA, dAnd, dOr, dIt, dIf, gTg, gTgs, wipeD, List.map_cons, List.map_nil, getS_z, getS_s, List.set_cons_zero, List.set_cons_succ, ty_non, ty_bl, ty_int, ty_str, ty_tup, ty_lst, tk1, tk2, tk3, tk4, tk5, tk6, tk7, tk8, tk9, tk10, tk11, tk12, tk13, tk14, tk15, tk16, tk17, tk18, tk19, tk20, w_truB, w_truI, w_truN, w_truL, w_truT, w_is, w_isn, isNon_non, isNon_bl, isNon_int, isNon_str, isNon_lst, isNon_tup, w_add, w_addS, w_addT, w_addL, w_sub, w_mul, w_mod, w_fdiv, w_pow, w_neg, w_eqI, w_neI, w_eqS, w_neS, w_eqB, w_neB, w_lt, w_le, w_gt, w_ge, w_int, w_abs, w_lenL, w_lenT, w_lenS, w_tupL, w_rng1, w_in2, w_in3, bne_self, Bool.not_true, Bool.not_false, Bool.or_false, Bool.false_or, Bool.or_true, Bool.true_or, decide_true, decide_false, and_true, true_and, ixC0, hdC, ixB1, bn2c, bn2, bnIs, it_T]
    rw [forGo_one]
    simp only [List.isEmpty_nil, Bool.not_true, w_addL, List.length_nil, Nat.add_zero, List.append_nil, dSs, dS, dT, dE, dEs, dTO, dTA, dAnd, dOr, dIt, dIf, gTg, gTgs, wipeD, List.map_cons, List.map_nil, getS_z, getS_s, List.set_cons_zero, List.set_cons_succ, ty_non, ty_bl, ty_int, ty_str, ty_tup, ty_lst, tk1, tk2, tk3, tk4, tk5, tk6, tk7, tk8, tk9, tk10, tk11, tk12, tk13, tk14, tk15, tk16, tk17, tk18, tk19, tk20, w_truB, w_truI, w_truN, w_truL, w_truT, w_is, w_isn, isNon_non, isNon_bl, isNon_int, isNon_str, isNon_lst, isNon_tup, w_add, w_addS, w_addT, w_addL, w_sub, w_mul, w_mod, w_fdiv, w_pow, w_neg, w_eqI, w_neI, w_eqS, w_neS, w_eqB, w_neB, w_lt, w_le, w_gt, w_ge, w_int, w_abs, w_lenL, w_lenT, w_lenS, w_tupL, w_rng1, w_in2, w_in3, bne_self, Bool.not_true, Bool.not_false, Bool.or_false, Bool.false_or, Bool.or_true, Bool.true_or, decide_true, decide_false, and_true, true_and]
    refine ⟨by omega, .inl ⟨d, c1, binN b, rfl, hd, by omega, w1, by omega, bw, n1, fun l1 M1 gr1 g1 ht1 hl1 hc1 => ?_⟩⟩
    simp only [List.nil_append, w_addL, List.length_nil, sts_len, Nat.zero_add]
    refine ⟨by omega, .inl ?_⟩
    dsimp only
    rw [forGo_one]
    have l1p : 0 < l1.length := by
      cases l1 with
      | nil =>
        exfalso
        have : ∀ {k h c l}, Gr k h c l → l ≠ [] := fun g => by induction g <;> first | (intro z; cases z; done) | assumption | (intro z; exact absurd (List.append_eq_nil_iff.mp z).2 (by simp))
        exact this g1 rfl
      | cons _ _ => simp
    have l1e : (sts l1).isEmpty = false := by cases l1 with | nil => simp at l1p | cons _ _ => rfl
    simp only [l1e, Bool.not_false, w_addL, List.length_cons, List.length_nil, sts_len, dSs, dS, dT, dE, dEs, dTO, dTA, dAnd, dOr, dIt, dIf, gTg, gTgs, wipeD, List.map_cons, List.map_nil, getS_z, getS_s, List.set_cons_zero, List.set_cons_succ, ty_non, ty_bl, ty_int, ty_str, ty_tup, ty_lst, tk1, tk2, tk3, tk4, tk5, tk6, tk7, tk8, tk9, tk10, tk11, tk12, tk13, tk14, tk15, tk16, tk17, tk18, tk19, tk20, w_truB, w_truI, w_truN, w_truL, w_truT, w_is, w_isn, isNon_non, isNon_bl, isNon_int, isNon_str, isNon_lst, isNon_tup, w_add, w_addS, w_addT, w_addL, w_sub, w_mul, w_mod, w_fdiv, w_pow, w_neg, w_eqI, w_neI, w_eqS, w_neS, w_eqB, w_neB, w_lt, w_le, w_gt, w_ge, w_int, w_abs, w_lenL, w_lenT, w_lenS, w_tupL, w_rng1, w_in2, w_in3, bne_self, Bool.not_true, Bool.not_false, Bool.or_false, Bool.false_or, Bool.or_true, Bool.true_or, decide_true, decide_false, and_true, true_and, ixC0, hdC]
    refine ⟨by omega, .inl ⟨d, c2, binN b, rfl, gr1.1, by omega, w2, by omega, bw, n2, fun l2 M2 gr2 g2 ht2 hl2 hc2 => ?_⟩⟩
    simp only [w_addL, List.length_append, List.length_cons, List.length_nil, sts_len]
    refine ⟨by omega, .inl ?_⟩
    dsimp only
    rw [forGo_nil]
    have gr := gr1.trans gr2
    have el : sts l1 ++ [D.str (binN b)] ++ sts l2 = sts (l1 ++ (binN b :: l2)) := by rw [sts_app, sts_cons, List.append_assoc]; rfl
    have tl : ∀ s ∈ l1 ++ (binN b :: l2), tokC s = true := fun s hs => by
      rcases List.mem_append.mp hs with z | z
      · exact ht1 s z
      · rcases List.mem_cons.mp z with z | z
        · subst z; exact bt
        · exact ht2 s z
    have ln : (l1 ++ (binN b :: l2)).length = l1.length + (l2.length + 1) := by rw [List.length_append, List.length_cons]
    have tkb : TkC (l1 ++ (binN b :: l2)) (max (htC c1) (htC c2)) (subC (.bin b c1 c2)).length := by
      have i1 := hc1.mono (show htC c1 ≤ max (htC c1) (htC c2) by omega) (Nat.le_refl _)
      have i2 := hc2.mono (show htC c2 ≤ max (htC c1) (htC c2) by omega) (Nat.le_refl _)
      exact (i1.cat (TkC.cat (a := [binN b]) (u := 0) (.one (by cases b <;> decide) (by cases b <;> decide)) i2)).mono (Nat.le_refl _) (by rw [hz]; omega)
    have gb : Gr (if b = true then 1 else 2) (2 * max (htC c1) (htC c2)) (.bin b c1 c2) (l1 ++ (binN b :: l2)) := by
      have h1 : 2 * htC c1 ≤ 2 * max (htC c1) (htC c2) := by omega
      have h2 : 2 * htC c2 ≤ 2 * max (htC c1) (htC c2) := by omega
      cases b with
      | true => exact Gr.and ((show Gr 0 _ c1 l1 from g1).mono h1) ((show Gr 0 _ c2 l2 from g2).mono h2) n1 n2
      | false => exact Gr.or ((show Gr 1 _ c1 l1 from g1).mono h1) ((show Gr 1 _ c2 l2 from g2).mono h2) n1 n2
    have g2' : Gr 2 (2 * max (htC c1) (htC c2)) (.bin b c1 c2) (l1 ++ (binN b :: l2)) := by cases b with | true => exact gb.up1 2 (by omega) (by omega) | false => exact gb
    have par : ∀ M', Grow d M2 M' → Q (.lst (sts ("(" :: ((l1 ++ (binN b :: l2)) ++ [")"])))) M' := fun M' gr' =>
      q _ M' (gr.trans gr') (((Gr.par g2').mono (by show _ ≤ 2 * (max (htC c1) (htC c2) + 1); omega)).up _ lvl_le) (par_all tl) (by rw [List.length_cons, List.length_append, ln]; show _ + 1 + 1 ≤ _; omega) (tkb.par.mono (Nat.le_refl _) (Nat.le_refl _))
    have needed : ∀ x : Bool, (x = false → Gr (lvl w) (2 * max (htC c1) (htC c2)) (.bin b c1 c2) (l1 ++ (binN b :: l2))) → spBr [.ptr d, .lst (sts (l1 ++ (binN b :: l2))), .bl x] M2 Q E := fun x hx =>
      ⟨d, _, x, rfl, gr.1, by omega, par, fun e M' gr' => q _ M' (gr.trans gr') ((hx e).mono (by show _ ≤ 2 * (max (htC c1) (htC c2) + 1); omega)) tl (by rw [ln]; omega) (tkb.mono (by show _ ≤ max (htC c1) (htC c2) + 1; omega) (Nat.le_refl _))⟩
    rw [el]
    simp only [dSs, dS, dT, dE, dEs, dTO, dTA, dAnd, dOr, dIt, dIf, gTg, gTgs, wipeD, List.map_cons, List.map_nil, getS_z, getS_s, List.set_cons_zero, List.set_cons_succ, ty_non, ty_bl, ty_int, ty_str, ty_tup, ty_lst, tk1, tk2, tk3, tk4, tk5, tk6, tk7, tk8, tk9, tk10, tk11, tk12, tk13, tk14, tk15, tk16, tk17, tk18, tk19, tk20, w_truB, w_truI, w_truN, w_truL, w_truT, w_is, w_isn, isNon_non, isNon_bl, isNon_int, isNon_str, isNon_lst, isNon_tup, w_add, w_addS, w_addT, w_addL, w_sub, w_mul, w_mod, w_fdiv, w_pow, w_neg, w_eqI, w_neI, w_eqS, w_neS, w_eqB, w_neB, w_lt, w_le, w_gt, w_ge, w_int, w_abs, w_lenL, w_lenT, w_lenS, w_tupL, w_rng1, w_in2, w_in3, bne_self, Bool.not_true, Bool.not_false, Bool.or_false, Bool.false_or, Bool.or_true, Bool.true_or, decide_true, decide_false, and_true, true_and, ixC0, hdC]
    simp only [List.mem_cons, List.not_mem_nil, or_false] at hww
    rcases hww with z | z | z | z <;> subst z
    · simp only [show decide (("" : String) = "word") = false by decide, show decide (("" : String) = "and") = false by decide]
      exact needed false fun _ => g2'
    · simp only [show decide (("word" : String) = "word") = true by decide]
      exact needed true fun h => by cases h
    · cases b with
      | true => exact absurd rfl hne
      | false =>
        simp only [show decide (("and" : String) = "word") = false by decide, show decide (("and" : String) = "and") = true by decide, show decide (binN false = "or") = true by decide]
        exact needed true fun h => by cases h
    · cases b with
      | false => exact absurd rfl hne
      | true =>
        simp only [show decide (("or" : String) = "word") = false by decide, show decide (("or" : String) = "and") = false by decide]
        exact needed false fun _ => gb
end K46
end VS

set_option maxHeartbeats 1000000
/-! conditions: what is changed in the tokens -/
namespace VS
open PySem PySem.Spec PyProof.Rows L2
/-- the tokens after changes -/
structure ChC (l : List String) (h : Int) : Prop where
  t : ∀ s ∈ l, tokC s = true
  m : mz l ≤ h
  n : l.length ≤ 2000
theorem ChC.take {l : List String} {h : Int} (x : ChC l h) (k : Nat) : ChC (l.take k) h :=
  ⟨fun s hs => x.t s (List.mem_of_mem_take hs), by have := mx_tk l k; have := uno_take l k; have := x.m; unfold mz at *; omega, by rw [List.length_take]; have := x.n; omega⟩
theorem ChC.swap {l m : List String} {h : Int} {a c : Nat} (x : ChC l h) (hl : l.length ≤ 1900) (ht : ∀ s ∈ m, tokC s = true) (hm : mx m ≤ 1) (hn : nt m ≤ 1) (hu : uno m ≤ 1) (hc : c = 0 ∨ c = 1) (hh : c = 1 → a < l.length) (hml : m.length ≤ 1) : ChC (l.take a ++ (m ++ l.drop (a + c))) (h + 7) := by
  refine ⟨fun s hs => ?_, ?_, ?_⟩
  · rcases List.mem_append.mp hs with z | z
    · exact x.t s (List.mem_of_mem_take z)
    · rcases List.mem_append.mp z with z | z
      · exact ht s z
      · exact x.t s (List.mem_of_mem_drop z)
  · have h0 := mx_sw hm hn hc hh
    have h1 := uno_app (l.take a) (l.drop a)
    rw [List.take_append_drop] at h1
    have h2 := uno_drop (l.drop a) c
    rw [List.drop_drop] at h2
    have := x.m
    unfold mz at *
    rw [uno_app, uno_app]
    omega
  · rw [List.length_append, List.length_append, List.length_take, List.length_drop]; omega
def sigC : List String := ["(", ")", "and", "or", "not", "is", "all", "later", "q", "abcdefghi", "-"]
theorem sigC_ok {s : String} (h : s ∈ sigC) : tokC s = true ∧ pv s ≤ 1 ∧ mx [s] ≤ 1 ∧ uno [s] ≤ 1 := by
  simp only [sigC, List.mem_cons, List.not_mem_nil, or_false] at h
  rcases h with rfl | rfl | rfl | rfl | rfl | rfl | rfl | rfl | rfl | rfl | rfl <;> exact ⟨by decide, by decide, by decide, by decide⟩
theorem sts_ne {l : List String} (h : 0 < l.length) : (sts l).isEmpty = false := by
  cases l with
  | nil => exact absurd h (by decide)
  | cons _ _ => rfl
theorem cut_from {α : Type} {xs : List α} {j : Nat} : cutD xs (some (j : Int)) none = xs.drop j := by
  unfold cutD
  rw [HT.sIx_none, HT.sIx_nat]
  by_cases h : j ≤ xs.length
  · rw [Nat.min_eq_left h, List.take_of_length_le (by rw [List.length_drop]; omega)]
  · rw [Nat.min_eq_right (by omega), List.drop_eq_nil_of_le (Nat.le_refl _), List.drop_eq_nil_of_le (by omega), List.take_nil]
namespace K46
def spCh : Spec := fun ds M Q _ => ∃ d l h, ds = [.ptr d, .lst (sts l), .lst (sts sigC)] ∧ DrawAt M d ∧ ChC l h ∧ l.length ≤ 1900 ∧ ∀ l' M', Grow d M M' → ChC l' (h + 7) → l'.length ≤ l.length + 1 → Q (.lst (sts l')) M'
theorem h_ch : ∀ ds M Q E, ds.length = 3 → spCh ds M Q E → dSs E (c_law_change spNext) { nx := fun _ M' => Q .non M', rt := Q } (startD n_law_change.length ds) M := by
  rintro ds M Q E hl ⟨d, l, h, rfl, hd, ok, hlen, q⟩
  show dSs E (c_law_change spNext) _ [some (.ptr d), some (.lst (sts l)), some (.lst (sts sigC)), none, none] M
  unfold c_law_change
  have ll : line = 16777216 := rfl
  simp only [dSs, dS, dT, dE, dEs, dTO, dTA, dAnd, dOr, dIt, dIf, gTg, gTgs, wipeD, List.map_cons, List.map_nil, getS_z, getS_s, List.set_cons_zero, List.set_cons_succ, ty_non, ty_bl, ty_int, ty_str, ty_tup, ty_lst, tk1, tk2, tk3, tk4, tk5, tk6, tk7, tk8, tk9, tk10, tk11, tk12, tk13, tk14, tk15, tk16, tk17, tk18, tk19, tk20, w_truB, w_truI, w_truN, w_truL, w_truT, w_is, w_isn, isNon_non, isNon_bl, isNon_int, isNon_str, isNon_lst, isNon_tup, w_add, w_addS, w_addT, w_addL, w_sub, w_mul, w_mod, w_fdiv, w_pow, w_neg, w_eqI, w_neI, w_eqS, w_neS, w_eqB, w_neB, w_lt, w_le, w_gt, w_ge, w_int, w_abs, w_lenL, w_lenT, w_lenS, w_tupL, w_rng1, w_in2, w_in3, bne_self, Bool.not_true, Bool.not_false, Bool.or_false, Bool.false_or, Bool.or_true, Bool.true_or, decide_true, decide_false, and_true, true_and]
  refine ⟨d, 3, rfl, by decide, by decide, hd, fun r M1 r0 r3 hd1 e1 => ?_⟩
  have gr1 : Grow d M M1 := .next hd1 e1
  have same : ∀ M', Grow d M M' → Q (.lst (sts l)) M' := fun M' g => q l M' g ⟨ok.t, by have := ok.m; omega, ok.n⟩ (by omega)
  simp only [dSs, dS, dT, dE, dEs, dTO, dTA, dAnd, dOr, dIt, dIf, gTg, gTgs, wipeD, List.map_cons, List.map_nil, getS_z, getS_s, List.set_cons_zero, List.set_cons_succ, ty_non, ty_bl, ty_int, ty_str, ty_tup, ty_lst, tk1, tk2, tk3, tk4, tk5, tk6, tk7, tk8, tk9, tk10, tk11, tk12, tk13, tk14, tk15, tk16, tk17, tk18, tk19, tk20, w_truB, w_truI, w_truN, w_truL, w_truT, w_is, w_isn, isNon_non, isNon_bl, isNon_int, isNon_str, isNon_lst, isNon_tup, w_add, w_addS, w_addT, w_addL, w_sub, w_mul, w_mod, w_fdiv, w_pow, w_neg, w_eqI, w_neI, w_eqS, w_neS, w_eqB, w_neB, w_lt, w_le, w_gt, w_ge, w_int, w_abs, w_lenL, w_lenT, w_lenS, w_tupL, w_rng1, w_in2, w_in3, bne_self, Bool.not_true, Bool.not_false, Bool.or_false, Bool.false_or, Bool.or_true, Bool.true_or, decide_true, decide_false, and_true, true_and, w_truL]
  by_cases hr : r = 0
  · simp only [decide_eq_true hr]; exact same M1 gr1
  simp only [decide_eq_false hr]
  by_cases hl0 : l = []
  · subst hl0; exact same M1 gr1
  have lp : 0 < l.length := List.length_pos_iff.mpr hl0
  simp only [sts_ne lp, Bool.not_false, Bool.not_true, sts_len]
  refine ⟨d, (l.length : Int), rfl, by omega, by omega, hd1, fun a M2 a0 a1 hd2 e2 => ?_⟩
  have gr2 := gr1.trans (.next hd2 e2)
  obtain ⟨k, rfl⟩ : ∃ k : Nat, a = (k : Int) := ⟨a.toNat, by omega⟩
  simp only [dSs, dS, dT, dE, dEs, dTO, dTA, dAnd, dOr, dIt, dIf, gTg, gTgs, wipeD, List.map_cons, List.map_nil, getS_z, getS_s, List.set_cons_zero, List.set_cons_succ, ty_non, ty_bl, ty_int, ty_str, ty_tup, ty_lst, tk1, tk2, tk3, tk4, tk5, tk6, tk7, tk8, tk9, tk10, tk11, tk12, tk13, tk14, tk15, tk16, tk17, tk18, tk19, tk20, w_truB, w_truI, w_truN, w_truL, w_truT, w_is, w_isn, isNon_non, isNon_bl, isNon_int, isNon_str, isNon_lst, isNon_tup, w_add, w_addS, w_addT, w_addL, w_sub, w_mul, w_mod, w_fdiv, w_pow, w_neg, w_eqI, w_neI, w_eqS, w_neS, w_eqB, w_neB, w_lt, w_le, w_gt, w_ge, w_int, w_abs, w_lenL, w_lenT, w_lenS, w_tupL, w_rng1, w_in2, w_in3, bne_self, Bool.not_true, Bool.not_false, Bool.or_false, Bool.false_or, Bool.or_true, Bool.true_or, decide_true, decide_false, and_true, true_and]
  refine ⟨d, 4, rfl, by decide, by decide, hd2, fun f M3 f0 f4 hd3 e3 => ?_⟩
  have gr3 := gr2.trans (.next hd3 e3)
  have ct : cutD (sts l) none (some (k : Int)) = sts (l.take k) := by rw [cut_to]; exact List.map_take.symm
  have cf : ∀ j : Nat, cutD (sts l) (some (j : Int)) none = sts (l.drop j) := fun j => by rw [cut_from]; exact List.map_drop.symm
  simp only [dSs, dS, dT, dE, dEs, dTO, dTA, dAnd, dOr, dIt, dIf, gTg, gTgs, wipeD, List.map_cons, List.map_nil, getS_z, getS_s, List.set_cons_zero, List.set_cons_succ, ty_non, ty_bl, ty_int, ty_str, ty_tup, ty_lst, tk1, tk2, tk3, tk4, tk5, tk6, tk7, tk8, tk9, tk10, tk11, tk12, tk13, tk14, tk15, tk16, tk17, tk18, tk19, tk20, w_truB, w_truI, w_truN, w_truL, w_truT, w_is, w_isn, isNon_non, isNon_bl, isNon_int, isNon_str, isNon_lst, isNon_tup, w_add, w_addS, w_addT, w_addL, w_sub, w_mul, w_mod, w_fdiv, w_pow, w_neg, w_eqI, w_neI, w_eqS, w_neS, w_eqB, w_neB, w_lt, w_le, w_gt, w_ge, w_int, w_abs, w_lenL, w_lenT, w_lenS, w_tupL, w_rng1, w_in2, w_in3, bne_self, Bool.not_true, Bool.not_false, Bool.or_false, Bool.false_or, Bool.or_true, Bool.true_or, decide_true, decide_false, and_true, true_and, w_slL, optI_f, optI_t, ct]
  by_cases h0 : f = 0
  · simp only [decide_eq_true h0]
    exact .inl (q _ M3 gr3 ⟨(ok.take k).t, by have := (ok.take k).m; omega, (ok.take k).n⟩ (by rw [List.length_take]; omega))
  simp only [decide_eq_false h0]
  by_cases h1 : f = 1
  · simp only [decide_eq_true h1]
    refine .inl ?_
    rw [show ((k : Int) + 1) = ((k + 1 : Nat) : Int) by omega, cf]
    refine .inl ?_
    simp only [w_addL, sts_len]
    refine ⟨by rw [List.length_take, List.length_drop]; omega, .inl ?_⟩
    rw [← sts_app]
    have := ok.swap (a := k) (c := 1) (m := []) hlen (fun s h => by cases h) (by decide) (by decide) (by decide) (.inr rfl) (fun _ => by omega) (Nat.zero_le _)
    rw [List.nil_append] at this
    exact q _ M3 gr3 this (by rw [List.length_append, List.length_take, List.length_drop]; omega)
  simp only [decide_eq_false h1]
  refine .inl ?_
  refine ⟨d, 11, rfl, by decide, by decide, hd3, fun i M4 i0 i3 hd4 e4 => ?_⟩
  have gr4 := gr3.trans (.next hd4 e4)
  obtain ⟨s, hs, ex⟩ := pick_str (ss := sigC) i0 i3
  obtain ⟨s1, s2, s3, s4⟩ := sigC_ok hs
  obtain ⟨c, hc, ec⟩ : ∃ c : Nat, (c = 0 ∨ c = 1) ∧ f = (c : Int) + 2 := by
    rcases (show f = 2 ∨ f = 3 by omega) with z | z
    · exact ⟨0, .inl rfl, by omega⟩
    · exact ⟨1, .inr rfl, by omega⟩
  have ex' : ∀ (M : Store) (Q : DK), wIx (.lst (sts sigC)) (.int i) M Q = Q (.str s) M := ex
  simp only [ex', w_addL, sts_len]
  refine ⟨by rw [List.length_take]; show _ + 1 ≤ _; omega, .inl ?_⟩
  rw [show (k : Int) + f - 2 = ((k + c : Nat) : Int) by omega, cf]
  refine .inl ?_
  simp only [w_addL]
  refine ⟨by rw [List.length_append, sts_len, sts_len, List.length_take, List.length_drop]; show _ + 1 + _ ≤ _; omega, .inl ?_⟩
  have := ok.swap (a := k) (c := c) (m := [s]) hlen (fun z h => by rw [List.mem_singleton] at h; subst h; exact s1) s3 (by rw [nt_one]; exact s2) s4 hc (fun _ => by omega) (Nat.le_refl _)
  rw [show sts (l.take k) ++ [D.str s] ++ sts (l.drop (k + c)) = sts (l.take k ++ ([s] ++ l.drop (k + c))) by rw [sts_app, sts_app, List.append_assoc]; rfl]
  refine q _ M4 gr4 this ?_
  rw [List.length_append, List.length_append, List.length_take, List.length_drop]
  show _ + (1 + _) ≤ _
  omega
end K46
end VS

/-! the law's text of tokens -/
namespace VS
open PySem PySem.Spec PyProof.Rows L2
namespace K46
def spText (S : List Char) : Spec := fun ds M Q _ => ∃ d l, ds = [.ptr d, .lst (sts l)] ∧ DrawAt M d ∧ (∀ s ∈ l, tok8 S s = true) ∧ l.length ≤ 5000 ∧ ∀ t q pl M', Grow d M M' → Grown S l t pl → t.length ≤ 2 + 20 * l.length → M' q = some (.lst (intsD pl)) → M q = none → Q (.tup [.str t, .ptr q]) M'
theorem h_text (S : List Char) : ∀ ds M Q E, ds.length = 2 → spText S ds M Q E → dSs E (c_law_text spNext) { nx := fun _ M' => Q .non M', rt := Q } (startD n_law_text.length ds) M := by
  rintro ds M Q E hl ⟨d, l, rfl, hd, hk, hlen, q⟩
  show dSs E (c_law_text spNext) _ [some (.ptr d), some (.lst (sts l)), none, none, none] M
  unfold c_law_text
  have ll : line = 16777216 := rfl
  simp only [dSs, dS, dT, dE, dEs, dTO, dTA, dAnd, dOr, dIt, dIf, gTg, gTgs, wipeD, List.map_cons, List.map_nil, getS_z, getS_s, List.set_cons_zero, List.set_cons_succ, ty_non, ty_bl, ty_int, ty_str, ty_tup, ty_lst, tk1, tk2, tk3, tk4, tk5, tk6, tk7, tk8, tk9, tk10, tk11, tk12, tk13, tk14, tk15, tk16, tk17, tk18, tk19, tk20, w_truB, w_truI, w_truN, w_truL, w_truT, w_is, w_isn, isNon_non, isNon_bl, isNon_int, isNon_str, isNon_lst, isNon_tup, w_add, w_addS, w_addT, w_addL, w_sub, w_mul, w_mod, w_fdiv, w_pow, w_neg, w_eqI, w_neI, w_eqS, w_neS, w_eqB, w_neB, w_lt, w_le, w_gt, w_ge, w_int, w_abs, w_lenL, w_lenT, w_lenS, w_tupL, w_rng1, w_in2, w_in3, bne_self, Bool.not_true, Bool.not_false, Bool.or_false, Bool.false_or, Bool.or_true, Bool.true_or, decide_true, decide_false, and_true, true_and, it_L]
  refine ⟨d, 2, rfl, by decide, by decide, hd, fun r M1 r0 r2 hd1 e1 => ?_⟩
  obtain ⟨w, hw, ew0⟩ := pick_str (ss := ["", " "]) r0 r2
  have ew : ∀ (M : Store) (Q : DK), wIx (.lst [D.str "", .str " "]) (.int r) M Q = Q (.str w) M := ew0
  have gr1 : Grow d M M1 := .next hd1 e1
  have hw1 : wsB w.toList = true ∧ w.length ≤ 1 := by
    simp only [List.mem_cons, List.not_mem_nil, or_false] at hw
    rcases hw with rfl | rfl <;> exact ⟨by decide, by decide⟩
  simp only [ew, dSs, dS, dT, dE, dEs, dTO, dTA, dAnd, dOr, dIt, dIf, gTg, gTgs, wipeD, List.map_cons, List.map_nil, getS_z, getS_s, List.set_cons_zero, List.set_cons_succ, ty_non, ty_bl, ty_int, ty_str, ty_tup, ty_lst, tk1, tk2, tk3, tk4, tk5, tk6, tk7, tk8, tk9, tk10, tk11, tk12, tk13, tk14, tk15, tk16, tk17, tk18, tk19, tk20, w_truB, w_truI, w_truN, w_truL, w_truT, w_is, w_isn, isNon_non, isNon_bl, isNon_int, isNon_str, isNon_lst, isNon_tup, w_add, w_addS, w_addT, w_addL, w_sub, w_mul, w_mod, w_fdiv, w_pow, w_neg, w_eqI, w_neI, w_eqS, w_neS, w_eqB, w_neB, w_lt, w_le, w_gt, w_ge, w_int, w_abs, w_lenL, w_lenT, w_lenS, w_tupL, w_rng1, w_in2, w_in3, bne_self, Bool.not_true, Bool.not_false, Bool.or_false, Bool.false_or, Bool.or_true, Bool.true_or, decide_true, decide_false, and_true, true_and]
  intro p hp
  have hpd : p ≠ d := Grow.ne hd1 hp
  have hp0 : M p = none := gr1.non hpd hp
  refine forGo_inv (fun j σ M' => ∃ (o : Option D) (t : String) (pl : List Nat), σ = [some (.ptr d), some (.lst (sts l)), some (.str t), some (.ptr p), o] ∧ Grow d M M' ∧ Grown S (l.take j) t pl ∧ M' p = some (.lst (intsD pl)) ∧ t.length ≤ 1 + 20 * j ∧ pl.length = j) _ (fun _ _ _ _ => trivial) ?_ ?_ ?_
  · rintro j x σ M2 nx hx ⟨o, t, pl, rfl, gr, hg, hM2, ht, hpl⟩ hn
    obtain ⟨s, hs, rfl⟩ := map_at hx
    have hj : j < l.length := (List.getElem?_eq_some_iff.mp hs).1
    obtain ⟨k1, k2⟩ := and_of (hk s (List.mem_of_getElem? hs))
    have k2 := of_decide_eq_true k2
    have etk : l.take (j + 1) = l.take j ++ [s] := by rw [List.take_succ, hs]; rfl
    simp only [dSs, dS, dT, dE, dEs, dTO, dTA, dAnd, dOr, dIt, dIf, gTg, gTgs, wipeD, List.map_cons, List.map_nil, getS_z, getS_s, List.set_cons_zero, List.set_cons_succ, ty_non, ty_bl, ty_int, ty_str, ty_tup, ty_lst, tk1, tk2, tk3, tk4, tk5, tk6, tk7, tk8, tk9, tk10, tk11, tk12, tk13, tk14, tk15, tk16, tk17, tk18, tk19, tk20, w_truB, w_truI, w_truN, w_truL, w_truT, w_is, w_isn, isNon_non, isNon_bl, isNon_int, isNon_str, isNon_lst, isNon_tup, w_add, w_addS, w_addT, w_addL, w_sub, w_mul, w_mod, w_fdiv, w_pow, w_neg, w_eqI, w_neI, w_eqS, w_neS, w_eqB, w_neB, w_lt, w_le, w_gt, w_ge, w_int, w_abs, w_lenL, w_lenT, w_lenS, w_tupL, w_rng1, w_in2, w_in3, bne_self, Bool.not_true, Bool.not_false, Bool.or_false, Bool.false_or, Bool.or_true, Bool.true_or, decide_true, decide_false, and_true, true_and, w_appTy hM2]
    refine ⟨by omega, ?_⟩
    simp only [w_app hM2, intsD_len]
    refine ⟨by omega, by omega, ?_⟩
    have gr2 : Grow d M (M2.put p (.lst (intsD pl ++ [.int (t.length : Int)]))) := gr.put hpd hp0
    refine ⟨d, 3, rfl, by decide, by decide, gr2.1, fun r' M3 r0' r3' hd3 e3 => ?_⟩
    obtain ⟨v, hv, ev0⟩ := pick_str (ss := [" ", "\n", "  "]) r0' r3'
    have ev : ∀ (M : Store) (Q : DK), wIx (.lst [D.str " ", .str "\n", .str "  "]) (.int r') M Q = Q (.str v) M := ev0
    have hv1 : wsB v.toList = true ∧ v.toList ≠ [] ∧ v.length ≤ 2 := by
      simp only [List.mem_cons, List.not_mem_nil, or_false] at hv
      rcases hv with rfl | rfl | rfl <;> exact ⟨by decide, by decide, by decide⟩
    have z1 : (t ++ s).length = t.length + s.length := String.length_append _ _
    have z2 : (t ++ s ++ v).length = (t ++ s).length + v.length := String.length_append _ _
    simp only [ev, dSs, dS, dT, dE, dEs, dTO, dTA, dAnd, dOr, dIt, dIf, gTg, gTgs, wipeD, List.map_cons, List.map_nil, getS_z, getS_s, List.set_cons_zero, List.set_cons_succ, ty_non, ty_bl, ty_int, ty_str, ty_tup, ty_lst, tk1, tk2, tk3, tk4, tk5, tk6, tk7, tk8, tk9, tk10, tk11, tk12, tk13, tk14, tk15, tk16, tk17, tk18, tk19, tk20, w_truB, w_truI, w_truN, w_truL, w_truT, w_is, w_isn, isNon_non, isNon_bl, isNon_int, isNon_str, isNon_lst, isNon_tup, w_add, w_addS, w_addT, w_addL, w_sub, w_mul, w_mod, w_fdiv, w_pow, w_neg, w_eqI, w_neI, w_eqS, w_neS, w_eqB, w_neB, w_lt, w_le, w_gt, w_ge, w_int, w_abs, w_lenL, w_lenT, w_lenS, w_tupL, w_rng1, w_in2, w_in3, bne_self, Bool.not_true, Bool.not_false, Bool.or_false, Bool.false_or, Bool.or_true, Bool.true_or, decide_true, decide_false, and_true, true_and]
    refine ⟨by omega, hn _ _ ⟨_, _, pl ++ [t.length], rfl, gr2.trans (.next hd3 e3), ?_, ?_, by omega, by rw [List.length_append]; show _ + 1 = _; omega⟩⟩
    · rw [etk]; exact hg.snoc k1 hv1.1 hv1.2.1
    · rw [e3 p hpd, put_same]; show _ = some (MO.lst (intsD (pl ++ [t.length]))); unfold intsD; rw [List.map_append]; rfl
  · exact ⟨none, w, [], rfl, gr1.put hpd hp0, .start hw1.1, put_same, by omega, rfl⟩
  · rintro σ M2 ⟨o, t, pl, rfl, gr, hg, hM2, ht, hpl⟩
    rw [sts_len] at ht
    rw [sts_len, List.take_length] at hg
    simp only [dSs, dS, dT, dE, dEs, dTO, dTA, dAnd, dOr, dIt, dIf, gTg, gTgs, wipeD, List.map_cons, List.map_nil, getS_z, getS_s, List.set_cons_zero, List.set_cons_succ, ty_non, ty_bl, ty_int, ty_str, ty_tup, ty_lst, tk1, tk2, tk3, tk4, tk5, tk6, tk7, tk8, tk9, tk10, tk11, tk12, tk13, tk14, tk15, tk16, tk17, tk18, tk19, tk20, w_truB, w_truI, w_truN, w_truL, w_truT, w_is, w_isn, isNon_non, isNon_bl, isNon_int, isNon_str, isNon_lst, isNon_tup, w_add, w_addS, w_addT, w_addL, w_sub, w_mul, w_mod, w_fdiv, w_pow, w_neg, w_eqI, w_neI, w_eqS, w_neS, w_eqB, w_neB, w_lt, w_le, w_gt, w_ge, w_int, w_abs, w_lenL, w_lenT, w_lenS, w_tupL, w_rng1, w_in2, w_in3, bne_self, Bool.not_true, Bool.not_false, Bool.or_false, Bool.false_or, Bool.or_true, Bool.true_or, decide_true, decide_false, and_true, true_and]
    exact q t p pl M2 gr hg (by omega) hM2 hp0
end K46
end VS

set_option maxHeartbeats 1000000
/-! conditions: the law's steps and what it holds due -/
namespace VS
open PySem PySem.Spec PyProof.Rows L2
section
variable {M : Store} {Q : DK} {s a b c d e f g : String} {ch : Char}
theorem w_lea : wCmp .le (.str "a") (.str (String.singleton ch)) M Q = Q (.bl (decide (97 ≤ ch.toNat))) M := by
  show Q (.bl (strLe "a" (String.singleton ch))) M = _
  rw [le_a]
theorem w_lez : wCmp .le (.str (String.singleton ch)) (.str "z") M Q = Q (.bl (decide (ch.toNat ≤ 122))) M := by
  show Q (.bl (strLe (String.singleton ch) "z")) M = _
  rw [le_z]
theorem w_in7 : wCmp .in_ (.str s) (.tup [.str a, .str b, .str c, .str d, .str e, .str f, .str g]) M Q = Q (.bl (decide (s ∈ [a, b, c, d, e, f, g]))) M := w_in [a, b, c, d, e, f, g]
end
theorem tokC_ne {s : String} (h : tokC s = true) : ∃ c r, s.toList = c :: r ∧ frstL s = isLet c ∧ s.length ≤ 12 := by
  obtain ⟨h1, h2⟩ := and_of (show (tokB sgK s && decide (s.length ≤ 12)) = true from h)
  have h2 := of_decide_eq_true h2
  unfold frstL
  cases e : s.toList with
  | nil =>
    unfold tokB wordB at h1
    rw [e] at h1
    have h1 : (false || sgK.any fun c => decide (s = String.singleton c)) = true := h1
    rw [Bool.false_or] at h1
    obtain ⟨c, _, hc⟩ := List.any_eq_true.mp h1
    have hc := of_decide_eq_true hc
    rw [hc] at e
    have : (String.singleton c).toList = [c] := by simp
    rw [this] at e; cases e
  | cons c r => exact ⟨c, r, rfl, rfl, h2⟩
inductive DueC (c : Cond) (l : List String) (pl : List Nat) (n : Nat) (ch : Bool) : String → Nat → Prop
  | dash {k : Nat} : l[k]? = some "-" → (∀ i, i < k → l[i]? ≠ some "-") → DueC c l pl n ch "unknown character" (pl.getD k 0)
  | wrong {k : Nat} {s : String × Int} : (∀ s ∈ l, s ≠ "-") → cRun "factor" 0 0 l = (some k, s) → DueC c l pl n ch "unexpected token" (pl.getD k 0)
  | fin {st : String} {lv : Int} : (∀ s ∈ l, s ≠ "-") → cRun "factor" 0 0 l = (none, st, lv) → st ≠ "behind" ∨ 0 < lv → DueC c l pl n ch "unexpected end" n
  | any {lv : Int} : (∀ s ∈ l, s ≠ "-") → cRun "factor" 0 0 l = (none, "behind", lv) → ¬ 0 < lv → ch = true → DueC c l pl n ch "any" 0
  | parts {lv : Int} : (∀ s ∈ l, s ≠ "-") → cRun "factor" 0 0 l = (none, "behind", lv) → ¬ 0 < lv → ch = false → 12 < partsC c → DueC c l pl n ch "too many parts" (pl.getD 0 0)
  | looks {lv : Int} : (∀ s ∈ l, s ≠ "-") → cRun "factor" 0 0 l = (none, "behind", lv) → ¬ 0 < lv → ch = false → ¬ 12 < partsC c → 4 < looksC c → DueC c l pl n ch "too many looks" (pl.getD 0 0)
  | ok {lv : Int} : (∀ s ∈ l, s ≠ "-") → cRun "factor" 0 0 l = (none, "behind", lv) → ¬ 0 < lv → ch = false → ¬ 12 < partsC c → ¬ 4 < looksC c → DueC c l pl n ch "condition" 0
theorem pl_at {M : Store} {q : Addr} {pl : List Nat} {k : Nat} {Q : DK} (h : M q = some (.lst (intsD pl))) (hk : k < pl.length) : wIx (.ptr q) (.int (k : Int)) M Q = Q (.int ((pl.getD k 0 : Nat) : Int)) M := by
  rw [show pl.getD k 0 = pl[k] by rw [List.getD_eq_getElem?_getD, List.getElem?_eq_getElem hk]; rfl]
  refine w_ixP h (atI_natD ?_)
  show (pl.map fun (n : Nat) => D.int (n : Int))[k]? = _
  rw [List.getElem?_map, List.getElem?_eq_getElem hk]; rfl
namespace K46
def spStep : Spec := fun ds M Q _ => ∃ (t st : String) (lv : Int), ds = [.str t, .str st, .int lv] ∧ tokC t = true ∧ Q (.tup [.str (cStep t st lv).1, .int (cStep t st lv).2]) M
theorem h_step : ∀ ds M Q E, ds.length = 3 → spStep ds M Q E → dSs E c_law_step { nx := fun _ M' => Q .non M', rt := Q } (startD n_law_step.length ds) M := by
  rintro ds M Q E hl ⟨t, st, lv, rfl, ht, q⟩
  show dSs E c_law_step _ [some (.str t), some (.str st), some (.int lv), none] M
  unfold c_law_step
  have ll : line = 16777216 := rfl
  obtain ⟨c, r, ec, fc, lc⟩ := tokC_ne ht
  have e0 : ∀ (M : Store) (Q : DK), wIx (.str t) (.int 0) M Q = Q (.str (String.singleton c)) M := fun M Q => w_ixS (i := 0) (by omega) (by rw [ec]; rfl)
  unfold cStep at q
  simp only [dSs, dS, dT, dE, dEs, dTO, dTA, dAnd, dOr, dIt, dIf, gTg, gTgs, wipeD, List.map_cons, List.map_nil, getS_z, getS_s, List.set_cons_zero, List.set_cons_succ, ty_non, ty_bl, ty_int, ty_str, ty_tup, ty_lst, tk1, tk2, tk3, tk4, tk5, tk6, tk7, tk8, tk9, tk10, tk11, tk12, tk13, tk14, tk15, tk16, tk17, tk18, tk19, tk20, w_truB, w_truI, w_truN, w_truL, w_truT, w_is, w_isn, isNon_non, isNon_bl, isNon_int, isNon_str, isNon_lst, isNon_tup, w_add, w_addS, w_addT, w_addL, w_sub, w_mul, w_mod, w_fdiv, w_pow, w_neg, w_eqI, w_neI, w_eqS, w_neS, w_eqB, w_neB, w_lt, w_le, w_gt, w_ge, w_int, w_abs, w_lenL, w_lenT, w_lenS, w_tupL, w_rng1, w_in2, w_in3, bne_self, Bool.not_true, Bool.not_false, Bool.or_false, Bool.false_or, Bool.or_true, Bool.true_or, decide_true, decide_false, and_true, true_and, e0, w_lea, w_lez, w_in7]
  by_cases h1 : st = "name"
  · simp only [if_pos h1] at q
    simp only [decide_eq_true h1]
    unfold isLet at fc
    have no : ¬ (frstL t = true ∧ t.length ≤ 8) → Q (.tup [.str "wrong", .int lv]) M := fun h => by
      simp only [if_neg h] at q; exact q
    cases hc : decide (97 ≤ c.toNat) with
    | false =>
      rw [hc, Bool.false_and] at fc
      exact no fun z => by rw [fc] at z; exact Bool.false_ne_true z.1
    | true =>
      rw [hc, Bool.true_and] at fc
      cases hd : decide (c.toNat ≤ 122) with
      | false =>
        rw [hd] at fc
        exact no fun z => by rw [fc] at z; exact Bool.false_ne_true z.1
      | true =>
        rw [hd] at fc
        refine ⟨by omega, ?_⟩
        by_cases h8 : t.length ≤ 8
        · simp only [if_pos (show frstL t = true ∧ t.length ≤ 8 from ⟨fc, h8⟩)] at q
          simp only [decide_eq_true (show ((t.length : Int) ≤ 8) by omega)]
          exact q
        · simp only [decide_eq_false (show ¬ ((t.length : Int) ≤ 8) by omega)]
          exact no fun z => h8 z.2
  simp only [if_neg h1] at q
  simp only [decide_eq_false h1]
  by_cases h2 : st = "factor"
  · simp only [if_pos h2] at q
    simp only [decide_eq_true h2]
    by_cases h3 : t ∈ ["all", "none"]
    · simp only [if_pos h3] at q
      simp only [decide_eq_true h3]; exact q
    simp only [if_neg h3] at q
    simp only [decide_eq_false h3]
    by_cases h4 : t = "is"
    · simp only [if_pos h4] at q
      simp only [decide_eq_true h4]; exact q
    simp only [if_neg h4] at q
    simp only [decide_eq_false h4]
    by_cases h5 : t = "("
    · simp only [if_pos h5] at q
      simp only [decide_eq_true h5]; exact q
    simp only [if_neg h5] at q
    simp only [decide_eq_false h5]
    by_cases h6 : t ∈ unL
    · simp only [if_pos h6] at q
      have h6' : t ∈ ["not", "child", "below", "parent", "above", "earlier", "later"] := h6
      simp only [decide_eq_true h6']; exact q
    · simp only [if_neg h6] at q
      have h6' : t ∉ ["not", "child", "below", "parent", "above", "earlier", "later"] := h6
      simp only [decide_eq_false h6']; exact q
  simp only [if_neg h2] at q
  simp only [decide_eq_false h2]
  by_cases h3 : t ∈ ["and", "or"]
  · simp only [if_pos h3] at q
    simp only [decide_eq_true h3]; exact q
  simp only [if_neg h3] at q
  simp only [decide_eq_false h3]
  by_cases h4 : t = ")"
  · simp only [decide_eq_true h4]
    by_cases h5 : 0 < lv
    · simp only [if_pos (show t = ")" ∧ 0 < lv from ⟨h4, h5⟩)] at q
      simp only [decide_eq_true h5]; exact q
    · simp only [if_neg (show ¬ (t = ")" ∧ 0 < lv) from fun z => h5 z.2)] at q
      simp only [decide_eq_false h5]; exact q
  · simp only [if_neg (show ¬ (t = ")" ∧ 0 < lv) from fun z => h4 z.1)] at q
    simp only [decide_eq_false h4]; exact q
def spDueC : Spec := fun ds M Q _ => ∃ (c : Cond) (l : List String) (t : String) (q : Addr) (pl : List Nat) (ch : Bool), ds = [encC c, .lst (sts l), .str t, .ptr q, .bl ch] ∧ htC c ≤ 9 ∧ (∀ s ∈ l, tokC s = true) ∧ l.length ≤ 100000 ∧ t.length ≤ 100000 ∧ M q = some (.lst (intsD pl)) ∧ pl.length = l.length ∧
  ∀ m a, DueC c l pl t.length ch m a → Q (.tup [.str m, .int ((a : Nat) : Int)]) M
theorem h_due : ∀ ds M Q E, ds.length = 5 → spDueC ds M Q E → dSs E (c_law_due spStep (spC partsC 9) (spC looksC 9)) { nx := fun _ M' => Q .non M', rt := Q } (startD n_law_due.length ds) M := by
  rintro ds M Q E hl ⟨c, l, t, q, pl, ch, rfl, hh, ht, hlen, tlen, hq, hp, fin⟩
  show dSs E (c_law_due spStep (spC partsC 9) (spC looksC 9)) _ [some (encC c), some (.lst (sts l)), some (.str t), some (.ptr q), some (.bl ch), none, none, none] M
  unfold c_law_due
  have ll : line = 16777216 := rfl
  simp only [dSs, dS, dT, dE, dEs, dTO, dTA, dAnd, dOr, dIt, dIf, gTg, gTgs, wipeD, List.map_cons, List.map_nil, getS_z, getS_s, List.set_cons_zero, List.set_cons_succ, ty_non, ty_bl, ty_int, ty_str, ty_tup, ty_lst, tk1, tk2, tk3, tk4, tk5, tk6, tk7, tk8, tk9, tk10, tk11, tk12, tk13, tk14, tk15, tk16, tk17, tk18, tk19, tk20, w_truB, w_truI, w_truN, w_truL, w_truT, w_is, w_isn, isNon_non, isNon_bl, isNon_int, isNon_str, isNon_lst, isNon_tup, w_add, w_addS, w_addT, w_addL, w_sub, w_mul, w_mod, w_fdiv, w_pow, w_neg, w_eqI, w_neI, w_eqS, w_neS, w_eqB, w_neB, w_lt, w_le, w_gt, w_ge, w_int, w_abs, w_lenL, w_lenT, w_lenS, w_tupL, w_rng1, w_in2, w_in3, bne_self, Bool.not_true, Bool.not_false, Bool.or_false, Bool.false_or, Bool.or_true, Bool.true_or, decide_true, decide_false, and_true, true_and, sts_len]
  refine ⟨⟨by omega, by omega⟩, by omega, ?_⟩
  refine forGo_inv (fun j σ M' => ∃ o5 : Option D, σ = [some (encC c), some (.lst (sts l)), some (.str t), some (.ptr q), some (.bl ch), o5, none, none] ∧ M' = M ∧ ∀ i, i < j → l[i]? ≠ some "-") _ (fun _ _ _ _ => trivial) ?_ ?_ ?_
  · rintro j x σ M2 nx hx ⟨o3, rfl, rfl, nd⟩ hn
    obtain ⟨hj, rfl⟩ := rng_at (n := l.length) hx
    have et : l[j]? = some l[j] := List.getElem?_eq_getElem hj
    generalize l[j] = s at et
    simp only [dSs, dS, dT, dE, dEs, dTO, dTA, dAnd, dOr, dIt, dIf, gTg, gTgs, wipeD, List.map_cons, List.map_nil, getS_z, getS_s, List.set_cons_zero, List.set_cons_succ, ty_non, ty_bl, ty_int, ty_str, ty_tup, ty_lst, tk1, tk2, tk3, tk4, tk5, tk6, tk7, tk8, tk9, tk10, tk11, tk12, tk13, tk14, tk15, tk16, tk17, tk18, tk19, tk20, w_truB, w_truI, w_truN, w_truL, w_truT, w_is, w_isn, isNon_non, isNon_bl, isNon_int, isNon_str, isNon_lst, isNon_tup, w_add, w_addS, w_addT, w_addL, w_sub, w_mul, w_mod, w_fdiv, w_pow, w_neg, w_eqI, w_neI, w_eqS, w_neS, w_eqB, w_neB, w_lt, w_le, w_gt, w_ge, w_int, w_abs, w_lenL, w_lenT, w_lenS, w_tupL, w_rng1, w_in2, w_in3, bne_self, Bool.not_true, Bool.not_false, Bool.or_false, Bool.false_or, Bool.or_true, Bool.true_or, decide_true, decide_false, and_true, true_and, st_at et]
    by_cases hs : s = "-"
    · simp only [decide_eq_true hs, pl_at hq (show j < pl.length by omega)]
      exact fin _ _ (.dash (by rw [et, hs]) nd)
    · simp only [decide_eq_false hs]
      refine hn _ _ ⟨_, rfl, rfl, fun i hi => ?_⟩
      by_cases e : i = j
      · subst e; rw [et]; exact fun z => hs (Option.some.inj z)
      · exact nd i (by omega)
  · exact ⟨none, rfl, rfl, fun i hi => by omega⟩
  rintro σ M2 ⟨o3, rfl, rfl, nd⟩
  rw [rngD_len, show (((l.length : Nat) : Int) - 0).toNat = l.length by omega] at nd
  have nd : ∀ s ∈ l, s ≠ "-" := fun s hs e => by
    obtain ⟨i, hi, ei⟩ := List.getElem_of_mem hs
    exact nd i hi (by rw [List.getElem?_eq_getElem hi, ei, e])
  refine ⟨_, rfl, ?_⟩
  simp only [dSs, dS, dT, dE, dEs, dTO, dTA, dAnd, dOr, dIt, dIf, gTg, gTgs, wipeD, List.map_cons, List.map_nil, getS_z, getS_s, List.set_cons_zero, List.set_cons_succ, ty_non, ty_bl, ty_int, ty_str, ty_tup, ty_lst, tk1, tk2, tk3, tk4, tk5, tk6, tk7, tk8, tk9, tk10, tk11, tk12, tk13, tk14, tk15, tk16, tk17, tk18, tk19, tk20, w_truB, w_truI, w_truN, w_truL, w_truT, w_is, w_isn, isNon_non, isNon_bl, isNon_int, isNon_str, isNon_lst, isNon_tup, w_add, w_addS, w_addT, w_addL, w_sub, w_mul, w_mod, w_fdiv, w_pow, w_neg, w_eqI, w_neI, w_eqS, w_neS, w_eqB, w_neB, w_lt, w_le, w_gt, w_ge, w_int, w_abs, w_lenL, w_lenT, w_lenS, w_tupL, w_rng1, w_in2, w_in3, bne_self, Bool.not_true, Bool.not_false, Bool.or_false, Bool.false_or, Bool.or_true, Bool.true_or, decide_true, decide_false, and_true, true_and, sts_len]
  refine ⟨⟨by omega, by omega⟩, by omega, ?_⟩
  refine forGo_inv (fun j σ M' => ∃ (o5 : Option D) (st : String) (lv : Int), σ = [some (encC c), some (.lst (sts l)), some (.str t), some (.ptr q), some (.bl ch), o5, some (.str st), some (.int lv)] ∧ M' = M2 ∧ cRun "factor" 0 0 l = cRun st lv j (l.drop j)) _ (fun _ _ _ _ => trivial) ?_ ?_ ?_
  · rintro j x σ M3 nx hx ⟨o5, st, lv, rfl, rfl, hr⟩ hn
    obtain ⟨hj, rfl⟩ := rng_at (n := l.length) hx
    have et : l[j]? = some l[j] := List.getElem?_eq_getElem hj
    have ed : l.drop j = l[j] :: l.drop (j + 1) := List.drop_eq_getElem_cons hj
    generalize l[j] = s at et ed
    rw [ed] at hr
    have hr : cRun "factor" 0 0 l = if (cStep s st lv).1 = "wrong" then (some j, cStep s st lv) else cRun (cStep s st lv).1 (cStep s st lv).2 (j + 1) (l.drop (j + 1)) := hr
    simp only [dSs, dS, dT, dE, dEs, dTO, dTA, dAnd, dOr, dIt, dIf, gTg, gTgs, wipeD, List.map_cons, List.map_nil, getS_z, getS_s, List.set_cons_zero, List.set_cons_succ, ty_non, ty_bl, ty_int, ty_str, ty_tup, ty_lst, tk1, tk2, tk3, tk4, tk5, tk6, tk7, tk8, tk9, tk10, tk11, tk12, tk13, tk14, tk15, tk16, tk17, tk18, tk19, tk20, w_truB, w_truI, w_truN, w_truL, w_truT, w_is, w_isn, isNon_non, isNon_bl, isNon_int, isNon_str, isNon_lst, isNon_tup, w_add, w_addS, w_addT, w_addL, w_sub, w_mul, w_mod, w_fdiv, w_pow, w_neg, w_eqI, w_neI, w_eqS, w_neS, w_eqB, w_neB, w_lt, w_le, w_gt, w_ge, w_int, w_abs, w_lenL, w_lenT, w_lenS, w_tupL, w_rng1, w_in2, w_in3, bne_self, Bool.not_true, Bool.not_false, Bool.or_false, Bool.false_or, Bool.or_true, Bool.true_or, decide_true, decide_false, and_true, true_and, st_at et]
    refine ⟨s, st, lv, rfl, ht s (List.mem_of_getElem? et), ?_⟩
    simp only [dSs, dS, dT, dE, dEs, dTO, dTA, dAnd, dOr, dIt, dIf, gTg, gTgs, wipeD, List.map_cons, List.map_nil, getS_z, getS_s, List.set_cons_zero, List.set_cons_succ, ty_non, ty_bl, ty_int, ty_str, ty_tup, ty_lst, tk1, tk2, tk3, tk4, tk5, tk6, tk7, tk8, tk9, tk10, tk11, tk12, tk13, tk14, tk15, tk16, tk17, tk18, tk19, tk20, w_truB, w_truI, w_truN, w_truL, w_truT, w_is, w_isn, isNon_non, isNon_bl, isNon_int, isNon_str, isNon_lst, isNon_tup, w_add, w_addS, w_addT, w_addL, w_sub, w_mul, w_mod, w_fdiv, w_pow, w_neg, w_eqI, w_neI, w_eqS, w_neS, w_eqB, w_neB, w_lt, w_le, w_gt, w_ge, w_int, w_abs, w_lenL, w_lenT, w_lenS, w_tupL, w_rng1, w_in2, w_in3, bne_self, Bool.not_true, Bool.not_false, Bool.or_false, Bool.false_or, Bool.or_true, Bool.true_or, decide_true, decide_false, and_true, true_and]
    by_cases hw : (cStep s st lv).1 = "wrong"
    · rw [if_pos hw] at hr
      simp only [decide_eq_true hw, pl_at hq (show j < pl.length by omega)]
      exact fin _ _ (.wrong nd hr)
    · rw [if_neg hw] at hr
      simp only [decide_eq_false hw]
      exact hn _ _ ⟨_, _, _, rfl, rfl, hr⟩
  · exact ⟨_, "factor", 0, rfl, rfl, rfl⟩
  · rintro σ M3 ⟨o5, st, lv, rfl, rfl, hr⟩
    rw [rngD_len, show (((l.length : Nat) : Int) - 0).toNat = l.length by omega, List.drop_length] at hr
    have hr : cRun "factor" 0 0 l = (none, st, lv) := hr
    have lne : st = "behind" → 0 < pl.length := fun e => by
      cases l with
      | nil =>
        have hr : ((none : Option Nat), "factor", (0 : Int)) = (none, st, lv) := hr
        injection hr with _ hr
        injection hr with hr _
        rw [e] at hr; exact absurd hr (by decide)
      | cons x r => rw [hp]; exact Nat.succ_pos _
    simp only [dSs, dS, dT, dE, dEs, dTO, dTA, dAnd, dOr, dIt, dIf, gTg, gTgs, wipeD, List.map_cons, List.map_nil, getS_z, getS_s, List.set_cons_zero, List.set_cons_succ, ty_non, ty_bl, ty_int, ty_str, ty_tup, ty_lst, tk1, tk2, tk3, tk4, tk5, tk6, tk7, tk8, tk9, tk10, tk11, tk12, tk13, tk14, tk15, tk16, tk17, tk18, tk19, tk20, w_truB, w_truI, w_truN, w_truL, w_truT, w_is, w_isn, isNon_non, isNon_bl, isNon_int, isNon_str, isNon_lst, isNon_tup, w_add, w_addS, w_addT, w_addL, w_sub, w_mul, w_mod, w_fdiv, w_pow, w_neg, w_eqI, w_neI, w_eqS, w_neS, w_eqB, w_neB, w_lt, w_le, w_gt, w_ge, w_int, w_abs, w_lenL, w_lenT, w_lenS, w_tupL, w_rng1, w_in2, w_in3, bne_self, Bool.not_true, Bool.not_false, Bool.or_false, Bool.false_or, Bool.or_true, Bool.true_or, decide_true, decide_false, and_true, true_and]
    by_cases h1 : st = "behind"
    · subst h1
      simp only [decide_true, Bool.not_true]
      by_cases h2 : 0 < lv
      · simp only [decide_eq_true h2]
        exact ⟨by omega, fin _ _ (.fin nd hr (.inr h2))⟩
      simp only [decide_eq_false h2]
      cases ch with
      | true =>
        simp only [dSs, dS, dT, dE, dEs, dTO, dTA, dAnd, dOr, dIt, dIf, gTg, gTgs, wipeD, List.map_cons, List.map_nil, getS_z, getS_s, List.set_cons_zero, List.set_cons_succ, ty_non, ty_bl, ty_int, ty_str, ty_tup, ty_lst, tk1, tk2, tk3, tk4, tk5, tk6, tk7, tk8, tk9, tk10, tk11, tk12, tk13, tk14, tk15, tk16, tk17, tk18, tk19, tk20, w_truB, w_truI, w_truN, w_truL, w_truT, w_is, w_isn, isNon_non, isNon_bl, isNon_int, isNon_str, isNon_lst, isNon_tup, w_add, w_addS, w_addT, w_addL, w_sub, w_mul, w_mod, w_fdiv, w_pow, w_neg, w_eqI, w_neI, w_eqS, w_neS, w_eqB, w_neB, w_lt, w_le, w_gt, w_ge, w_int, w_abs, w_lenL, w_lenT, w_lenS, w_tupL, w_rng1, w_in2, w_in3, bne_self, Bool.not_true, Bool.not_false, Bool.or_false, Bool.false_or, Bool.or_true, Bool.true_or, decide_true, decide_false, and_true, true_and]
        exact fin _ _ (.any nd hr h2 rfl)
      | false =>
        simp only [dSs, dS, dT, dE, dEs, dTO, dTA, dAnd, dOr, dIt, dIf, gTg, gTgs, wipeD, List.map_cons, List.map_nil, getS_z, getS_s, List.set_cons_zero, List.set_cons_succ, ty_non, ty_bl, ty_int, ty_str, ty_tup, ty_lst, tk1, tk2, tk3, tk4, tk5, tk6, tk7, tk8, tk9, tk10, tk11, tk12, tk13, tk14, tk15, tk16, tk17, tk18, tk19, tk20, w_truB, w_truI, w_truN, w_truL, w_truT, w_is, w_isn, isNon_non, isNon_bl, isNon_int, isNon_str, isNon_lst, isNon_tup, w_add, w_addS, w_addT, w_addL, w_sub, w_mul, w_mod, w_fdiv, w_pow, w_neg, w_eqI, w_neI, w_eqS, w_neS, w_eqB, w_neB, w_lt, w_le, w_gt, w_ge, w_int, w_abs, w_lenL, w_lenT, w_lenS, w_tupL, w_rng1, w_in2, w_in3, bne_self, Bool.not_true, Bool.not_false, Bool.or_false, Bool.false_or, Bool.or_true, Bool.true_or, decide_true, decide_false, and_true, true_and]
        have p0 : ∀ (Q : DK), wIx (.ptr q) (.int 0) M3 Q = Q (.int ((pl.getD 0 0 : Nat) : Int)) M3 := fun Q => pl_at (k := 0) hq (lne rfl)
        refine ⟨c, rfl, hh, ?_⟩
        simp only [dSs, dS, dT, dE, dEs, dTO, dTA, dAnd, dOr, dIt, dIf, gTg, gTgs, wipeD, List.map_cons, List.map_nil, getS_z, getS_s, List.set_cons_zero, List.set_cons_succ, ty_non, ty_bl, ty_int, ty_str, ty_tup, ty_lst, tk1, tk2, tk3, tk4, tk5, tk6, tk7, tk8, tk9, tk10, tk11, tk12, tk13, tk14, tk15, tk16, tk17, tk18, tk19, tk20, w_truB, w_truI, w_truN, w_truL, w_truT, w_is, w_isn, isNon_non, isNon_bl, isNon_int, isNon_str, isNon_lst, isNon_tup, w_add, w_addS, w_addT, w_addL, w_sub, w_mul, w_mod, w_fdiv, w_pow, w_neg, w_eqI, w_neI, w_eqS, w_neS, w_eqB, w_neB, w_lt, w_le, w_gt, w_ge, w_int, w_abs, w_lenL, w_lenT, w_lenS, w_tupL, w_rng1, w_in2, w_in3, bne_self, Bool.not_true, Bool.not_false, Bool.or_false, Bool.false_or, Bool.or_true, Bool.true_or, decide_true, decide_false, and_true, true_and, p0]
        by_cases h3 : 12 < partsC c
        · simp only [decide_eq_true h3]
          exact fin _ _ (.parts nd hr h2 rfl h3)
        simp only [decide_eq_false h3]
        refine ⟨c, rfl, hh, ?_⟩
        simp only [dSs, dS, dT, dE, dEs, dTO, dTA, dAnd, dOr, dIt, dIf, gTg, gTgs, wipeD, List.map_cons, List.map_nil, getS_z, getS_s, List.set_cons_zero, List.set_cons_succ, ty_non, ty_bl, ty_int, ty_str, ty_tup, ty_lst, tk1, tk2, tk3, tk4, tk5, tk6, tk7, tk8, tk9, tk10, tk11, tk12, tk13, tk14, tk15, tk16, tk17, tk18, tk19, tk20, w_truB, w_truI, w_truN, w_truL, w_truT, w_is, w_isn, isNon_non, isNon_bl, isNon_int, isNon_str, isNon_lst, isNon_tup, w_add, w_addS, w_addT, w_addL, w_sub, w_mul, w_mod, w_fdiv, w_pow, w_neg, w_eqI, w_neI, w_eqS, w_neS, w_eqB, w_neB, w_lt, w_le, w_gt, w_ge, w_int, w_abs, w_lenL, w_lenT, w_lenS, w_tupL, w_rng1, w_in2, w_in3, bne_self, Bool.not_true, Bool.not_false, Bool.or_false, Bool.false_or, Bool.or_true, Bool.true_or, decide_true, decide_false, and_true, true_and, p0]
        by_cases h4 : 4 < looksC c
        · simp only [decide_eq_true h4]
          exact fin _ _ (.looks nd hr h2 rfl h3 h4)
        · simp only [decide_eq_false h4]
          exact fin _ _ (.ok nd hr h2 rfl h3 h4)
    · simp only [decide_eq_false h1, Bool.not_false]
      exact ⟨by omega, fin _ _ (.fin nd hr (.inl h1))⟩
end K46
end VS

set_option maxHeartbeats 1000000
/-! conditions: what is told is what is due; the law -/
namespace VS
open PySem PySem.Spec PyProof.Rows L2
theorem eqvAll_two : ∀ a b : List String, PyData.eqvAll (pyL (a.map D.str)) (pyL (b.map D.str)) = decide (a = b)
  | [], [] => rfl
  | [], _ :: _ => rfl
  | _ :: _, [] => rfl
  | x :: a, y :: b => by
    show (PyData.eqv (py (.str x)) (py (.str y)) && PyData.eqvAll (pyL (a.map D.str)) (pyL (b.map D.str))) = _
    rw [eqv_str, eqvAll_two a b]
    by_cases h1 : x = y
    · by_cases h2 : a = b
      · simp [h1, h2]
      · simp [h1, h2]
    · simp [h1]
theorem w_neLL {a b : List String} {M : Store} {Q : DK} : wCmp .ne (.lst (sts a)) (.lst (sts b)) M Q = Q (.bl (!decide (a = b))) M := by
  have e : PyData.eqv (py (.lst (a.map D.str))) (py (.lst (b.map D.str))) = decide (a = b) := by
    show PyData.eqv (.list (pyL (a.map D.str))) (.list (pyL (b.map D.str))) = _
    rw [PyData.eqv, eqvAll_two]
  show (SeqAt.shaped (py (.lst (a.map D.str))) = true ∧ SeqAt.shaped (py (.lst (b.map D.str))) = true ∧ Q (.bl (!PyData.eqv (py (.lst (a.map D.str))) (py (.lst (b.map D.str))))) M) = _
  rw [e]
  exact propext ⟨fun h => h.2.2, fun h => ⟨shaped_strs a, shaped_strs b, h⟩⟩
/-- what is due, by what the law's automaton says -/
def dueG (c : Cond) (pl : List Nat) (n : Nat) (ch : Bool) (r : Option Nat × String × Int) : String × Nat :=
  match r with
  | (some k, _) => ("unexpected token", pl.getD k 0)
  | (none, st, lv) => if st ≠ "behind" ∨ 0 < lv then ("unexpected end", n) else if ch = true then ("any", 0) else if 12 < partsC c then ("too many parts", pl.getD 0 0) else if 4 < looksC c then ("too many looks", pl.getD 0 0) else ("condition", 0)
theorem DueC.g {c : Cond} {l : List String} {pl : List Nat} {n : Nat} {ch : Bool} {m : String} {a : Nat} (h : DueC c l pl n ch m a) (nd : ∀ s ∈ l, s ≠ "-") : dueG c pl n ch (cRun "factor" 0 0 l) = (m, a) := by
  cases h with
  | dash h _ => exact absurd rfl (nd _ (List.mem_of_getElem? h))
  | wrong _ h => rw [h]; rfl
  | fin _ h1 h2 => rw [h1]; exact if_pos h2
  | any _ h1 h2 h3 => rw [h1]; unfold dueG; dsimp only; rw [if_neg (by simp [h2]), if_pos h3]
  | parts _ h1 h2 h3 h4 => rw [h1]; unfold dueG; dsimp only; rw [if_neg (by simp [h2]), if_neg (by rw [h3]; exact Bool.false_ne_true), if_pos h4]
  | looks _ h1 h2 h3 h4 h5 => rw [h1]; unfold dueG; dsimp only; rw [if_neg (by simp [h2]), if_neg (by rw [h3]; exact Bool.false_ne_true), if_neg h4, if_pos h5]
  | ok _ h1 h2 h3 h4 h5 => rw [h1]; unfold dueG; dsimp only; rw [if_neg (by simp [h2]), if_neg (by rw [h3]; exact Bool.false_ne_true), if_neg h4, if_neg h5]
theorem DueC.one {c : Cond} {l : List String} {pl : List Nat} {n : Nat} {ch : Bool} {m m' : String} {a a' : Nat} (h : DueC c l pl n ch m a) (h' : DueC c l pl n ch m' a') : m = m' ∧ a = a' := by
  by_cases hd : "-" ∈ l
  · have dsh : ∀ {m a}, DueC c l pl n ch m a → ∃ k, l[k]? = some "-" ∧ (∀ i, i < k → l[i]? ≠ some "-") ∧ m = "unknown character" ∧ a = pl.getD k 0 := fun {m a} z => by
      cases z with
      | dash h1 h2 => exact ⟨_, h1, h2, rfl, rfl⟩
      | wrong g _ => exact absurd rfl (g _ hd)
      | fin g _ _ => exact absurd rfl (g _ hd)
      | any g _ _ _ => exact absurd rfl (g _ hd)
      | parts g _ _ _ _ => exact absurd rfl (g _ hd)
      | looks g _ _ _ _ _ => exact absurd rfl (g _ hd)
      | ok g _ _ _ _ _ => exact absurd rfl (g _ hd)
    obtain ⟨k, a1, a2, a3, a4⟩ := dsh h
    obtain ⟨k', b1, b2, b3, b4⟩ := dsh h'
    have : k = k' := by
      rcases Nat.lt_trichotomy k k' with z | z | z
      · exact absurd a1 (b2 k z)
      · exact z
      · exact absurd b1 (a2 k' z)
    subst this
    exact ⟨by rw [a3, b3], by rw [a4, b4]⟩
  · have nd : ∀ s ∈ l, s ≠ "-" := fun s hs e => hd (e ▸ hs)
    have e := (h.g nd).symm.trans (h'.g nd)
    injection e with e1 e2
    exact ⟨e1, e2⟩
theorem sgK_ok : SOk sgK := fun c hc => by
  simp only [sgK, sgC, List.mem_cons, List.not_mem_nil, or_false] at hc
  rcases hc with rfl | rfl | rfl <;> decide
theorem sgK_S : ∀ c ∈ sgK, c ∈ sgC ∨ (c ∉ sgC ∧ c ≠ ' ' ∧ c ≠ '\n') := fun c hc => by
  simp only [sgK, sgC, List.mem_cons, List.not_mem_nil, or_false] at hc
  rcases hc with rfl | rfl | rfl
  · exact .inr (by decide)
  all_goals exact .inl (by decide)
theorem sgC_X {c : Char} (h : c ∈ sgC) : String.singleton c ∈ ["(", ")"] ∧ String.singleton c ≠ "-" := by
  simp only [sgC, List.mem_cons, List.not_mem_nil, or_false] at h
  rcases h with rfl | rfl <;> exact ⟨by decide, by decide⟩
theorem tkv_at {ts : List Tk} {l : List String} {pl : List Nat} (e1 : ts.map (·.v) = l) (e2 : ts.map (·.at_) = pl) {k : Nat} {t : Tk} (h : ts[k]? = some t) : l[k]? = some t.v ∧ pl.getD k 0 = t.at_ := by
  subst e1; subst e2
  exact ⟨by rw [List.getElem?_map, h]; rfl, by rw [List.getD_eq_getElem?_getD, List.getElem?_map, h]; rfl⟩
def threeL : List String := ["condition", "too many parts", "too many looks"]
/-- what may be told -/
def TO (c : Cond) (l : List String) (pl : List Nat) (n : Nat) (ch : Bool) (m : String) (a : Nat) : Prop := (DueC c l pl n ch m a ∧ m ≠ "any") ∨ (DueC c l pl n ch "any" 0 ∧ m ∈ threeL)
def nC : Nat := 103
namespace K46
theorem due_told {c : Cond} {l l0 : List String} {pl : List Nat} {t : String} {ch : Bool} (hg : Grown sgK l t pl) (ht : ∀ s ∈ l, tokC s = true) (hm : mz l < (nC : Int)) (hn : t.length ≤ 100000) (gr : Gr 2 (2 * htC c) c l0) (hh : htC c ≤ 9) (hsz : (subC c).length ≤ 1000) (hc : ch = !decide (l = l0)) :
    ∃ ts o, LexO sgC t.toList 0 ts o ∧ (∀ e, o = some e → TO c l pl t.length ch "unknown character" e) ∧
      (o = none → RdOk t.length ts ∧ Wk ts ∧ ∃ b c' vs ps, Pc 2 nC (rst ts 0) b c' vs ∧ (b = true → CvD (nC + 2) (joD "or" vs) ps ∧ ps.length ≤ 1000000) ∧
        (b = false ∨ c' < ts.length → TO c l pl t.length ch (msgK ts[c']?) (spotK t.length ts[c']?)) ∧
        (b = true → c' = ts.length → (12 < ps.length → TO c l pl t.length ch "too many parts" (spotK t.length ts[0]?)) ∧ (ps.length ≤ 12 → 4 < (ps.filter lkD).length → TO c l pl t.length ch "too many looks" (spotK t.length ts[0]?)) ∧ (ps.length ≤ 12 → (ps.filter lkD).length ≤ 4 → TO c l pl t.length ch "condition" 0))) := by
  obtain ⟨ts, lx, ⟨e1, hw⟩, e2⟩ := hg.lex sgK_ok
  have atl := lx.at_lt
  have vle := lx.v_le
  rw [String.length_toList] at vle
  rcases lx.less sgK_S with ⟨ok, lx2⟩ | ⟨d, x, r, e, ok, xw, xs, lb⟩
  · refine ⟨ts, none, lx2.o, (fun e h => by cases h), fun _ => ?_⟩
    have W : Wk ts := ⟨hw⟩
    have er : rst ts 0 = l := by unfold rst; rw [List.drop_zero, e1]
    have ll : ts.length = l.length := by rw [← e1, List.length_map]
    have tlen : ts.length ≤ 100000 := by have := lx2.o.len; rw [String.length_toList] at this; omega
    have hX : ∀ s ∈ l, tokZ s = true := fun s hs => by
      rw [← e1] at hs
      obtain ⟨x, hx, rfl⟩ := List.mem_map.mp hs
      unfold tokZ
      rcases ok x hx with z | ⟨c, hc, z⟩
      · rw [← hw x hx, z]; rfl
      · rw [z, decide_eq_true (sgC_X hc).1, Bool.or_true]
    have nd : ∀ s ∈ l, s ≠ "-" := fun s hs => by
      rw [← e1] at hs
      obtain ⟨x, hx, rfl⟩ := List.mem_map.mp hs
      rcases ok x hx with z | ⟨c, hc, z⟩
      · intro e; rw [hw x hx, e] at z; exact absurd z (by decide)
      · rw [z]; exact (sgC_X hc).2
    refine ⟨⟨hn, fun x hx => by have := atl x hx; rw [String.length_toList] at this; omega, fun x hx => by have := vle x hx; omega⟩, W, ?_⟩
    -- what the automaton says
    have au : ∀ {b c' vs}, Pc 2 nC (rst ts 0) b c' vs → (b = false ∨ c' < ts.length → TO c l pl t.length ch (msgK ts[c']?) (spotK t.length ts[c']?)) ∧ (b = true → c' = ts.length → cRun "factor" 0 0 l = (none, "behind", 0)) := fun {b c' vs} p => by
      obtain ⟨s, i1, i2, i3⟩ := p.au (by rw [er]; exact hX) 0 (Int.le_refl _)
      rw [er] at i1 i2 i3
      have cl := p.le.1
      rw [er] at cl
      have hlen : (l.take c').length = c' := by rw [List.length_take]; omega
      have run := cRun_st (l.take c') (l.drop c') ("factor", 0) s 0 i1
      rw [List.take_append_drop, hlen, Nat.zero_add] at run
      have run : cRun "factor" 0 0 l = cRun s.1 s.2 c' (l.drop c') := run
      refine ⟨fun hb => ?_, fun hb ec => ?_⟩
      · left
        have nx : ∀ x r, l.drop c' = x :: r → (cStep x s.1 s.2).1 = "wrong" := fun x r ex => by
          cases b with
          | false => exact (i3 rfl).2 x r ex
          | true =>
            obtain ⟨rfl, n1, n2⟩ := i2 rfl
            exact st_beh (hd_no (n1 (by omega)) ex) (hd_no (n2 (by omega)) ex) (.inr (by show ¬ (0 : Int) < 0; omega))
        by_cases lt : c' < ts.length
        · have ex : ts[c']? = some ts[c'] := List.getElem?_eq_getElem lt
          rw [ex]
          show DueC c l pl t.length ch "unexpected token" (ts[c']).at_ ∧ _
          rw [← (tkv_at e1 e2 ex).2]
          have ed : l.drop c' = l[c']'(by omega) :: l.drop (c' + 1) := List.drop_eq_getElem_cons (by omega)
          have hw := nx _ _ ed
          rw [ed] at run
          have run : cRun "factor" 0 0 l = if (cStep (l[c']'(by omega)) s.1 s.2).1 = "wrong" then (some c', cStep (l[c']'(by omega)) s.1 s.2) else _ := run
          rw [if_pos hw] at run
          exact ⟨.wrong nd run, (show "unexpected token" ≠ "any" by decide)⟩
        · have hbf : b = false := by rcases hb with z | z; exact z; exact absurd z lt
          rw [List.getElem?_eq_none_iff.mpr (by omega)]
          rw [List.drop_eq_nil_of_le (by omega)] at run
          have run : cRun "factor" 0 0 l = (none, s.1, s.2) := run
          exact ⟨.fin nd run (i3 hbf).1, (show "unexpected end" ≠ "any" by decide)⟩
      · obtain ⟨rfl, _⟩ := i2 hb
        rw [List.drop_eq_nil_of_le (by omega)] at run
        exact run
    have e0 : l ≠ [] → spotK t.length ts[0]? = pl.getD 0 0 := fun hne => by
      cases ex : ts[0]? with
      | none =>
        have kl : ts.length ≤ 0 := List.getElem?_eq_none_iff.mp ex
        exact absurd (List.length_eq_zero_iff.mp (by omega)) hne
      | some x => exact ((tkv_at e1 e2 ex).2).symm
    cases hch : ch with
    | true =>
      subst hch
      obtain ⟨b, c', vs, p, _⟩ := Pc.exi nC (rst ts 0) (by rw [er]; exact hm) 2 (Nat.le_refl _)
      obtain ⟨a1, a2⟩ := au p
      have val : ∃ ps, b = true → CvD (nC + 2) (joD "or" vs) ps ∧ ps.length ≤ 1000000 := by
        cases b with
        | false => exact ⟨[], fun z => by cases z⟩
        | true =>
          obtain ⟨hne, _, h3, v⟩ := p.ok rfl
          obtain ⟨ps, q1, q2⟩ := v.jo (.inr rfl) hne
          have cl := p.le.1
          rw [er] at cl
          exact ⟨ps, fun _ => ⟨q1, by omega⟩⟩
      obtain ⟨ps, val⟩ := val
      refine ⟨b, c', vs, ps, p, val, a1, fun hb ec => ?_⟩
      have any : DueC c l pl t.length true "any" 0 := .any nd (a2 hb ec) (Int.lt_irrefl 0) rfl
      exact ⟨fun _ => .inr ⟨any, by decide⟩, fun _ _ => .inr ⟨any, by decide⟩, fun _ _ => .inr ⟨any, by decide⟩⟩
    | false =>
      subst hch
      have el : l = l0 := by
        by_cases z : l = l0
        · exact z
        · rw [decide_eq_false z] at hc; cases hc
      subst el
      obtain ⟨vs, p, ev⟩ := gr.pc nC [] (by show 3 * (2 * htC c) ≤ 103; omega) (fun _ x r e => by cases e) (fun _ x r e => by cases e)
      rw [List.append_nil, ← er] at p
      have ev : joD "or" vs = encC c := ev
      obtain ⟨a1, a2⟩ := au p
      have cl := p.le.2 rfl
      have lne : l ≠ [] := fun z => by rw [er, z] at cl; exact absurd cl (by decide)
      have sl := sub_len c
      have sk := sub_look c
      have pl1 := p.le.1
      refine ⟨true, _, vs, (subC c).map encC, p, fun _ => ⟨by rw [ev]; exact (cv_enc c).mono (by show htC c ≤ 105; omega), ?_⟩, a1, fun hb ec => ?_⟩
      · rw [List.length_map]; omega
      rw [List.length_map, e0 lne]
      have run := a2 rfl ec
      have z0 : ¬ (0 : Int) < 0 := Int.lt_irrefl 0
      refine ⟨fun h => .inl ⟨.parts nd run z0 rfl (by omega), by decide⟩, fun h1 h2 => .inl ⟨.looks nd run z0 rfl (by omega) (by omega), by decide⟩, fun h1 h2 => .inl ⟨.ok nd run z0 rfl (by omega) (by omega), by decide⟩⟩
  · obtain ⟨ts', lo⟩ := lb.o
    refine ⟨ts', _, lo, fun e ee => ?_, fun h => by cases h⟩
    cases ee
    have ex : ts[d.length]? = some x := by rw [e, List.getElem?_append_right (Nat.le_refl _), Nat.sub_self]; rfl
    obtain ⟨z1, z2⟩ := tkv_at e1 e2 ex
    rw [← z2]
    have hx : x ∈ ts := List.mem_of_getElem? ex
    have xd : x.v = "-" := by
      have := ht x.v (List.mem_of_getElem? z1)
      obtain ⟨h1, _⟩ := and_of (show (tokB sgK x.v && decide (x.v.length ≤ 12)) = true from this)
      unfold tokB at h1
      rw [← hw x hx, xw, Bool.false_or] at h1
      obtain ⟨c, hc, z⟩ := List.any_eq_true.mp h1
      have z := of_decide_eq_true z
      rcases List.mem_cons.mp (show c ∈ '-' :: sgC from hc) with y | y
      · rw [z, y]; decide
      · exact absurd z (xs c y)
    refine .inl ⟨.dash (by rw [z1, xd]) fun i hi ei => ?_, by decide⟩
    have ey : ts[i]? = some d[i] := by rw [e, List.getElem?_append_left hi, List.getElem?_eq_getElem hi]
    obtain ⟨y1, _⟩ := tkv_at e1 e2 ey
    rw [y1] at ei
    have ei := Option.some.inj ei
    rcases ok d[i] (List.getElem_mem hi) with z | ⟨c, hc, z⟩
    · rw [hw _ (List.mem_of_getElem? ey), ei] at z; exact absurd z (by decide)
    · rw [ei] at z; exact absurd z.symm (sgC_X hc).2
def spTold : Spec := fun ds M Q _ => ∃ (t : String) (c : Cond) (l l0 : List String) (pl : List Nat) (ch : Bool), ds = [.str t] ∧ t.length ≤ 100000 ∧ Grown sgK l t pl ∧ (∀ s ∈ l, tokC s = true) ∧ mz l < (nC : Int) ∧ Gr 2 (2 * htC c) c l0 ∧ htC c ≤ 9 ∧ (subC c).length ≤ 1000 ∧ ch = !decide (l = l0) ∧ ∀ m a, TO c l pl t.length ch m a → ∀ M', Dr M M' → Q (.tup [.str m, .int ((a : Nat) : Int)]) M'
theorem joD_tup {h : Nat} {d : D} {ps : List D} (c : CvD h d ps) : ∃ xs, d = .tup xs := by
  obtain ⟨r, e⟩ := c.hd
  exact ⟨_, e⟩
theorem h_told : ∀ ds M Q E, ds.length = 1 → spTold ds M Q E → dSs (EX "TextError" Q) (c_law_told (spParseC nC)) { nx := fun _ _ => False, rt := Q } (startD n_law_told.length ds) M := by
  rintro ds M Q E hl ⟨t, c, l, l0, pl, ch, rfl, hn, hg, ht, hm, gr, hh, hsz, hc, q⟩
  show dSs (EX "TextError" Q) (c_law_told (spParseC nC)) _ [some (.str t), none, none] M
  unfold c_law_told
  obtain ⟨ts, o, lo, h1, h2⟩ := due_told hg ht hm hn gr hh hsz hc
  simp only [dSs, dS, dT, dE, dEs, dTO, dTA, dAnd, dOr, dIt, dIf, gTg, gTgs, wipeD, List.map_cons, List.map_nil, getS_z, getS_s, List.set_cons_zero, List.set_cons_succ, ty_non, ty_bl, ty_int, ty_str, ty_tup, ty_lst, tk1, tk2, tk3, tk4, tk5, tk6, tk7, tk8, tk9, tk10, tk11, tk12, tk13, tk14, tk15, tk16, tk17, tk18, tk19, tk20, w_truB, w_truI, w_truN, w_truL, w_truT, w_is, w_isn, isNon_non, isNon_bl, isNon_int, isNon_str, isNon_lst, isNon_tup, w_add, w_addS, w_addT, w_addL, w_sub, w_mul, w_mod, w_fdiv, w_pow, w_neg, w_eqI, w_neI, w_eqS, w_neS, w_eqB, w_neB, w_lt, w_le, w_gt, w_ge, w_int, w_abs, w_lenL, w_lenT, w_lenS, w_tupL, w_rng1, w_in2, w_in3, bne_self, Bool.not_true, Bool.not_false, Bool.or_false, Bool.false_or, Bool.or_true, Bool.true_or, decide_true, decide_false, and_true, true_and]
  refine ⟨t, ts, o, rfl, hn, lo, fun e ee M' dr => ⟨rfl, _, _, rfl, q _ _ (h1 e ee) M' dr⟩, fun oo => ?_⟩
  obtain ⟨rd, W, b, c', vs, ps, p, val, b1, b2⟩ := h2 oo
  refine ⟨rd, W, b, c', vs, ps, p, val, fun hb M' dr => ⟨rfl, _, _, rfl, q _ _ (b1 (.inl hb)) M' dr⟩, fun _ lt M' dr => ⟨rfl, _, _, rfl, q _ _ (b1 (.inr lt)) M' dr⟩, fun hb ec => ?_⟩
  obtain ⟨d1, d2, d3⟩ := b2 hb ec
  refine ⟨fun h M' dr => ⟨rfl, _, _, rfl, q _ _ (d1 h) M' dr⟩, fun h h' M' dr => ⟨rfl, _, _, rfl, q _ _ (d2 h h') M' dr⟩, fun h h' M' dr => ?_⟩
  obtain ⟨xs, ex⟩ := joD_tup (val hb).1
  rw [ex]
  simp only [dSs, dS, dT, dE, dEs, dTO, dTA, dAnd, dOr, dIt, dIf, gTg, gTgs, wipeD, List.map_cons, List.map_nil, getS_z, getS_s, List.set_cons_zero, List.set_cons_succ, ty_non, ty_bl, ty_int, ty_str, ty_tup, ty_lst, tk1, tk2, tk3, tk4, tk5, tk6, tk7, tk8, tk9, tk10, tk11, tk12, tk13, tk14, tk15, tk16, tk17, tk18, tk19, tk20, w_truB, w_truI, w_truN, w_truL, w_truT, w_is, w_isn, isNon_non, isNon_bl, isNon_int, isNon_str, isNon_lst, isNon_tup, w_add, w_addS, w_addT, w_addL, w_sub, w_mul, w_mod, w_fdiv, w_pow, w_neg, w_eqI, w_neI, w_eqS, w_neS, w_eqB, w_neB, w_lt, w_le, w_gt, w_ge, w_int, w_abs, w_lenL, w_lenT, w_lenS, w_tupL, w_rng1, w_in2, w_in3, bne_self, Bool.not_true, Bool.not_false, Bool.or_false, Bool.false_or, Bool.or_true, Bool.true_or, decide_true, decide_false, and_true, true_and]
  exact q _ _ (d3 h h') M' dr
end K46
end VS

set_option maxHeartbeats 1000000
/-! k46: the law -/
namespace VS
open PySem PySem.Spec PyProof.Rows L2
theorem plain_ma {m : String} {a : Int} : plainD 2 (.tup [.str m, .int a]) = true := by
  show (decide (2 ≤ line) && (true && (true && true))) = true
  decide
theorem w_nin3 {M : Store} {Q : DK} {s a b c : String} : wCmp .nin (.str s) (.tup [.str a, .str b, .str c]) M Q = Q (.bl (!decide (s ∈ [a, b, c]))) M := w_nin [a, b, c]
namespace K46
def rE2 (p_law_due p_law_told p_law_same : Spec) : Sts :=
  (.cons (.asg 10 (.call "_law_due" p_law_due (.cons (.v 3) (.cons (.v 4) (.cons (.v 8) (.cons (.v 9) (.cons (.cmp .ne (.v 4) (.v 5)) .nil)))))))
  (.cons (.asg 11 (.call "_law_told" p_law_told (.cons (.v 8) .nil)))
  (.cons (.iff (.val (.cmp .eq (.ix (.v 10) (.c (.int 0))) (.c (.str "any"))))
  (.cons (.iff (.val (.cmp .nin (.ix (.v 11) (.c (.int 0))) (.tup (.cons (.c (.str "condition")) (.cons (.c (.str "too many parts")) (.cons (.c (.str "too many looks")) .nil))))))
  (.cons (.ret (.c (.bl false)))
  .nil)
  .nil)
  .nil)
  (.cons (.iff (.not (.val (.call "_law_same" p_law_same (.cons (.v 11) (.cons (.v 10) .nil)))))
  (.cons (.ret (.c (.bl false)))
  .nil)
  .nil)
  .nil))
  .nil)))
def rL (p_law_next p_law_condition_tokens p_law_change p_law_text p_law_due p_law_told p_law_same : Spec) : Sts :=
  (.cons (.asg 4 (.call "_law_condition_tokens" p_law_condition_tokens (.cons (.v 1) (.cons (.v 3) (.cons (.c (.str "")) .nil)))))
  (.cons (.asg 5 (.bi .list (.cons (.v 4) .nil)))
  (.cons (.asg 6 (.lst (.cons (.c (.str "(")) (.cons (.c (.str ")")) (.cons (.c (.str "and")) (.cons (.c (.str "or")) (.cons (.c (.str "not")) (.cons (.c (.str "is")) (.cons (.c (.str "all")) (.cons (.c (.str "later")) (.cons (.c (.str "q")) (.cons (.c (.str "abcdefghi")) (.cons (.c (.str "-")) .nil)))))))))))))
  (.cons (.for_ (.nm 7) (.rng1 (.call "_law_next" p_law_next (.cons (.v 1) (.cons (.c (.int 3)) .nil))))
  (.cons (.asg 4 (.call "_law_change" p_law_change (.cons (.v 1) (.cons (.v 4) (.cons (.v 6) .nil)))))
  .nil))
  (.cons (.asgT (.tp (.cons (.nm 8) (.cons (.nm 9) .nil))) (.call "_law_text" p_law_text (.cons (.v 1) (.cons (.v 4) .nil))))
  (.cons (.iff (.val (.cmp .gt (.bi .len (.cons (.v 8) .nil)) (.c (.int 280))))
  (.cons .cnt
  .nil)
  .nil)
  (rE2 p_law_due p_law_told p_law_same)))))))
theorem c_law_eq (p_law_draw p_law_tree p_law_next p_law_condition_tokens p_law_change p_law_text p_law_due p_law_told p_law_same : Spec) : c_law p_law_draw p_law_tree p_law_next p_law_condition_tokens p_law_change p_law_text p_law_due p_law_told p_law_same = (.cons (.asg 1 (.call "_law_draw" p_law_draw (.cons (.v 0) .nil)))
  (.cons (.for_ (.nm 2) (.rng1 (.c (.int 4)))
  (.cons (.asg 3 (.call "_law_tree" p_law_tree (.cons (.v 1) (.cons (.bin .add (.c (.int 1)) (.call "_law_next" p_law_next (.cons (.v 1) (.cons (.c (.int 4)) .nil)))) .nil))))
  (rL p_law_next p_law_condition_tokens p_law_change p_law_text p_law_due p_law_told p_law_same)))
  (.cons (.ret (.c (.bl true))) .nil))) := rfl
theorem end_ok {E : XP} {d : Addr} {c : Cond} {l l0 : List String} {t : String} {pl : List Nat} {q : Addr} {M : Store} {C : EndsD} {x0 x2 x6 : D} {o7 o10 o11 : Option D} (gr : Gr 2 (2 * htC c) c l0) (hh : htC c ≤ 9) (hsz : (subC c).length ≤ 1000) (ht : ∀ s ∈ l, tokC s = true) (hl : l.length ≤ 100000) (hm : mz l < (nC : Int)) (tl : t.length ≤ 100000) (hg : Grown sgK l t pl) (hq : M q = some (.lst (intsD pl))) (hd : DrawAt M d)
    (hn : ∀ (M' : Store) (o10 o11 : Option D), DrawAt M' d → C.nx [some x0, some (.ptr d), some x2, some (encC c), some (.lst (sts l)), some (.lst (sts l0)), some x6, o7, some (.str t), some (.ptr q), o10, o11] M') :
    dSs E (rE2 spDueC spTold (spSame 2)) C [some x0, some (.ptr d), some x2, some (encC c), some (.lst (sts l)), some (.lst (sts l0)), some x6, o7, some (.str t), some (.ptr q), o10, o11] M := by
  have pll : pl.length = l.length := by
    obtain ⟨ts, _, ⟨e1, _⟩, e2⟩ := hg.lex sgK_ok
    rw [← e1, ← e2, List.length_map, List.length_map]
  unfold rE2
  simp only [dSs, dS, dT, dE, dEs, dTO, dTA, dAnd, dOr, dIt, dIf, gTg, gTgs, wipeD, List.map_cons, List.map_nil, getS_z, getS_s, List.set_cons_zero, List.set_cons_succ, ty_non, ty_bl, ty_int, ty_str, ty_tup, ty_lst, tk1, tk2, tk3, tk4, tk5, tk6, tk7, tk8, tk9, tk10, tk11, tk12, tk13, tk14, tk15, tk16, tk17, tk18, tk19, tk20, w_truB, w_truI, w_truN, w_truL, w_truT, w_is, w_isn, isNon_non, isNon_bl, isNon_int, isNon_str, isNon_lst, isNon_tup, w_add, w_addS, w_addT, w_addL, w_sub, w_mul, w_mod, w_fdiv, w_pow, w_neg, w_eqI, w_neI, w_eqS, w_neS, w_eqB, w_neB, w_lt, w_le, w_gt, w_ge, w_int, w_abs, w_lenL, w_lenT, w_lenS, w_tupL, w_rng1, w_in2, w_in3, bne_self, Bool.not_true, Bool.not_false, Bool.or_false, Bool.false_or, Bool.or_true, Bool.true_or, decide_true, decide_false, and_true, true_and, w_neLL]
  refine ⟨c, l, t, q, pl, _, rfl, hh, ht, hl, tl, hq, pll, fun m a hma => ?_⟩
  simp only [dSs, dS, dT, dE, dEs, dTO, dTA, dAnd, dOr, dIt, dIf, gTg, gTgs, wipeD, List.map_cons, List.map_nil, getS_z, getS_s, List.set_cons_zero, List.set_cons_succ, ty_non, ty_bl, ty_int, ty_str, ty_tup, ty_lst, tk1, tk2, tk3, tk4, tk5, tk6, tk7, tk8, tk9, tk10, tk11, tk12, tk13, tk14, tk15, tk16, tk17, tk18, tk19, tk20, w_truB, w_truI, w_truN, w_truL, w_truT, w_is, w_isn, isNon_non, isNon_bl, isNon_int, isNon_str, isNon_lst, isNon_tup, w_add, w_addS, w_addT, w_addL, w_sub, w_mul, w_mod, w_fdiv, w_pow, w_neg, w_eqI, w_neI, w_eqS, w_neS, w_eqB, w_neB, w_lt, w_le, w_gt, w_ge, w_int, w_abs, w_lenL, w_lenT, w_lenS, w_tupL, w_rng1, w_in2, w_in3, bne_self, Bool.not_true, Bool.not_false, Bool.or_false, Bool.false_or, Bool.or_true, Bool.true_or, decide_true, decide_false, and_true, true_and]
  refine ⟨t, c, l, l0, pl, _, rfl, tl, hg, ht, hm, gr, hh, hsz, rfl, fun m' a' hto M2 dr => ?_⟩
  have hd2 := dr.draw hd
  simp only [dSs, dS, dT, dE, dEs, dTO, dTA, dAnd, dOr, dIt, dIf, gTg, gTgs, wipeD, List.map_cons, List.map_nil, getS_z, getS_s, List.set_cons_zero, List.set_cons_succ, ty_non, ty_bl, ty_int, ty_str, ty_tup, ty_lst, tk1, tk2, tk3, tk4, tk5, tk6, tk7, tk8, tk9, tk10, tk11, tk12, tk13, tk14, tk15, tk16, tk17, tk18, tk19, tk20, w_truB, w_truI, w_truN, w_truL, w_truT, w_is, w_isn, isNon_non, isNon_bl, isNon_int, isNon_str, isNon_lst, isNon_tup, w_add, w_addS, w_addT, w_addL, w_sub, w_mul, w_mod, w_fdiv, w_pow, w_neg, w_eqI, w_neI, w_eqS, w_neS, w_eqB, w_neB, w_lt, w_le, w_gt, w_ge, w_int, w_abs, w_lenL, w_lenT, w_lenS, w_tupL, w_rng1, w_in2, w_in3, bne_self, Bool.not_true, Bool.not_false, Bool.or_false, Bool.false_or, Bool.or_true, Bool.true_or, decide_true, decide_false, and_true, true_and, w_ixT at_0, w_nin3]
  by_cases hany : m = "any"
  · simp only [decide_eq_true hany]
    have h3 : m' ∈ ["condition", "too many parts", "too many looks"] := by
      rcases hto with ⟨z, y⟩ | ⟨_, z⟩
      · have := (z.one hma).1
        exact absurd (this.trans hany) y
      · exact z
    simp only [decide_eq_true h3, Bool.not_true]
    exact hn _ _ _ hd2
  · simp only [decide_eq_false hany]
    rcases hto with ⟨z, y⟩ | ⟨z, _⟩
    · obtain ⟨rfl, rfl⟩ := z.one hma
      refine ⟨_, rfl, plain_ma, ?_⟩
      simp only [dSs, dS, dT, dE, dEs, dTO, dTA, dAnd, dOr, dIt, dIf, gTg, gTgs, wipeD, List.map_cons, List.map_nil, getS_z, getS_s, List.set_cons_zero, List.set_cons_succ, ty_non, ty_bl, ty_int, ty_str, ty_tup, ty_lst, tk1, tk2, tk3, tk4, tk5, tk6, tk7, tk8, tk9, tk10, tk11, tk12, tk13, tk14, tk15, tk16, tk17, tk18, tk19, tk20, w_truB, w_truI, w_truN, w_truL, w_truT, w_is, w_isn, isNon_non, isNon_bl, isNon_int, isNon_str, isNon_lst, isNon_tup, w_add, w_addS, w_addT, w_addL, w_sub, w_mul, w_mod, w_fdiv, w_pow, w_neg, w_eqI, w_neI, w_eqS, w_neS, w_eqB, w_neB, w_lt, w_le, w_gt, w_ge, w_int, w_abs, w_lenL, w_lenT, w_lenS, w_tupL, w_rng1, w_in2, w_in3, bne_self, Bool.not_true, Bool.not_false, Bool.or_false, Bool.false_or, Bool.or_true, Bool.true_or, decide_true, decide_false, and_true, true_and]
      exact hn _ _ _ hd2
    · exact absurd (hma.one z).1 hany
theorem rest_ok {E : XP} {d : Addr} {c : Cond} {M : Store} {C : EndsD} {x0 x2 : D} {o4 o5 o6 o7 o8 o9 o10 o11 : Option D} (hh : htC c ≤ 9) (hw : wfC c = true) (hsz : (subC c).length ≤ 61) (hd : DrawAt M d)
    (hn : ∀ (M' : Store) (o4 o5 o6 o7 o8 o9 o10 o11 : Option D), DrawAt M' d → C.nx [some x0, some (.ptr d), some x2, some (encC c), o4, o5, o6, o7, o8, o9, o10, o11] M')
    (hc : ∀ (M' : Store) (o4 o5 o6 o7 o8 o9 o10 o11 : Option D), DrawAt M' d → C.ct [some x0, some (.ptr d), some x2, some (encC c), o4, o5, o6, o7, o8, o9, o10, o11] M') :
    dSs E (rL spNext (spTok 9) spCh (spText sgK) spDueC spTold (spSame 2)) C [some x0, some (.ptr d), some x2, some (encC c), o4, o5, o6, o7, o8, o9, o10, o11] M := by
  have ll : line = 16777216 := rfl
  unfold rL
  simp only [dSs, dS, dT, dE, dEs, dTO, dTA, dAnd, dOr, dIt, dIf, gTg, gTgs, wipeD, List.map_cons, List.map_nil, getS_z, getS_s, List.set_cons_zero, List.set_cons_succ, ty_non, ty_bl, ty_int, ty_str, ty_tup, ty_lst, tk1, tk2, tk3, tk4, tk5, tk6, tk7, tk8, tk9, tk10, tk11, tk12, tk13, tk14, tk15, tk16, tk17, tk18, tk19, tk20, w_truB, w_truI, w_truN, w_truL, w_truT, w_is, w_isn, isNon_non, isNon_bl, isNon_int, isNon_str, isNon_lst, isNon_tup, w_add, w_addS, w_addT, w_addL, w_sub, w_mul, w_mod, w_fdiv, w_pow, w_neg, w_eqI, w_neI, w_eqS, w_neS, w_eqB, w_neB, w_lt, w_le, w_gt, w_ge, w_int, w_abs, w_lenL, w_lenT, w_lenS, w_tupL, w_rng1, w_in2, w_in3, bne_self, Bool.not_true, Bool.not_false, Bool.or_false, Bool.false_or, Bool.or_true, Bool.true_or, decide_true, decide_false, and_true, true_and, dEg]
  refine ⟨d, c, "", rfl, hd, hh, hw, by omega, by decide, hd_empty c, fun l0 M1 gr1 g tk ln hcs => ?_⟩
  have g2 : Gr 2 (2 * htC c) c l0 := g
  simp only [dSs, dS, dT, dE, dEs, dTO, dTA, dAnd, dOr, dIt, dIf, gTg, gTgs, wipeD, List.map_cons, List.map_nil, getS_z, getS_s, List.set_cons_zero, List.set_cons_succ, ty_non, ty_bl, ty_int, ty_str, ty_tup, ty_lst, tk1, tk2, tk3, tk4, tk5, tk6, tk7, tk8, tk9, tk10, tk11, tk12, tk13, tk14, tk15, tk16, tk17, tk18, tk19, tk20, w_truB, w_truI, w_truN, w_truL, w_truT, w_is, w_isn, isNon_non, isNon_bl, isNon_int, isNon_str, isNon_lst, isNon_tup, w_add, w_addS, w_addT, w_addL, w_sub, w_mul, w_mod, w_fdiv, w_pow, w_neg, w_eqI, w_neI, w_eqS, w_neS, w_eqB, w_neB, w_lt, w_le, w_gt, w_ge, w_int, w_abs, w_lenL, w_lenT, w_lenS, w_tupL, w_rng1, w_in2, w_in3, bne_self, Bool.not_true, Bool.not_false, Bool.or_false, Bool.false_or, Bool.or_true, Bool.true_or, decide_true, decide_false, and_true, true_and, w_listL]
  refine .inl ?_
  refine ⟨d, 3, rfl, by decide, by decide, gr1.1, fun r M2 r0 r3 hd2 e2 => ?_⟩
  obtain ⟨k, rfl⟩ : ∃ k : Nat, r = (k : Int) := ⟨r.toNat, by omega⟩
  refine ⟨⟨by omega, by omega⟩, by omega, ?_⟩
  refine forGo_inv (fun j σ M' => ∃ (l : List String) (o7 : Option D), σ = [some x0, some (.ptr d), some x2, some (encC c), some (.lst (sts l)), some (.lst (sts l0)), some (.lst (sts sigC)), o7, o8, o9, o10, o11] ∧ DrawAt M' d ∧ ChC l (88 + 7 * (j : Int)) ∧ l.length ≤ 244 + j) _ (fun _ _ _ _ => trivial) ?_ ?_ ?_
  · rintro j x σ M3 nx hx ⟨l, o7, rfl, hd3, ch, len⟩ hnx
    obtain ⟨hj, rfl⟩ := rng_at (n := k) hx
    simp only [dSs, dS, dT, dE, dEs, dTO, dTA, dAnd, dOr, dIt, dIf, gTg, gTgs, wipeD, List.map_cons, List.map_nil, getS_z, getS_s, List.set_cons_zero, List.set_cons_succ, ty_non, ty_bl, ty_int, ty_str, ty_tup, ty_lst, tk1, tk2, tk3, tk4, tk5, tk6, tk7, tk8, tk9, tk10, tk11, tk12, tk13, tk14, tk15, tk16, tk17, tk18, tk19, tk20, w_truB, w_truI, w_truN, w_truL, w_truT, w_is, w_isn, isNon_non, isNon_bl, isNon_int, isNon_str, isNon_lst, isNon_tup, w_add, w_addS, w_addT, w_addL, w_sub, w_mul, w_mod, w_fdiv, w_pow, w_neg, w_eqI, w_neI, w_eqS, w_neS, w_eqB, w_neB, w_lt, w_le, w_gt, w_ge, w_int, w_abs, w_lenL, w_lenT, w_lenS, w_tupL, w_rng1, w_in2, w_in3, bne_self, Bool.not_true, Bool.not_false, Bool.or_false, Bool.false_or, Bool.or_true, Bool.true_or, decide_true, decide_false, and_true, true_and, dEg]
    refine ⟨d, l, 88 + 7 * (j : Int), rfl, hd3, ch, by omega, fun l' M4 gr4 ch' len' => ?_⟩
    refine hnx _ _ ⟨l', _, rfl, gr4.1, ?_, by omega⟩
    rw [show 88 + 7 * ((j + 1 : Nat) : Int) = 88 + 7 * (j : Int) + 7 by omega]
    exact ch'
  · exact ⟨l0, _, rfl, hd2, ⟨tk, by have := hcs.m; have := hcs.u; unfold mz; omega, by omega⟩, by omega⟩
  · rintro σ M3 ⟨l, o7, rfl, hd3, ch, len⟩
    rw [rngD_len] at ch len
    have hm : mz l < (nC : Int) := by have := ch.m; show mz l < 103; omega
    simp only [dSs, dS, dT, dE, dEs, dTO, dTA, dAnd, dOr, dIt, dIf, gTg, gTgs, wipeD, List.map_cons, List.map_nil, getS_z, getS_s, List.set_cons_zero, List.set_cons_succ, ty_non, ty_bl, ty_int, ty_str, ty_tup, ty_lst, tk1, tk2, tk3, tk4, tk5, tk6, tk7, tk8, tk9, tk10, tk11, tk12, tk13, tk14, tk15, tk16, tk17, tk18, tk19, tk20, w_truB, w_truI, w_truN, w_truL, w_truT, w_is, w_isn, isNon_non, isNon_bl, isNon_int, isNon_str, isNon_lst, isNon_tup, w_add, w_addS, w_addT, w_addL, w_sub, w_mul, w_mod, w_fdiv, w_pow, w_neg, w_eqI, w_neI, w_eqS, w_neS, w_eqB, w_neB, w_lt, w_le, w_gt, w_ge, w_int, w_abs, w_lenL, w_lenT, w_lenS, w_tupL, w_rng1, w_in2, w_in3, bne_self, Bool.not_true, Bool.not_false, Bool.or_false, Bool.false_or, Bool.or_true, Bool.true_or, decide_true, decide_false, and_true, true_and, dEg]
    refine ⟨d, l, rfl, hd3, ch.t, by omega, fun t q pl M4 gr4 hg lt hq hq0 => ?_⟩
    simp only [dSs, dS, dT, dE, dEs, dTO, dTA, dAnd, dOr, dIt, dIf, gTg, gTgs, wipeD, List.map_cons, List.map_nil, getS_z, getS_s, List.set_cons_zero, List.set_cons_succ, ty_non, ty_bl, ty_int, ty_str, ty_tup, ty_lst, tk1, tk2, tk3, tk4, tk5, tk6, tk7, tk8, tk9, tk10, tk11, tk12, tk13, tk14, tk15, tk16, tk17, tk18, tk19, tk20, w_truB, w_truI, w_truN, w_truL, w_truT, w_is, w_isn, isNon_non, isNon_bl, isNon_int, isNon_str, isNon_lst, isNon_tup, w_add, w_addS, w_addT, w_addL, w_sub, w_mul, w_mod, w_fdiv, w_pow, w_neg, w_eqI, w_neI, w_eqS, w_neS, w_eqB, w_neB, w_lt, w_le, w_gt, w_ge, w_int, w_abs, w_lenL, w_lenT, w_lenS, w_tupL, w_rng1, w_in2, w_in3, bne_self, Bool.not_true, Bool.not_false, Bool.or_false, Bool.false_or, Bool.or_true, Bool.true_or, decide_true, decide_false, and_true, true_and, dEg]
    have tl : t.length ≤ 100000 := by omega
    refine ⟨by omega, ?_⟩
    cases hz : decide ((280 : Int) < (t.length : Int)) with
    | true => exact hc _ _ _ _ _ _ _ _ _ gr4.1
    | false => exact end_ok g2 hh (by omega) ch.t (by omega) hm tl hg hq gr4.1 fun M' _ _ h => hn _ _ _ _ _ _ _ _ _ h
theorem h_law : ∀ ds M Q E, ds.length = 1 → spLaw ds M Q E → dSs E (c_law spDraw (spTree 5) spNext (spTok 9) spCh (spText sgK) spDueC spTold (spSame 2)) { nx := fun _ M' => Q .non M', rt := Q } (startD n_law.length ds) M := by
  rintro ds M Q E hl ⟨ns, rfl, h63, q⟩
  show dSs E (c_law _ _ _ _ _ _ _ _ _) _ [some (.scr ns), none, none, none, none, none, none, none, none, none, none, none] M
  rw [c_law_eq]
  have ll : line = 16777216 := rfl
  simp only [dSs, dS, dT, dE, dEs, dTO, dTA, dAnd, dOr, dIt, dIf, gTg, gTgs, wipeD, List.map_cons, List.map_nil, getS_z, getS_s, List.set_cons_zero, List.set_cons_succ, ty_non, ty_bl, ty_int, ty_str, ty_tup, ty_lst, tk1, tk2, tk3, tk4, tk5, tk6, tk7, tk8, tk9, tk10, tk11, tk12, tk13, tk14, tk15, tk16, tk17, tk18, tk19, tk20, w_truB, w_truI, w_truN, w_truL, w_truT, w_is, w_isn, isNon_non, isNon_bl, isNon_int, isNon_str, isNon_lst, isNon_tup, w_add, w_addS, w_addT, w_addL, w_sub, w_mul, w_mod, w_fdiv, w_pow, w_neg, w_eqI, w_neI, w_eqS, w_neS, w_eqB, w_neB, w_lt, w_le, w_gt, w_ge, w_int, w_abs, w_lenL, w_lenT, w_lenS, w_tupL, w_rng1, w_in2, w_in3, bne_self, Bool.not_true, Bool.not_false, Bool.or_false, Bool.false_or, Bool.or_true, Bool.true_or, decide_true, decide_false, and_true, true_and, dEg]
  refine ⟨ns, rfl, h63, fun d M1 _ _ hd1 => ?_⟩
  refine ⟨⟨by decide, by decide⟩, by decide, ?_⟩
  refine forGo_inv (fun j σ M' => ∃ o2 o3 o4 o5 o6 o7 o8 o9 o10 o11 : Option D, σ = [some (.scr ns), some (.ptr d), o2, o3, o4, o5, o6, o7, o8, o9, o10, o11] ∧ DrawAt M' d) _ (fun _ _ _ _ => trivial) ?_ ?_ ?_
  · rintro j x σ M2 nx hx ⟨o2, o3, o4, o5, o6, o7, o8, o9, o10, o11, rfl, hd2⟩ hn
    simp only [dSs, dS, dT, dE, dEs, dTO, dTA, dAnd, dOr, dIt, dIf, gTg, gTgs, wipeD, List.map_cons, List.map_nil, getS_z, getS_s, List.set_cons_zero, List.set_cons_succ, ty_non, ty_bl, ty_int, ty_str, ty_tup, ty_lst, tk1, tk2, tk3, tk4, tk5, tk6, tk7, tk8, tk9, tk10, tk11, tk12, tk13, tk14, tk15, tk16, tk17, tk18, tk19, tk20, w_truB, w_truI, w_truN, w_truL, w_truT, w_is, w_isn, isNon_non, isNon_bl, isNon_int, isNon_str, isNon_lst, isNon_tup, w_add, w_addS, w_addT, w_addL, w_sub, w_mul, w_mod, w_fdiv, w_pow, w_neg, w_eqI, w_neI, w_eqS, w_neS, w_eqB, w_neB, w_lt, w_le, w_gt, w_ge, w_int, w_abs, w_lenL, w_lenT, w_lenS, w_tupL, w_rng1, w_in2, w_in3, bne_self, Bool.not_true, Bool.not_false, Bool.or_false, Bool.false_or, Bool.or_true, Bool.true_or, decide_true, decide_false, and_true, true_and, dEg]
    refine ⟨d, 4, rfl, by decide, by decide, hd2, fun r M3 r0 r2 hd3 e3 => ?_⟩
    obtain ⟨k, rfl⟩ : ∃ k : Nat, r = (k : Int) := ⟨r.toNat, by omega⟩
    simp only [dSs, dS, dT, dE, dEs, dTO, dTA, dAnd, dOr, dIt, dIf, gTg, gTgs, wipeD, List.map_cons, List.map_nil, getS_z, getS_s, List.set_cons_zero, List.set_cons_succ, ty_non, ty_bl, ty_int, ty_str, ty_tup, ty_lst, tk1, tk2, tk3, tk4, tk5, tk6, tk7, tk8, tk9, tk10, tk11, tk12, tk13, tk14, tk15, tk16, tk17, tk18, tk19, tk20, w_truB, w_truI, w_truN, w_truL, w_truT, w_is, w_isn, isNon_non, isNon_bl, isNon_int, isNon_str, isNon_lst, isNon_tup, w_add, w_addS, w_addT, w_addL, w_sub, w_mul, w_mod, w_fdiv, w_pow, w_neg, w_eqI, w_neI, w_eqS, w_neS, w_eqB, w_neB, w_lt, w_le, w_gt, w_ge, w_int, w_abs, w_lenL, w_lenT, w_lenS, w_tupL, w_rng1, w_in2, w_in3, bne_self, Bool.not_true, Bool.not_false, Bool.or_false, Bool.false_or, Bool.or_true, Bool.true_or, decide_true, decide_false, and_true, true_and]
    refine ⟨d, 1 + k, by rw [show (1 : Int) + (k : Int) = ((1 + k : Nat) : Int) by omega], by omega, hd3, fun c M4 h1 h2 h3 gr => ?_⟩
    have hsz : (subC c).length ≤ 61 := by
      have : capC (1 + k) ≤ 61 := by
        have : k = 0 ∨ k = 1 ∨ k = 2 ∨ k = 3 := by omega
        rcases this with rfl | rfl | rfl | rfl <;> decide
      omega
    exact rest_ok (by omega) h2 hsz gr.1 (fun M' _ _ _ _ _ _ _ _ h => hn _ _ ⟨_, _, _, _, _, _, _, _, _, _, rfl, h⟩) (fun M' _ _ _ _ _ _ _ _ h => hn _ _ ⟨_, _, _, _, _, _, _, _, _, _, rfl, h⟩)
  · exact ⟨_, _, _, _, _, _, _, _, _, _, rfl, hd1⟩
  · rintro σ M2 ⟨o2, o3, o4, o5, o6, o7, o8, o9, o10, o11, rfl, hd2⟩
    exact q M2
end K46
end VS

/-! TextError's __init__ and the def that tells it: their texts -/
namespace VS
open PySem PySem.Spec PyProof.Rows L2
namespace K46
abbrev s_ti : PySem.Stmt := L2.inClass (top 2) 0
theorem ti_text : IniText s_ti where
  body := ⟨_, _, _, _, _, _, _, _, _, _, _, _, _, _, _, _, _, _, _, _, rfl, fun env => ⟨_, rfl⟩⟩
  kind := by decide +kernel
  co := by decide +kernel
  gen := by decide +kernel
  nocell := by decide +kernel
  onefree := by decide +kernel
  lS := by decide +kernel
  lP := by decide +kernel
  lM := by decide +kernel
  gS := by decide +kernel
  fC := by decide +kernel
  arg := by decide +kernel
theorem told_text : ToldText s_law_told "TextError" "error" (tryB s_law_told) := ⟨⟨_, _, _, _, _, _, _, _, _, _, rfl⟩⟩
theorem f_told {G : Glob} {k : Nat} {f : Addr} {fd : FuncData} {D : Addr} {p : Spec} (d : DefAt G "_law_told" s_law_told ["_law_text_here"] f fd) (Hd : HdFor G "TextError" D) (ok : okSs G k (c_law_told p)) {sp : Spec}
    (hsp : ∀ ds M Q E, ds.length = 1 → sp ds M Q E → dSs (EX "TextError" Q) (c_law_told p) { nx := fun _ _ => False, rt := Q } (startD n_law_told.length ds) M) : FnFor G (k + 1) "_law_told" 1 sp :=
  d.at (told_ok (i := 2) (c_law_told p) d.fn sc_law_told told_text rfl (by decide +kernel) (by decide +kernel) (by decide +kernel) (by decide +kernel) Hd (m_law_told p) ok (fun _ _ => rfl) (fun _ _ => rfl) hsp)
end K46
end VS

namespace VS
open PySem PySem.Spec PyProof.Rows L2
namespace K46
/-- the built-ins are not hidden -/
structure Bs (G : Glob) : Prop where
  len : noB G "len"
  list : noB G "list"
  tuple : noB G "tuple"
  range : noB G "range"
  abs : noB G "abs"
  int : noB G "int"
  isi : noB G "isinstance"
  all : noB G "all"
  str : noB G "str"
  bool : noB G "bool"
  sum : noB G "sum"
section
variable {G : Glob} (B : Bs G)
structure Ds (G : Glob) : Prop where
  d_is_letter : ∃ f fd, DefAt G "is_letter" s_is_letter ["char"] f fd
  d_word_end : ∃ f fd, DefAt G "word_end" s_word_end ["text", "start"] f fd
  d_tokens : ∃ f fd, DefAt G "tokens" s_tokens ["text", "signs"] f fd
  d_Reader___init__ : ∃ C f fd, InitAt G "Reader" s_Reader___init__ ["self", "text", "signs"] C f fd
  d_Reader_kind : ∃ C f fd, MethAt G "Reader" "kind" s_Reader_kind ["self"] C f fd
  d_Reader_value : ∃ C f fd, MethAt G "Reader" "value" s_Reader_value ["self"] C f fd
  d_Reader_spot : ∃ C f fd, MethAt G "Reader" "spot" s_Reader_spot ["self"] C f fd
  d_Reader_fail : ∃ C f fd, MethAt G "Reader" "fail" s_Reader_fail ["self"] C f fd
  d_Reader_is_sign : ∃ C f fd, MethAt G "Reader" "is_sign" s_Reader_is_sign ["self", "sign"] C f fd
  d_Reader_is_word : ∃ C f fd, MethAt G "Reader" "is_word" s_Reader_is_word ["self", "word"] C f fd
  d_Reader_accept : ∃ C f fd, MethAt G "Reader" "accept" s_Reader_accept ["self", "sign"] C f fd
  d_Reader_need : ∃ C f fd, MethAt G "Reader" "need" s_Reader_need ["self", "sign"] C f fd
  d_Reader_name : ∃ C f fd, MethAt G "Reader" "name" s_Reader_name ["self"] C f fd
  d_joined : ∃ f fd, DefAt G "joined" s_joined ["kind", "parts"] f fd
  d_read_factor : ∃ f fd, DefAt G "read_factor" s_read_factor ["reader"] f fd
  d_read_term : ∃ f fd, DefAt G "read_term" s_read_term ["reader"] f fd
  d_read_condition : ∃ f fd, DefAt G "read_condition" s_read_condition ["reader"] f fd
  d_inner_of : ∃ f fd, DefAt G "inner_of" s_inner_of ["condition"] f fd
  d_parts_of : ∃ f fd, DefAt G "parts_of" s_parts_of ["condition"] f fd
  d_parse_condition : ∃ f fd, DefAt G "parse_condition" s_parse_condition ["text"] f fd
  d_law_draw : ∃ f fd, DefAt G "_law_draw" s_law_draw ["_law_script"] f fd
  d_law_next : ∃ f fd, DefAt G "_law_next" s_law_next ["_law_draw_here", "_law_many"] f fd
  d_law_same : ∃ f fd, DefAt G "_law_same" s_law_same ["_law_actual", "_law_due_here"] f fd
  d_law_tree : ∃ f fd, DefAt G "_law_tree" s_law_tree ["_law_draw_here", "_law_depth"] f fd
  d_law_parts : ∃ f fd, DefAt G "_law_parts" s_law_parts ["_law_tree_here"] f fd
  d_law_looks : ∃ f fd, DefAt G "_law_looks" s_law_looks ["_law_tree_here"] f fd
  d_law_text : ∃ f fd, DefAt G "_law_text" s_law_text ["_law_draw_here", "_law_tokens"] f fd
  d_law_change : ∃ f fd, DefAt G "_law_change" s_law_change ["_law_draw_here", "_law_tokens", "_law_signs"] f fd
  d_law_bracket : ∃ f fd, DefAt G "_law_bracket" s_law_bracket ["_law_draw_here", "_law_tokens", "_law_needed"] f fd
  d_law_condition_tokens : ∃ f fd, DefAt G "_law_condition_tokens" s_law_condition_tokens ["_law_draw_here", "_law_tree_here", "_law_within"] f fd
  d_law_step : ∃ f fd, DefAt G "_law_step" s_law_step ["_law_token", "_law_state", "_law_level"] f fd
  d_law_due : ∃ f fd, DefAt G "_law_due" s_law_due ["_law_tree_here", "_law_tokens", "_law_text_here", "_law_places", "_law_changed"] f fd
  d_law_told : ∃ f fd, DefAt G "_law_told" s_law_told ["_law_text_here"] f fd
  d_law : ∃ f fd, DefAt G "law" s_law ["_law_script"] f fd
  a_Reader_size : AttrF G "Reader" "size"
  a_Reader_parts : AttrF G "Reader" "parts"
  a_Reader_taken : AttrF G "Reader" "taken"
  g_PARTS_MOST : GlobF G "PARTS_MOST" g_PARTS_MOST
  g_LOOKS_MOST : GlobF G "LOOKS_MOST" g_LOOKS_MOST
  g_LOOKS : GlobF G "LOOKS" g_LOOKS
  g_NAME_MOST : GlobF G "NAME_MOST" g_NAME_MOST
  ex : ExFor G "TextError"
  hd : ∃ D, HdFor G "TextError" D
variable (D0 : Ds G)
include B D0
theorem f_is_letter : FnFor G 1 "is_letter" 1 spLet := by
  obtain ⟨f, fd, d⟩ := D0.d_is_letter
  exact d.ok (c_is_letter) sc_is_letter (m_is_letter) (by unfold c_is_letter; simp only [okSs, okS, okX, okXs, okT, okTs, okIt, okIf, PXs.len, biName, biB, tvB, fiveTys, List.mem_cons, and_true, true_and, Nat.zero_add, Nat.reduceAdd, or_true, true_or, and_self, B.len, B.list, B.tuple, B.range, B.abs, B.int, B.isi, B.all, B.str, B.bool, B.sum, D0.a_Reader_size, D0.a_Reader_parts, D0.a_Reader_taken, D0.g_PARTS_MOST, D0.g_LOOKS_MOST, D0.g_LOOKS, D0.g_NAME_MOST, pr_disp]) h_is_letter
theorem f_word_end : FnFor G 2 "word_end" 2 spWordEnd := by
  obtain ⟨f, fd, d⟩ := D0.d_word_end
  have k0 := f_is_letter B D0
  exact d.ok (c_word_end spLet) sc_word_end (m_word_end _) (by unfold c_word_end; simp only [okSs, okS, okX, okXs, okT, okTs, okIt, okIf, PXs.len, biName, biB, tvB, fiveTys, List.mem_cons, and_true, true_and, Nat.zero_add, Nat.reduceAdd, or_true, true_or, and_self, B.len, B.list, B.tuple, B.range, B.abs, B.int, B.isi, B.all, B.str, B.bool, B.sum, D0.a_Reader_size, D0.a_Reader_parts, D0.a_Reader_taken, D0.g_PARTS_MOST, D0.g_LOOKS_MOST, D0.g_LOOKS, D0.g_NAME_MOST, pr_disp, k0]) h_word_end
theorem f_tokens : FnFor G 3 "tokens" 2 spTokens := by
  obtain ⟨f, fd, d⟩ := D0.d_tokens
  have k0 := (f_is_letter B D0).mono (show 1 ≤ 2 by omega)
  have k1 := f_word_end B D0
  have k2 := frz_ok G 2
  have k3 := ps_raiseO (n := 2) D0.ex (show 2 ≤ 2 by omega)
  exact d.ok (c_tokens spLet spWordEnd) sc_tokens (m_tokens _ _) (by unfold c_tokens; simp only [okSs, okS, okX, okXs, okT, okTs, okIt, okIf, PXs.len, biName, biB, tvB, fiveTys, List.mem_cons, and_true, true_and, Nat.zero_add, Nat.reduceAdd, or_true, true_or, and_self, B.len, B.list, B.tuple, B.range, B.abs, B.int, B.isi, B.all, B.str, B.bool, B.sum, D0.a_Reader_size, D0.a_Reader_parts, D0.a_Reader_taken, D0.g_PARTS_MOST, D0.g_LOOKS_MOST, D0.g_LOOKS, D0.g_NAME_MOST, pr_disp, k0, k1, k2, k3]) h_tokens
theorem f_Reader___init__ : MkFor G 5 "Reader" 3 spRInit := by
  obtain ⟨C, f, fd, d⟩ := D0.d_Reader___init__
  have k0 := f_tokens B D0
  exact d.ok (c_Reader___init__ spTokens) sc_Reader___init__ (m_Reader___init__ _) (by unfold c_Reader___init__; simp only [okSs, okS, okX, okXs, okT, okTs, okIt, okIf, PXs.len, biName, biB, tvB, fiveTys, List.mem_cons, and_true, true_and, Nat.zero_add, Nat.reduceAdd, or_true, true_or, and_self, B.len, B.list, B.tuple, B.range, B.abs, B.int, B.isi, B.all, B.str, B.bool, B.sum, D0.a_Reader_size, D0.a_Reader_parts, D0.a_Reader_taken, D0.g_PARTS_MOST, D0.g_LOOKS_MOST, D0.g_LOOKS, D0.g_NAME_MOST, pr_disp, k0]) h_Reader___init__
theorem f_Reader_kind : MethFor G 1 "Reader" "kind" 1 spKind := by
  obtain ⟨C, f, fd, d⟩ := D0.d_Reader_kind
  exact d.ok (c_Reader_kind) sc_Reader_kind (m_Reader_kind) (by unfold c_Reader_kind; simp only [okSs, okS, okX, okXs, okT, okTs, okIt, okIf, PXs.len, biName, biB, tvB, fiveTys, List.mem_cons, and_true, true_and, Nat.zero_add, Nat.reduceAdd, or_true, true_or, and_self, B.len, B.list, B.tuple, B.range, B.abs, B.int, B.isi, B.all, B.str, B.bool, B.sum, D0.a_Reader_size, D0.a_Reader_parts, D0.a_Reader_taken, D0.g_PARTS_MOST, D0.g_LOOKS_MOST, D0.g_LOOKS, D0.g_NAME_MOST, pr_disp]) h_Reader_kind
theorem f_Reader_value : MethFor G 1 "Reader" "value" 1 spValue := by
  obtain ⟨C, f, fd, d⟩ := D0.d_Reader_value
  exact d.ok (c_Reader_value) sc_Reader_value (m_Reader_value) (by unfold c_Reader_value; simp only [okSs, okS, okX, okXs, okT, okTs, okIt, okIf, PXs.len, biName, biB, tvB, fiveTys, List.mem_cons, and_true, true_and, Nat.zero_add, Nat.reduceAdd, or_true, true_or, and_self, B.len, B.list, B.tuple, B.range, B.abs, B.int, B.isi, B.all, B.str, B.bool, B.sum, D0.a_Reader_size, D0.a_Reader_parts, D0.a_Reader_taken, D0.g_PARTS_MOST, D0.g_LOOKS_MOST, D0.g_LOOKS, D0.g_NAME_MOST, pr_disp]) h_Reader_value
theorem f_Reader_spot : MethFor G 1 "Reader" "spot" 1 spSpot := by
  obtain ⟨C, f, fd, d⟩ := D0.d_Reader_spot
  exact d.ok (c_Reader_spot) sc_Reader_spot (m_Reader_spot) (by unfold c_Reader_spot; simp only [okSs, okS, okX, okXs, okT, okTs, okIt, okIf, PXs.len, biName, biB, tvB, fiveTys, List.mem_cons, and_true, true_and, Nat.zero_add, Nat.reduceAdd, or_true, true_or, and_self, B.len, B.list, B.tuple, B.range, B.abs, B.int, B.isi, B.all, B.str, B.bool, B.sum, D0.a_Reader_size, D0.a_Reader_parts, D0.a_Reader_taken, D0.g_PARTS_MOST, D0.g_LOOKS_MOST, D0.g_LOOKS, D0.g_NAME_MOST, pr_disp]) h_Reader_spot
theorem f_Reader_fail : MethFor G 3 "Reader" "fail" 1 spFail := by
  obtain ⟨C, f, fd, d⟩ := D0.d_Reader_fail
  have k0 := (f_Reader_spot B D0).mono (show 1 ≤ 2 by omega)
  have k1 := (f_Reader_kind B D0).mono (show 1 ≤ 2 by omega)
  have k2 := ps_raiseO (n := 2) D0.ex (show 2 ≤ 2 by omega)
  exact d.ok (c_Reader_fail spSpot spKind) sc_Reader_fail (m_Reader_fail _ _) (by unfold c_Reader_fail; simp only [okSs, okS, okX, okXs, okT, okTs, okIt, okIf, PXs.len, biName, biB, tvB, fiveTys, List.mem_cons, and_true, true_and, Nat.zero_add, Nat.reduceAdd, or_true, true_or, and_self, B.len, B.list, B.tuple, B.range, B.abs, B.int, B.isi, B.all, B.str, B.bool, B.sum, D0.a_Reader_size, D0.a_Reader_parts, D0.a_Reader_taken, D0.g_PARTS_MOST, D0.g_LOOKS_MOST, D0.g_LOOKS, D0.g_NAME_MOST, pr_disp, k0, k1, k2]) h_Reader_fail
theorem f_Reader_is_sign : MethFor G 2 "Reader" "is_sign" 2 spIsSign := by
  obtain ⟨C, f, fd, d⟩ := D0.d_Reader_is_sign
  have k0 := f_Reader_kind B D0
  have k1 := f_Reader_value B D0
  exact d.ok (c_Reader_is_sign spKind spValue) sc_Reader_is_sign (m_Reader_is_sign _ _) (by unfold c_Reader_is_sign; simp only [okSs, okS, okX, okXs, okT, okTs, okIt, okIf, PXs.len, biName, biB, tvB, fiveTys, List.mem_cons, and_true, true_and, Nat.zero_add, Nat.reduceAdd, or_true, true_or, and_self, B.len, B.list, B.tuple, B.range, B.abs, B.int, B.isi, B.all, B.str, B.bool, B.sum, D0.a_Reader_size, D0.a_Reader_parts, D0.a_Reader_taken, D0.g_PARTS_MOST, D0.g_LOOKS_MOST, D0.g_LOOKS, D0.g_NAME_MOST, pr_disp, k0, k1]) h_Reader_is_sign
theorem f_Reader_is_word : MethFor G 2 "Reader" "is_word" 2 spIsWord := by
  obtain ⟨C, f, fd, d⟩ := D0.d_Reader_is_word
  have k0 := f_Reader_kind B D0
  have k1 := f_Reader_value B D0
  exact d.ok (c_Reader_is_word spKind spValue) sc_Reader_is_word (m_Reader_is_word _ _) (by unfold c_Reader_is_word; simp only [okSs, okS, okX, okXs, okT, okTs, okIt, okIf, PXs.len, biName, biB, tvB, fiveTys, List.mem_cons, and_true, true_and, Nat.zero_add, Nat.reduceAdd, or_true, true_or, and_self, B.len, B.list, B.tuple, B.range, B.abs, B.int, B.isi, B.all, B.str, B.bool, B.sum, D0.a_Reader_size, D0.a_Reader_parts, D0.a_Reader_taken, D0.g_PARTS_MOST, D0.g_LOOKS_MOST, D0.g_LOOKS, D0.g_NAME_MOST, pr_disp, k0, k1]) h_Reader_is_word
theorem f_Reader_accept : MethFor G 3 "Reader" "accept" 2 spAccept := by
  obtain ⟨C, f, fd, d⟩ := D0.d_Reader_accept
  have k0 := f_Reader_is_sign B D0
  exact d.ok (c_Reader_accept spIsSign) sc_Reader_accept (m_Reader_accept _) (by unfold c_Reader_accept; simp only [okSs, okS, okX, okXs, okT, okTs, okIt, okIf, PXs.len, biName, biB, tvB, fiveTys, List.mem_cons, and_true, true_and, Nat.zero_add, Nat.reduceAdd, or_true, true_or, and_self, B.len, B.list, B.tuple, B.range, B.abs, B.int, B.isi, B.all, B.str, B.bool, B.sum, D0.a_Reader_size, D0.a_Reader_parts, D0.a_Reader_taken, D0.g_PARTS_MOST, D0.g_LOOKS_MOST, D0.g_LOOKS, D0.g_NAME_MOST, pr_disp, k0]) h_Reader_accept
theorem f_Reader_need : MethFor G 4 "Reader" "need" 2 spNeed := by
  obtain ⟨C, f, fd, d⟩ := D0.d_Reader_need
  have k0 := f_Reader_accept B D0
  have k1 := f_Reader_fail B D0
  exact d.ok (c_Reader_need spAccept spFail) sc_Reader_need (m_Reader_need _ _) (by unfold c_Reader_need; simp only [okSs, okS, okX, okXs, okT, okTs, okIt, okIf, PXs.len, biName, biB, tvB, fiveTys, List.mem_cons, and_true, true_and, Nat.zero_add, Nat.reduceAdd, or_true, true_or, and_self, B.len, B.list, B.tuple, B.range, B.abs, B.int, B.isi, B.all, B.str, B.bool, B.sum, D0.a_Reader_size, D0.a_Reader_parts, D0.a_Reader_taken, D0.g_PARTS_MOST, D0.g_LOOKS_MOST, D0.g_LOOKS, D0.g_NAME_MOST, pr_disp, k0, k1]) h_Reader_need
theorem f_Reader_name : MethFor G 4 "Reader" "name" 1 spName := by
  obtain ⟨C, f, fd, d⟩ := D0.d_Reader_name
  have k0 := (f_Reader_kind B D0).mono (show 1 ≤ 3 by omega)
  have k1 := (f_Reader_value B D0).mono (show 1 ≤ 3 by omega)
  have k2 := f_Reader_fail B D0
  exact d.ok (c_Reader_name spKind spValue spFail) sc_Reader_name (m_Reader_name _ _ _) (by unfold c_Reader_name; simp only [okSs, okS, okX, okXs, okT, okTs, okIt, okIf, PXs.len, biName, biB, tvB, fiveTys, List.mem_cons, and_true, true_and, Nat.zero_add, Nat.reduceAdd, or_true, true_or, and_self, B.len, B.list, B.tuple, B.range, B.abs, B.int, B.isi, B.all, B.str, B.bool, B.sum, D0.a_Reader_size, D0.a_Reader_parts, D0.a_Reader_taken, D0.g_PARTS_MOST, D0.g_LOOKS_MOST, D0.g_LOOKS, D0.g_NAME_MOST, pr_disp, k0, k1, k2]) h_Reader_name
theorem f_law_draw : FnFor G 1 "_law_draw" 1 spDraw := by
  obtain ⟨f, fd, d⟩ := D0.d_law_draw
  exact d.ok (c_law_draw) sc_law_draw (m_law_draw) (by unfold c_law_draw; simp only [okSs, okS, okX, okXs, okT, okTs, okIt, okIf, PXs.len, biName, biB, tvB, fiveTys, List.mem_cons, and_true, true_and, Nat.zero_add, Nat.reduceAdd, or_true, true_or, and_self, B.len, B.list, B.tuple, B.range, B.abs, B.int, B.isi, B.all, B.str, B.bool, B.sum, D0.a_Reader_size, D0.a_Reader_parts, D0.a_Reader_taken, D0.g_PARTS_MOST, D0.g_LOOKS_MOST, D0.g_LOOKS, D0.g_NAME_MOST, pr_disp]) h_draw
theorem f_law_next : FnFor G 1 "_law_next" 2 spNext := by
  obtain ⟨f, fd, d⟩ := D0.d_law_next
  exact d.ok (c_law_next) sc_law_next (m_law_next) (by unfold c_law_next; simp only [okSs, okS, okX, okXs, okT, okTs, okIt, okIf, PXs.len, biName, biB, tvB, fiveTys, List.mem_cons, and_true, true_and, Nat.zero_add, Nat.reduceAdd, or_true, true_or, and_self, B.len, B.list, B.tuple, B.range, B.abs, B.int, B.isi, B.all, B.str, B.bool, B.sum, D0.a_Reader_size, D0.a_Reader_parts, D0.a_Reader_taken, D0.g_PARTS_MOST, D0.g_LOOKS_MOST, D0.g_LOOKS, D0.g_NAME_MOST, pr_disp]) h_next
theorem f_law_same : ∀ n, FnFor G (n) "_law_same" 2 (spSame n)
  | 0 => by
    obtain ⟨f, fd, d⟩ := D0.d_law_same
    exact d.none fun ds M Q E ⟨x, _, h, _⟩ => by cases h
  | n + 1 => by
    obtain ⟨f, fd, d⟩ := D0.d_law_same
    have ih := f_law_same n
    exact d.ok (c_law_same (spSame n)) sc_law_same (m_law_same _) (by unfold c_law_same; simp only [okSs, okS, okX, okXs, okT, okTs, okIt, okIf, PXs.len, biName, biB, tvB, fiveTys, List.mem_cons, and_true, true_and, Nat.zero_add, Nat.reduceAdd, or_true, true_or, and_self, ih, B.len, B.list, B.tuple, B.range, B.abs, B.int, B.isi, B.all, B.str, B.bool, B.sum, D0.a_Reader_size, D0.a_Reader_parts, D0.a_Reader_taken, D0.g_PARTS_MOST, D0.g_LOOKS_MOST, D0.g_LOOKS, D0.g_NAME_MOST, pr_disp]) (h_same n)
theorem f_joined : FnFor G 1 "joined" 2 spJo := by
  obtain ⟨f, fd, d⟩ := D0.d_joined
  exact d.ok (c_joined) sc_joined (m_joined) (by unfold c_joined; simp only [okSs, okS, okX, okXs, okT, okTs, okIt, okIf, PXs.len, biName, biB, tvB, fiveTys, List.mem_cons, and_true, true_and, Nat.zero_add, Nat.reduceAdd, or_true, true_or, and_self, B.len, B.list, B.tuple, B.range, B.abs, B.int, B.isi, B.all, B.str, B.bool, B.sum, D0.a_Reader_size, D0.a_Reader_parts, D0.a_Reader_taken, D0.g_PARTS_MOST, D0.g_LOOKS_MOST, D0.g_LOOKS, D0.g_NAME_MOST, pr_disp]) h_joined
theorem f_read_term {n : Nat} (k : FnFor G (n + 5) "read_factor" 1 (spPc 0 n)) : FnFor G (n + 6) "read_term" 1 (spPc 1 n) := by
  obtain ⟨f, fd, d⟩ := D0.d_read_term
  have k0 := k
  have k1 := (f_Reader_is_word B D0).mono (show 2 ≤ n + 5 by omega)
  have k2 := (f_joined B D0).mono (show 1 ≤ n + 5 by omega)
  exact d.ok (c_read_term (spPc 0 n) spIsWord spJo) sc_read_term (m_read_term _ _ _) (by unfold c_read_term; simp only [okSs, okS, okX, okXs, okT, okTs, okIt, okIf, PXs.len, biName, biB, tvB, fiveTys, List.mem_cons, and_true, true_and, Nat.zero_add, Nat.reduceAdd, or_true, true_or, and_self, B.len, B.list, B.tuple, B.range, B.abs, B.int, B.isi, B.all, B.str, B.bool, B.sum, D0.a_Reader_size, D0.a_Reader_parts, D0.a_Reader_taken, D0.g_PARTS_MOST, D0.g_LOOKS_MOST, D0.g_LOOKS, D0.g_NAME_MOST, pr_disp, k0, k1, k2]) (h_term n)
theorem f_read_condition {n : Nat} (k : FnFor G (n + 6) "read_term" 1 (spPc 1 n)) : FnFor G (n + 7) "read_condition" 1 (spPc 2 n) := by
  obtain ⟨f, fd, d⟩ := D0.d_read_condition
  have k0 := k
  have k1 := (f_Reader_is_word B D0).mono (show 2 ≤ n + 6 by omega)
  have k2 := (f_joined B D0).mono (show 1 ≤ n + 6 by omega)
  exact d.ok (c_read_condition (spPc 1 n) spIsWord spJo) sc_read_condition (m_read_condition _ _ _) (by unfold c_read_condition; simp only [okSs, okS, okX, okXs, okT, okTs, okIt, okIf, PXs.len, biName, biB, tvB, fiveTys, List.mem_cons, and_true, true_and, Nat.zero_add, Nat.reduceAdd, or_true, true_or, and_self, B.len, B.list, B.tuple, B.range, B.abs, B.int, B.isi, B.all, B.str, B.bool, B.sum, D0.a_Reader_size, D0.a_Reader_parts, D0.a_Reader_taken, D0.g_PARTS_MOST, D0.g_LOOKS_MOST, D0.g_LOOKS, D0.g_NAME_MOST, pr_disp, k0, k1, k2]) (h_condition n)
theorem f_co3 {n : Nat} (k : FnFor G (n + 6) "read_term" 1 (spPc 1 n)) : FnFor G (n + 7) "read_condition" 1 (spCo3 (n + 2)) := by
  obtain ⟨f, fd, d⟩ := D0.d_read_condition
  have k0 := k
  have k1 := (f_Reader_is_word B D0).mono (show 2 ≤ n + 6 by omega)
  have k2 := (f_joined B D0).mono (show 1 ≤ n + 6 by omega)
  exact d.ok (c_read_condition (spPc 1 n) spIsWord spJo) sc_read_condition (m_read_condition _ _ _) (by unfold c_read_condition; simp only [okSs, okS, okX, okXs, okT, okTs, okIt, okIf, PXs.len, biName, biB, tvB, fiveTys, List.mem_cons, and_true, true_and, Nat.zero_add, Nat.reduceAdd, or_true, true_or, and_self, B.len, B.list, B.tuple, B.range, B.abs, B.int, B.isi, B.all, B.str, B.bool, B.sum, D0.a_Reader_size, D0.a_Reader_parts, D0.a_Reader_taken, D0.g_PARTS_MOST, D0.g_LOOKS_MOST, D0.g_LOOKS, D0.g_NAME_MOST, pr_disp, k0, k1, k2]) (fun ds M Q E hl ⟨m, e, h⟩ => by obtain rfl : m = n := (by omega); exact h_condition _ ds M Q E hl h)
theorem f_co0 {n : Nat} (h : n < 2) : FnFor G (n + 5) "read_condition" 1 (spCo3 n) := by
  obtain ⟨f, fd, d⟩ := D0.d_read_condition
  exact d.none fun ds M Q E ⟨m, e, _⟩ => by omega
theorem f_fac {n : Nat} (ih : FnFor G (n + 5) "read_factor" 1 (spPc 0 n)) (kc : FnFor G (n + 5) "read_condition" 1 (spCo3 n)) : FnFor G (n + 6) "read_factor" 1 (spPc 0 (n + 1)) := by
  obtain ⟨f, fd, d⟩ := D0.d_read_factor
  have k0 := (f_Reader_accept B D0).mono (show 3 ≤ n + 5 by omega)
  have k1 := (f_Reader_need B D0).mono (show 4 ≤ n + 5 by omega)
  have k2 := (f_Reader_value B D0).mono (show 1 ≤ n + 5 by omega)
  have k3 := (f_Reader_kind B D0).mono (show 1 ≤ n + 5 by omega)
  have k4 := (f_Reader_fail B D0).mono (show 3 ≤ n + 5 by omega)
  have k5 := (f_Reader_name B D0).mono (show 4 ≤ n + 5 by omega)
  exact d.ok (c_read_factor spAccept (spCo3 n) spNeed spValue spKind spFail spName (spPc 0 n)) sc_read_factor (m_read_factor _ _ _ _ _ _ _ _) (by unfold c_read_factor; simp only [okSs, okS, okX, okXs, okT, okTs, okIt, okIf, PXs.len, biName, biB, tvB, fiveTys, List.mem_cons, and_true, true_and, Nat.zero_add, Nat.reduceAdd, or_true, true_or, and_self, B.len, B.list, B.tuple, B.range, B.abs, B.int, B.isi, B.all, B.str, B.bool, B.sum, D0.a_Reader_size, D0.a_Reader_parts, D0.a_Reader_taken, D0.g_PARTS_MOST, D0.g_LOOKS_MOST, D0.g_LOOKS, D0.g_NAME_MOST, pr_disp, ih, kc, k0, k1, k2, k3, k4, k5]) (h_factor n)
theorem f_read_factor : ∀ n, FnFor G (n + 5) "read_factor" 1 (spPc 0 n)
  | 0 => by
    obtain ⟨f, fd, d⟩ := D0.d_read_factor
    exact d.none fun ds M Q E ⟨_, _, _, _, _, _, _, _, _, _, _, _, _, h, _⟩ => by have := h.pos; omega
  | 1 => f_fac B D0 (f_read_factor 0) (f_co0 B D0 (by omega))
  | 2 => f_fac B D0 (f_read_factor 1) (f_co0 B D0 (by omega))
  | n + 3 => f_fac B D0 (n := n + 2) (f_read_factor (n + 2)) ((f_co3 B D0 (n := n) (f_read_term B D0 (f_read_factor n))).mono (show n + 7 ≤ n + 2 + 5 by omega))
theorem f_inner_of : FnFor G 1 "inner_of" 1 spInn := by
  obtain ⟨f, fd, d⟩ := D0.d_inner_of
  exact d.ok (c_inner_of) sc_inner_of (m_inner_of) (by unfold c_inner_of; simp only [okSs, okS, okX, okXs, okT, okTs, okIt, okIf, PXs.len, biName, biB, tvB, fiveTys, List.mem_cons, and_true, true_and, Nat.zero_add, Nat.reduceAdd, or_true, true_or, and_self, B.len, B.list, B.tuple, B.range, B.abs, B.int, B.isi, B.all, B.str, B.bool, B.sum, D0.a_Reader_size, D0.a_Reader_parts, D0.a_Reader_taken, D0.g_PARTS_MOST, D0.g_LOOKS_MOST, D0.g_LOOKS, D0.g_NAME_MOST, pr_disp]) h_inn
theorem f_parts_of : ∀ n, FnFor G (n + 1) "parts_of" 1 (spPo n)
  | 0 => by
    obtain ⟨f, fd, d⟩ := D0.d_parts_of
    exact d.none fun ds M Q E ⟨_, _, _, h, _⟩ => by have := h.pos.1; omega
  | n + 1 => by
    obtain ⟨f, fd, d⟩ := D0.d_parts_of
    have ih := f_parts_of n
    have k0 := (f_inner_of B D0).mono (show 1 ≤ n + 1 by omega)
    have k1 := frz_ok G 1
    exact d.ok (c_parts_of spInn (spPo n)) sc_parts_of (m_parts_of _ _) (by unfold c_parts_of; simp only [okSs, okS, okX, okXs, okT, okTs, okIt, okIf, PXs.len, biName, biB, tvB, fiveTys, List.mem_cons, and_true, true_and, Nat.zero_add, Nat.reduceAdd, or_true, true_or, and_self, ih, B.len, B.list, B.tuple, B.range, B.abs, B.int, B.isi, B.all, B.str, B.bool, B.sum, D0.a_Reader_size, D0.a_Reader_parts, D0.a_Reader_taken, D0.g_PARTS_MOST, D0.g_LOOKS_MOST, D0.g_LOOKS, D0.g_NAME_MOST, pr_disp, k0, k1]) (h_po n)
theorem f_parse_condition : FnFor G 113 "parse_condition" 1 (spParseC nC) := by
  obtain ⟨f, fd, d⟩ := D0.d_parse_condition
  have k0 := pr_make (n := 2) ((f_Reader___init__ B D0).mono (show 5 ≤ 112 by omega))
  have k1 := (f_Reader_spot B D0).mono (show 1 ≤ 112 by omega)
  have k2 := (f_read_condition B D0 (f_read_term B D0 (f_read_factor B D0 nC))).mono (show nC + 7 ≤ 112 by decide)
  have k3 := (f_Reader_kind B D0).mono (show 1 ≤ 112 by omega)
  have k4 := (f_Reader_fail B D0).mono (show 3 ≤ 112 by omega)
  have k5 := (f_parts_of B D0 (nC + 2)).mono (show nC + 2 + 1 ≤ 112 by decide)
  have k6 := ps_raiseO (n := 2) D0.ex (show 2 ≤ 112 by omega)
  exact d.ok (c_parse_condition spRInit spSpot (spPc 2 nC) spKind spFail (spPo (nC + 2))) sc_parse_condition (m_parse_condition _ _ _ _ _ _) (by unfold c_parse_condition; simp only [okSs, okS, okX, okXs, okT, okTs, okIt, okIf, PXs.len, biName, biB, tvB, fiveTys, List.mem_cons, and_true, true_and, Nat.zero_add, Nat.reduceAdd, or_true, true_or, and_self, B.len, B.list, B.tuple, B.range, B.abs, B.int, B.isi, B.all, B.str, B.bool, B.sum, D0.a_Reader_size, D0.a_Reader_parts, D0.a_Reader_taken, D0.g_PARTS_MOST, D0.g_LOOKS_MOST, D0.g_LOOKS, D0.g_NAME_MOST, pr_disp, k0, k1, k2, k3, k4, k5, k6]) (h_parse nC)
theorem f_law_tree : ∀ n, FnFor G (n + 1) "_law_tree" 2 (spTree n)
  | 0 => by
    obtain ⟨f, fd, d⟩ := D0.d_law_tree
    exact d.none fun ds M Q E ⟨_, k, _, h, _⟩ => by omega
  | n + 1 => by
    obtain ⟨f, fd, d⟩ := D0.d_law_tree
    have ih := f_law_tree n
    have k0 := (f_law_next B D0).mono (show 1 ≤ n + 1 by omega)
    exact d.ok (c_law_tree spNext (spTree n)) sc_law_tree (m_law_tree _ _) (by unfold c_law_tree; simp only [okSs, okS, okX, okXs, okT, okTs, okIt, okIf, PXs.len, biName, biB, tvB, fiveTys, List.mem_cons, and_true, true_and, Nat.zero_add, Nat.reduceAdd, or_true, true_or, and_self, ih, B.len, B.list, B.tuple, B.range, B.abs, B.int, B.isi, B.all, B.str, B.bool, B.sum, D0.a_Reader_size, D0.a_Reader_parts, D0.a_Reader_taken, D0.g_PARTS_MOST, D0.g_LOOKS_MOST, D0.g_LOOKS, D0.g_NAME_MOST, pr_disp, k0]) (h_tree n)
theorem f_law_parts : ∀ n, FnFor G (n) "_law_parts" 1 (spC partsC n)
  | 0 => by
    obtain ⟨f, fd, d⟩ := D0.d_law_parts
    exact d.none fun ds M Q E ⟨c, _, h, _⟩ => by have := htC_pos c; omega
  | n + 1 => by
    obtain ⟨f, fd, d⟩ := D0.d_law_parts
    have ih := f_law_parts n
    exact d.ok (c_law_parts (spC partsC n)) sc_law_parts (m_law_parts _) (by unfold c_law_parts; simp only [okSs, okS, okX, okXs, okT, okTs, okIt, okIf, PXs.len, biName, biB, tvB, fiveTys, List.mem_cons, and_true, true_and, Nat.zero_add, Nat.reduceAdd, or_true, true_or, and_self, ih, B.len, B.list, B.tuple, B.range, B.abs, B.int, B.isi, B.all, B.str, B.bool, B.sum, D0.a_Reader_size, D0.a_Reader_parts, D0.a_Reader_taken, D0.g_PARTS_MOST, D0.g_LOOKS_MOST, D0.g_LOOKS, D0.g_NAME_MOST, pr_disp]) (h_parts n)
theorem f_law_looks : ∀ n, FnFor G (n) "_law_looks" 1 (spC looksC n)
  | 0 => by
    obtain ⟨f, fd, d⟩ := D0.d_law_looks
    exact d.none fun ds M Q E ⟨c, _, h, _⟩ => by have := htC_pos c; omega
  | n + 1 => by
    obtain ⟨f, fd, d⟩ := D0.d_law_looks
    have ih := f_law_looks n
    exact d.ok (c_law_looks (spC looksC n)) sc_law_looks (m_law_looks _) (by unfold c_law_looks; simp only [okSs, okS, okX, okXs, okT, okTs, okIt, okIf, PXs.len, biName, biB, tvB, fiveTys, List.mem_cons, and_true, true_and, Nat.zero_add, Nat.reduceAdd, or_true, true_or, and_self, ih, B.len, B.list, B.tuple, B.range, B.abs, B.int, B.isi, B.all, B.str, B.bool, B.sum, D0.a_Reader_size, D0.a_Reader_parts, D0.a_Reader_taken, D0.g_PARTS_MOST, D0.g_LOOKS_MOST, D0.g_LOOKS, D0.g_NAME_MOST, pr_disp]) (h_looks n)
theorem f_law_text : FnFor G 2 "_law_text" 2 (spText sgK) := by
  obtain ⟨f, fd, d⟩ := D0.d_law_text
  have k0 := f_law_next B D0
  exact d.ok (c_law_text spNext) sc_law_text (m_law_text _) (by unfold c_law_text; simp only [okSs, okS, okX, okXs, okT, okTs, okIt, okIf, PXs.len, biName, biB, tvB, fiveTys, List.mem_cons, and_true, true_and, Nat.zero_add, Nat.reduceAdd, or_true, true_or, and_self, B.len, B.list, B.tuple, B.range, B.abs, B.int, B.isi, B.all, B.str, B.bool, B.sum, D0.a_Reader_size, D0.a_Reader_parts, D0.a_Reader_taken, D0.g_PARTS_MOST, D0.g_LOOKS_MOST, D0.g_LOOKS, D0.g_NAME_MOST, pr_disp, k0]) (h_text sgK)
theorem f_law_change : FnFor G 2 "_law_change" 3 spCh := by
  obtain ⟨f, fd, d⟩ := D0.d_law_change
  have k0 := f_law_next B D0
  exact d.ok (c_law_change spNext) sc_law_change (m_law_change _) (by unfold c_law_change; simp only [okSs, okS, okX, okXs, okT, okTs, okIt, okIf, PXs.len, biName, biB, tvB, fiveTys, List.mem_cons, and_true, true_and, Nat.zero_add, Nat.reduceAdd, or_true, true_or, and_self, B.len, B.list, B.tuple, B.range, B.abs, B.int, B.isi, B.all, B.str, B.bool, B.sum, D0.a_Reader_size, D0.a_Reader_parts, D0.a_Reader_taken, D0.g_PARTS_MOST, D0.g_LOOKS_MOST, D0.g_LOOKS, D0.g_NAME_MOST, pr_disp, k0]) h_ch
theorem f_law_bracket : FnFor G 2 "_law_bracket" 3 spBr := by
  obtain ⟨f, fd, d⟩ := D0.d_law_bracket
  have k0 := f_law_next B D0
  exact d.ok (c_law_bracket spNext) sc_law_bracket (m_law_bracket _) (by unfold c_law_bracket; simp only [okSs, okS, okX, okXs, okT, okTs, okIt, okIf, PXs.len, biName, biB, tvB, fiveTys, List.mem_cons, and_true, true_and, Nat.zero_add, Nat.reduceAdd, or_true, true_or, and_self, B.len, B.list, B.tuple, B.range, B.abs, B.int, B.isi, B.all, B.str, B.bool, B.sum, D0.a_Reader_size, D0.a_Reader_parts, D0.a_Reader_taken, D0.g_PARTS_MOST, D0.g_LOOKS_MOST, D0.g_LOOKS, D0.g_NAME_MOST, pr_disp, k0]) h_br
theorem f_law_condition_tokens : ∀ n, FnFor G (n + 2) "_law_condition_tokens" 3 (spTok n)
  | 0 => by
    obtain ⟨f, fd, d⟩ := D0.d_law_condition_tokens
    exact d.none fun ds M Q E ⟨_, c, _, _, _, h, _⟩ => by have := htC_pos c; omega
  | n + 1 => by
    obtain ⟨f, fd, d⟩ := D0.d_law_condition_tokens
    have ih := f_law_condition_tokens n
    have k0 := (f_law_bracket B D0).mono (show 2 ≤ n + 2 by omega)
    exact d.ok (c_law_condition_tokens spBr (spTok n)) sc_law_condition_tokens (m_law_condition_tokens _ _) (by unfold c_law_condition_tokens; simp only [okSs, okS, okX, okXs, okT, okTs, okIt, okIf, PXs.len, biName, biB, tvB, fiveTys, List.mem_cons, and_true, true_and, Nat.zero_add, Nat.reduceAdd, or_true, true_or, and_self, ih, B.len, B.list, B.tuple, B.range, B.abs, B.int, B.isi, B.all, B.str, B.bool, B.sum, D0.a_Reader_size, D0.a_Reader_parts, D0.a_Reader_taken, D0.g_PARTS_MOST, D0.g_LOOKS_MOST, D0.g_LOOKS, D0.g_NAME_MOST, pr_disp, k0]) (h_tok n)
theorem f_law_step : FnFor G 1 "_law_step" 3 spStep := by
  obtain ⟨f, fd, d⟩ := D0.d_law_step
  exact d.ok (c_law_step) sc_law_step (m_law_step) (by unfold c_law_step; simp only [okSs, okS, okX, okXs, okT, okTs, okIt, okIf, PXs.len, biName, biB, tvB, fiveTys, List.mem_cons, and_true, true_and, Nat.zero_add, Nat.reduceAdd, or_true, true_or, and_self, B.len, B.list, B.tuple, B.range, B.abs, B.int, B.isi, B.all, B.str, B.bool, B.sum, D0.a_Reader_size, D0.a_Reader_parts, D0.a_Reader_taken, D0.g_PARTS_MOST, D0.g_LOOKS_MOST, D0.g_LOOKS, D0.g_NAME_MOST, pr_disp]) h_step
theorem f_law_due : FnFor G 10 "_law_due" 5 spDueC := by
  obtain ⟨f, fd, d⟩ := D0.d_law_due
  have k0 := (f_law_step B D0).mono (show 1 ≤ 9 by omega)
  have k1 := f_law_parts B D0 9
  have k2 := f_law_looks B D0 9
  have k3 := fun t => ps_asgT (G := G) (k := 9) (n := 1) (t := t)
  exact d.ok (c_law_due spStep (spC partsC 9) (spC looksC 9)) sc_law_due (m_law_due _ _ _) (by unfold c_law_due; simp only [okSs, okS, okX, okXs, okT, okTs, okIt, okIf, PXs.len, biName, biB, tvB, fiveTys, List.mem_cons, and_true, true_and, Nat.zero_add, Nat.reduceAdd, or_true, true_or, and_self, B.len, B.list, B.tuple, B.range, B.abs, B.int, B.isi, B.all, B.str, B.bool, B.sum, D0.a_Reader_size, D0.a_Reader_parts, D0.a_Reader_taken, D0.g_PARTS_MOST, D0.g_LOOKS_MOST, D0.g_LOOKS, D0.g_NAME_MOST, pr_disp, k0, k1, k2, k3]) h_due
theorem f_law_told : FnFor G 114 "_law_told" 1 spTold := by
  obtain ⟨f, fd, d⟩ := D0.d_law_told
  obtain ⟨D, Hd⟩ := D0.hd
  have k0 := f_parse_condition B D0
  exact f_told (p := spParseC nC) d Hd (by unfold c_law_told; simp only [okSs, okS, okX, okXs, okT, okTs, okIt, okIf, PXs.len, biName, biB, tvB, fiveTys, List.mem_cons, and_true, true_and, Nat.zero_add, Nat.reduceAdd, or_true, true_or, and_self, B.len, B.list, B.tuple, B.range, B.abs, B.int, B.isi, B.all, B.str, B.bool, B.sum, D0.a_Reader_size, D0.a_Reader_parts, D0.a_Reader_taken, D0.g_PARTS_MOST, D0.g_LOOKS_MOST, D0.g_LOOKS, D0.g_NAME_MOST, pr_disp, k0]) h_told
theorem f_law {f fd} (d : DefAt G "law" s_law ["_law_script"] f fd) : FnOk G.prog G.w G.K G.mg G.base (L2.CX G.prog G.w) 120 f fd ["_law_script"] (spTop G.K) := by
  have k0 := (f_law_draw B D0).mono (show 1 ≤ 119 by omega)
  have k1 := (f_law_tree B D0 5).mono (show 5 + 1 ≤ 119 by omega)
  have k2 := (f_law_next B D0).mono (show 1 ≤ 119 by omega)
  have k3 := (f_law_condition_tokens B D0 9).mono (show 9 + 2 ≤ 119 by omega)
  have k4 := (f_law_change B D0).mono (show 2 ≤ 119 by omega)
  have k5 := (f_law_text B D0).mono (show 2 ≤ 119 by omega)
  have k6 := (f_law_due B D0).mono (show 10 ≤ 119 by omega)
  have k7 := (f_law_told B D0).mono (show 114 ≤ 119 by omega)
  have k8 := (f_law_same B D0 2).mono (show 2 ≤ 119 by omega)
  refine top_ok (def_ok (c_law spDraw (spTree 5) spNext (spTok 9) spCh (spText sgK) spDueC spTold (spSame 2)) d.fn sc_law (m_law _ _ _ _ _ _ _ _ _) (by unfold c_law; simp only [okSs, okS, okX, okXs, okT, okTs, okIt, okIf, PXs.len, biName, biB, tvB, fiveTys, List.mem_cons, and_true, true_and, Nat.zero_add, Nat.reduceAdd, or_true, true_or, and_self, B.len, B.list, B.tuple, B.range, B.abs, B.int, B.isi, B.all, B.str, B.bool, B.sum, D0.a_Reader_size, D0.a_Reader_parts, D0.a_Reader_taken, D0.g_PARTS_MOST, D0.g_LOOKS_MOST, D0.g_LOOKS, D0.g_NAME_MOST, pr_disp, k0, k1, k2, k3, k4, k5, k6, k7, k8]) h_law) fun ns Q h q => ⟨ns, rfl, h, q⟩
end
end K46
end VS

namespace VS
open PySem PySem.Spec PyProof.Rows L2
namespace K46
theorem all_mk {l : PySem.W.OpenLaw} {w : World} {K : PySem.W.Frag} {h : Heap} {mg : Str → Option Value} {fa : Addr} (X : K.In h) (Gn : h.Ns mainGlobals mg) (hfa : mg "law" = some (.ref fa))
    {C0 : Addr} (aC0 : PySem.W.nsIn K mainGlobals "Reader" = some (some (.ref C0)))
    (pg0 : PySem.W.plainGet K C0 Str.empty = true) (hd0 : PySem.W.hasDictIn K C0 = true) (po0 : PySem.W.plainOver K C0 = true) (sa0 : PySem.W.findIn K (.ref C0) "__setattr__" = some (some (.builtin "object.__setattr__"))) (mk0 : PySem.W.makesIn K C0 = true) (kc0 : PySem.W.keepIn K (.ref C0) = true)
    (nA0_size : PySem.W.findIn K (.ref C0) "size" = some none)
    (nA0_parts : PySem.W.findIn K (.ref C0) "parts" = some none)
    (nA0_taken : PySem.W.findIn K (.ref C0) "taken" = some none)
    {tk_PARTS_MOST : Tok} (gc_PARTS_MOST : PySem.W.nsIn K mainGlobals "PARTS_MOST" = some (some (.int 12 tk_PARTS_MOST)))
    {tk_LOOKS_MOST : Tok} (gc_LOOKS_MOST : PySem.W.nsIn K mainGlobals "LOOKS_MOST" = some (some (.int 4 tk_LOOKS_MOST)))
    {A_LOOKS : Addr} {od_LOOKS : Option Addr} {n_LOOKS : Nat} {sl_LOOKS : Array (Option Value)} {t0_LOOKS t1_LOOKS t2_LOOKS t3_LOOKS t4_LOOKS t5_LOOKS : Tok} (gc_LOOKS : PySem.W.nsIn K mainGlobals "LOOKS" = some (some (.ref A_LOOKS)))
    (lc_LOOKS : K.lookup A_LOOKS = some ⟨.type "tuple", od_LOOKS, .seq #[.str (Str.ofString "child") t0_LOOKS, .str (Str.ofString "below") t1_LOOKS, .str (Str.ofString "parent") t2_LOOKS, .str (Str.ofString "above") t3_LOOKS, .str (Str.ofString "earlier") t4_LOOKS, .str (Str.ofString "later") t5_LOOKS] n_LOOKS, sl_LOOKS⟩)
    {tk_NAME_MOST : Tok} (gc_NAME_MOST : PySem.W.nsIn K mainGlobals "NAME_MOST" = some (some (.int 8 tk_NAME_MOST)))
    {f0 : Addr} {od0 an0 : Option Addr} {sl0 : Array (Option Value)} {oc0 kV0 dc0 pm0 cd0 ct0 : Value}
    (a0 : PySem.W.nsIn K mainGlobals "is_letter" = some (some (.ref f0)))
    (l0 : K.lookup f0 = some ⟨oc0, od0, .func (PySem.W.fnOf "is_letter" "is_letter" (defArgs s_is_letter) (defBody s_is_letter) (defScope s_is_letter) .none kV0 dc0 pm0 an0 cd0 ct0), sl0⟩)
    (c0 : PySem.W.codeIn K cd0 "is_letter" = true) (k0 : PySem.W.keepIn K (.ref f0) = true)
    {f1 : Addr} {od1 an1 : Option Addr} {sl1 : Array (Option Value)} {oc1 kV1 dc1 pm1 cd1 ct1 : Value}
    (a1 : PySem.W.nsIn K mainGlobals "word_end" = some (some (.ref f1)))
    (l1 : K.lookup f1 = some ⟨oc1, od1, .func (PySem.W.fnOf "word_end" "word_end" (defArgs s_word_end) (defBody s_word_end) (defScope s_word_end) .none kV1 dc1 pm1 an1 cd1 ct1), sl1⟩)
    (c1 : PySem.W.codeIn K cd1 "word_end" = true) (k1 : PySem.W.keepIn K (.ref f1) = true)
    {f2 : Addr} {od2 an2 : Option Addr} {sl2 : Array (Option Value)} {oc2 kV2 dc2 pm2 cd2 ct2 : Value}
    (a2 : PySem.W.nsIn K mainGlobals "tokens" = some (some (.ref f2)))
    (l2 : K.lookup f2 = some ⟨oc2, od2, .func (PySem.W.fnOf "tokens" "tokens" (defArgs s_tokens) (defBody s_tokens) (defScope s_tokens) .none kV2 dc2 pm2 an2 cd2 ct2), sl2⟩)
    (c2 : PySem.W.codeIn K cd2 "tokens" = true) (k2 : PySem.W.keepIn K (.ref f2) = true)
    {f3 : Addr} {od3 an3 : Option Addr} {sl3 : Array (Option Value)} {oc3 kV3 dc3 pm3 cd3 ct3 : Value}
    (a3 : PySem.W.findIn K (.ref C0) "__init__" = some (some (.ref f3))) (i3 : PySem.W.isFn K (.ref f3) = true)
    (l3 : K.lookup f3 = some ⟨oc3, od3, .func (PySem.W.fnOf "__init__" "Reader.__init__" (defArgs s_Reader___init__) (defBody s_Reader___init__) (defScope s_Reader___init__) .none kV3 dc3 pm3 an3 cd3 ct3), sl3⟩)
    (c3 : PySem.W.codeIn K cd3 "Reader.__init__" = true) (k3 : PySem.W.keepIn K (.ref f3) = true)
    {f4 : Addr} {od4 an4 : Option Addr} {sl4 : Array (Option Value)} {oc4 kV4 dc4 pm4 cd4 ct4 : Value}
    (a4 : PySem.W.findIn K (.ref C0) "kind" = some (some (.ref f4))) (i4 : PySem.W.isFn K (.ref f4) = true)
    (l4 : K.lookup f4 = some ⟨oc4, od4, .func (PySem.W.fnOf "kind" "Reader.kind" (defArgs s_Reader_kind) (defBody s_Reader_kind) (defScope s_Reader_kind) .none kV4 dc4 pm4 an4 cd4 ct4), sl4⟩)
    (c4 : PySem.W.codeIn K cd4 "Reader.kind" = true) (k4 : PySem.W.keepIn K (.ref f4) = true)
    {f5 : Addr} {od5 an5 : Option Addr} {sl5 : Array (Option Value)} {oc5 kV5 dc5 pm5 cd5 ct5 : Value}
    (a5 : PySem.W.findIn K (.ref C0) "value" = some (some (.ref f5))) (i5 : PySem.W.isFn K (.ref f5) = true)
    (l5 : K.lookup f5 = some ⟨oc5, od5, .func (PySem.W.fnOf "value" "Reader.value" (defArgs s_Reader_value) (defBody s_Reader_value) (defScope s_Reader_value) .none kV5 dc5 pm5 an5 cd5 ct5), sl5⟩)
    (c5 : PySem.W.codeIn K cd5 "Reader.value" = true) (k5 : PySem.W.keepIn K (.ref f5) = true)
    {f6 : Addr} {od6 an6 : Option Addr} {sl6 : Array (Option Value)} {oc6 kV6 dc6 pm6 cd6 ct6 : Value}
    (a6 : PySem.W.findIn K (.ref C0) "spot" = some (some (.ref f6))) (i6 : PySem.W.isFn K (.ref f6) = true)
    (l6 : K.lookup f6 = some ⟨oc6, od6, .func (PySem.W.fnOf "spot" "Reader.spot" (defArgs s_Reader_spot) (defBody s_Reader_spot) (defScope s_Reader_spot) .none kV6 dc6 pm6 an6 cd6 ct6), sl6⟩)
    (c6 : PySem.W.codeIn K cd6 "Reader.spot" = true) (k6 : PySem.W.keepIn K (.ref f6) = true)
    {f7 : Addr} {od7 an7 : Option Addr} {sl7 : Array (Option Value)} {oc7 kV7 dc7 pm7 cd7 ct7 : Value}
    (a7 : PySem.W.findIn K (.ref C0) "fail" = some (some (.ref f7))) (i7 : PySem.W.isFn K (.ref f7) = true)
    (l7 : K.lookup f7 = some ⟨oc7, od7, .func (PySem.W.fnOf "fail" "Reader.fail" (defArgs s_Reader_fail) (defBody s_Reader_fail) (defScope s_Reader_fail) .none kV7 dc7 pm7 an7 cd7 ct7), sl7⟩)
    (c7 : PySem.W.codeIn K cd7 "Reader.fail" = true) (k7 : PySem.W.keepIn K (.ref f7) = true)
    {f8 : Addr} {od8 an8 : Option Addr} {sl8 : Array (Option Value)} {oc8 kV8 dc8 pm8 cd8 ct8 : Value}
    (a8 : PySem.W.findIn K (.ref C0) "is_sign" = some (some (.ref f8))) (i8 : PySem.W.isFn K (.ref f8) = true)
    (l8 : K.lookup f8 = some ⟨oc8, od8, .func (PySem.W.fnOf "is_sign" "Reader.is_sign" (defArgs s_Reader_is_sign) (defBody s_Reader_is_sign) (defScope s_Reader_is_sign) .none kV8 dc8 pm8 an8 cd8 ct8), sl8⟩)
    (c8 : PySem.W.codeIn K cd8 "Reader.is_sign" = true) (k8 : PySem.W.keepIn K (.ref f8) = true)
    {f9 : Addr} {od9 an9 : Option Addr} {sl9 : Array (Option Value)} {oc9 kV9 dc9 pm9 cd9 ct9 : Value}
    (a9 : PySem.W.findIn K (.ref C0) "is_word" = some (some (.ref f9))) (i9 : PySem.W.isFn K (.ref f9) = true)
    (l9 : K.lookup f9 = some ⟨oc9, od9, .func (PySem.W.fnOf "is_word" "Reader.is_word" (defArgs s_Reader_is_word) (defBody s_Reader_is_word) (defScope s_Reader_is_word) .none kV9 dc9 pm9 an9 cd9 ct9), sl9⟩)
    (c9 : PySem.W.codeIn K cd9 "Reader.is_word" = true) (k9 : PySem.W.keepIn K (.ref f9) = true)
    {f10 : Addr} {od10 an10 : Option Addr} {sl10 : Array (Option Value)} {oc10 kV10 dc10 pm10 cd10 ct10 : Value}
    (a10 : PySem.W.findIn K (.ref C0) "accept" = some (some (.ref f10))) (i10 : PySem.W.isFn K (.ref f10) = true)
    (l10 : K.lookup f10 = some ⟨oc10, od10, .func (PySem.W.fnOf "accept" "Reader.accept" (defArgs s_Reader_accept) (defBody s_Reader_accept) (defScope s_Reader_accept) .none kV10 dc10 pm10 an10 cd10 ct10), sl10⟩)
    (c10 : PySem.W.codeIn K cd10 "Reader.accept" = true) (k10 : PySem.W.keepIn K (.ref f10) = true)
    {f11 : Addr} {od11 an11 : Option Addr} {sl11 : Array (Option Value)} {oc11 kV11 dc11 pm11 cd11 ct11 : Value}
    (a11 : PySem.W.findIn K (.ref C0) "need" = some (some (.ref f11))) (i11 : PySem.W.isFn K (.ref f11) = true)
    (l11 : K.lookup f11 = some ⟨oc11, od11, .func (PySem.W.fnOf "need" "Reader.need" (defArgs s_Reader_need) (defBody s_Reader_need) (defScope s_Reader_need) .none kV11 dc11 pm11 an11 cd11 ct11), sl11⟩)
    (c11 : PySem.W.codeIn K cd11 "Reader.need" = true) (k11 : PySem.W.keepIn K (.ref f11) = true)
    {f12 : Addr} {od12 an12 : Option Addr} {sl12 : Array (Option Value)} {oc12 kV12 dc12 pm12 cd12 ct12 : Value}
    (a12 : PySem.W.findIn K (.ref C0) "name" = some (some (.ref f12))) (i12 : PySem.W.isFn K (.ref f12) = true)
    (l12 : K.lookup f12 = some ⟨oc12, od12, .func (PySem.W.fnOf "name" "Reader.name" (defArgs s_Reader_name) (defBody s_Reader_name) (defScope s_Reader_name) .none kV12 dc12 pm12 an12 cd12 ct12), sl12⟩)
    (c12 : PySem.W.codeIn K cd12 "Reader.name" = true) (k12 : PySem.W.keepIn K (.ref f12) = true)
    {f13 : Addr} {od13 an13 : Option Addr} {sl13 : Array (Option Value)} {oc13 kV13 dc13 pm13 cd13 ct13 : Value}
    (a13 : PySem.W.nsIn K mainGlobals "joined" = some (some (.ref f13)))
    (l13 : K.lookup f13 = some ⟨oc13, od13, .func (PySem.W.fnOf "joined" "joined" (defArgs s_joined) (defBody s_joined) (defScope s_joined) .none kV13 dc13 pm13 an13 cd13 ct13), sl13⟩)
    (c13 : PySem.W.codeIn K cd13 "joined" = true) (k13 : PySem.W.keepIn K (.ref f13) = true)
    {f14 : Addr} {od14 an14 : Option Addr} {sl14 : Array (Option Value)} {oc14 kV14 dc14 pm14 cd14 ct14 : Value}
    (a14 : PySem.W.nsIn K mainGlobals "read_factor" = some (some (.ref f14)))
    (l14 : K.lookup f14 = some ⟨oc14, od14, .func (PySem.W.fnOf "read_factor" "read_factor" (defArgs s_read_factor) (defBody s_read_factor) (defScope s_read_factor) .none kV14 dc14 pm14 an14 cd14 ct14), sl14⟩)
    (c14 : PySem.W.codeIn K cd14 "read_factor" = true) (k14 : PySem.W.keepIn K (.ref f14) = true)
    {f15 : Addr} {od15 an15 : Option Addr} {sl15 : Array (Option Value)} {oc15 kV15 dc15 pm15 cd15 ct15 : Value}
    (a15 : PySem.W.nsIn K mainGlobals "read_term" = some (some (.ref f15)))
    (l15 : K.lookup f15 = some ⟨oc15, od15, .func (PySem.W.fnOf "read_term" "read_term" (defArgs s_read_term) (defBody s_read_term) (defScope s_read_term) .none kV15 dc15 pm15 an15 cd15 ct15), sl15⟩)
    (c15 : PySem.W.codeIn K cd15 "read_term" = true) (k15 : PySem.W.keepIn K (.ref f15) = true)
    {f16 : Addr} {od16 an16 : Option Addr} {sl16 : Array (Option Value)} {oc16 kV16 dc16 pm16 cd16 ct16 : Value}
    (a16 : PySem.W.nsIn K mainGlobals "read_condition" = some (some (.ref f16)))
    (l16 : K.lookup f16 = some ⟨oc16, od16, .func (PySem.W.fnOf "read_condition" "read_condition" (defArgs s_read_condition) (defBody s_read_condition) (defScope s_read_condition) .none kV16 dc16 pm16 an16 cd16 ct16), sl16⟩)
    (c16 : PySem.W.codeIn K cd16 "read_condition" = true) (k16 : PySem.W.keepIn K (.ref f16) = true)
    {f17 : Addr} {od17 an17 : Option Addr} {sl17 : Array (Option Value)} {oc17 kV17 dc17 pm17 cd17 ct17 : Value}
    (a17 : PySem.W.nsIn K mainGlobals "inner_of" = some (some (.ref f17)))
    (l17 : K.lookup f17 = some ⟨oc17, od17, .func (PySem.W.fnOf "inner_of" "inner_of" (defArgs s_inner_of) (defBody s_inner_of) (defScope s_inner_of) .none kV17 dc17 pm17 an17 cd17 ct17), sl17⟩)
    (c17 : PySem.W.codeIn K cd17 "inner_of" = true) (k17 : PySem.W.keepIn K (.ref f17) = true)
    {f18 : Addr} {od18 an18 : Option Addr} {sl18 : Array (Option Value)} {oc18 kV18 dc18 pm18 cd18 ct18 : Value}
    (a18 : PySem.W.nsIn K mainGlobals "parts_of" = some (some (.ref f18)))
    (l18 : K.lookup f18 = some ⟨oc18, od18, .func (PySem.W.fnOf "parts_of" "parts_of" (defArgs s_parts_of) (defBody s_parts_of) (defScope s_parts_of) .none kV18 dc18 pm18 an18 cd18 ct18), sl18⟩)
    (c18 : PySem.W.codeIn K cd18 "parts_of" = true) (k18 : PySem.W.keepIn K (.ref f18) = true)
    {f19 : Addr} {od19 an19 : Option Addr} {sl19 : Array (Option Value)} {oc19 kV19 dc19 pm19 cd19 ct19 : Value}
    (a19 : PySem.W.nsIn K mainGlobals "parse_condition" = some (some (.ref f19)))
    (l19 : K.lookup f19 = some ⟨oc19, od19, .func (PySem.W.fnOf "parse_condition" "parse_condition" (defArgs s_parse_condition) (defBody s_parse_condition) (defScope s_parse_condition) .none kV19 dc19 pm19 an19 cd19 ct19), sl19⟩)
    (c19 : PySem.W.codeIn K cd19 "parse_condition" = true) (k19 : PySem.W.keepIn K (.ref f19) = true)
    {f20 : Addr} {od20 an20 : Option Addr} {sl20 : Array (Option Value)} {oc20 kV20 dc20 pm20 cd20 ct20 : Value}
    (a20 : PySem.W.nsIn K mainGlobals "_law_draw" = some (some (.ref f20)))
    (l20 : K.lookup f20 = some ⟨oc20, od20, .func (PySem.W.fnOf "_law_draw" "_law_draw" (defArgs s_law_draw) (defBody s_law_draw) (defScope s_law_draw) .none kV20 dc20 pm20 an20 cd20 ct20), sl20⟩)
    (c20 : PySem.W.codeIn K cd20 "_law_draw" = true) (k20 : PySem.W.keepIn K (.ref f20) = true)
    {f21 : Addr} {od21 an21 : Option Addr} {sl21 : Array (Option Value)} {oc21 kV21 dc21 pm21 cd21 ct21 : Value}
    (a21 : PySem.W.nsIn K mainGlobals "_law_next" = some (some (.ref f21)))
    (l21 : K.lookup f21 = some ⟨oc21, od21, .func (PySem.W.fnOf "_law_next" "_law_next" (defArgs s_law_next) (defBody s_law_next) (defScope s_law_next) .none kV21 dc21 pm21 an21 cd21 ct21), sl21⟩)
    (c21 : PySem.W.codeIn K cd21 "_law_next" = true) (k21 : PySem.W.keepIn K (.ref f21) = true)
    {f22 : Addr} {od22 an22 : Option Addr} {sl22 : Array (Option Value)} {oc22 kV22 dc22 pm22 cd22 ct22 : Value}
    (a22 : PySem.W.nsIn K mainGlobals "_law_same" = some (some (.ref f22)))
    (l22 : K.lookup f22 = some ⟨oc22, od22, .func (PySem.W.fnOf "_law_same" "_law_same" (defArgs s_law_same) (defBody s_law_same) (defScope s_law_same) .none kV22 dc22 pm22 an22 cd22 ct22), sl22⟩)
    (c22 : PySem.W.codeIn K cd22 "_law_same" = true) (k22 : PySem.W.keepIn K (.ref f22) = true)
    {f23 : Addr} {od23 an23 : Option Addr} {sl23 : Array (Option Value)} {oc23 kV23 dc23 pm23 cd23 ct23 : Value}
    (a23 : PySem.W.nsIn K mainGlobals "_law_tree" = some (some (.ref f23)))
    (l23 : K.lookup f23 = some ⟨oc23, od23, .func (PySem.W.fnOf "_law_tree" "_law_tree" (defArgs s_law_tree) (defBody s_law_tree) (defScope s_law_tree) .none kV23 dc23 pm23 an23 cd23 ct23), sl23⟩)
    (c23 : PySem.W.codeIn K cd23 "_law_tree" = true) (k23 : PySem.W.keepIn K (.ref f23) = true)
    {f24 : Addr} {od24 an24 : Option Addr} {sl24 : Array (Option Value)} {oc24 kV24 dc24 pm24 cd24 ct24 : Value}
    (a24 : PySem.W.nsIn K mainGlobals "_law_parts" = some (some (.ref f24)))
    (l24 : K.lookup f24 = some ⟨oc24, od24, .func (PySem.W.fnOf "_law_parts" "_law_parts" (defArgs s_law_parts) (defBody s_law_parts) (defScope s_law_parts) .none kV24 dc24 pm24 an24 cd24 ct24), sl24⟩)
    (c24 : PySem.W.codeIn K cd24 "_law_parts" = true) (k24 : PySem.W.keepIn K (.ref f24) = true)
    {f25 : Addr} {od25 an25 : Option Addr} {sl25 : Array (Option Value)} {oc25 kV25 dc25 pm25 cd25 ct25 : Value}
    (a25 : PySem.W.nsIn K mainGlobals "_law_looks" = some (some (.ref f25)))
    (l25 : K.lookup f25 = some ⟨oc25, od25, .func (PySem.W.fnOf "_law_looks" "_law_looks" (defArgs s_law_looks) (defBody s_law_looks) (defScope s_law_looks) .none kV25 dc25 pm25 an25 cd25 ct25), sl25⟩)
    (c25 : PySem.W.codeIn K cd25 "_law_looks" = true) (k25 : PySem.W.keepIn K (.ref f25) = true)
    {f26 : Addr} {od26 an26 : Option Addr} {sl26 : Array (Option Value)} {oc26 kV26 dc26 pm26 cd26 ct26 : Value}
    (a26 : PySem.W.nsIn K mainGlobals "_law_text" = some (some (.ref f26)))
    (l26 : K.lookup f26 = some ⟨oc26, od26, .func (PySem.W.fnOf "_law_text" "_law_text" (defArgs s_law_text) (defBody s_law_text) (defScope s_law_text) .none kV26 dc26 pm26 an26 cd26 ct26), sl26⟩)
    (c26 : PySem.W.codeIn K cd26 "_law_text" = true) (k26 : PySem.W.keepIn K (.ref f26) = true)
    {f27 : Addr} {od27 an27 : Option Addr} {sl27 : Array (Option Value)} {oc27 kV27 dc27 pm27 cd27 ct27 : Value}
    (a27 : PySem.W.nsIn K mainGlobals "_law_change" = some (some (.ref f27)))
    (l27 : K.lookup f27 = some ⟨oc27, od27, .func (PySem.W.fnOf "_law_change" "_law_change" (defArgs s_law_change) (defBody s_law_change) (defScope s_law_change) .none kV27 dc27 pm27 an27 cd27 ct27), sl27⟩)
    (c27 : PySem.W.codeIn K cd27 "_law_change" = true) (k27 : PySem.W.keepIn K (.ref f27) = true)
    {f28 : Addr} {od28 an28 : Option Addr} {sl28 : Array (Option Value)} {oc28 kV28 dc28 pm28 cd28 ct28 : Value}
    (a28 : PySem.W.nsIn K mainGlobals "_law_bracket" = some (some (.ref f28)))
    (l28 : K.lookup f28 = some ⟨oc28, od28, .func (PySem.W.fnOf "_law_bracket" "_law_bracket" (defArgs s_law_bracket) (defBody s_law_bracket) (defScope s_law_bracket) .none kV28 dc28 pm28 an28 cd28 ct28), sl28⟩)
    (c28 : PySem.W.codeIn K cd28 "_law_bracket" = true) (k28 : PySem.W.keepIn K (.ref f28) = true)
    {f29 : Addr} {od29 an29 : Option Addr} {sl29 : Array (Option Value)} {oc29 kV29 dc29 pm29 cd29 ct29 : Value}
    (a29 : PySem.W.nsIn K mainGlobals "_law_condition_tokens" = some (some (.ref f29)))
    (l29 : K.lookup f29 = some ⟨oc29, od29, .func (PySem.W.fnOf "_law_condition_tokens" "_law_condition_tokens" (defArgs s_law_condition_tokens) (defBody s_law_condition_tokens) (defScope s_law_condition_tokens) .none kV29 dc29 pm29 an29 cd29 ct29), sl29⟩)
    (c29 : PySem.W.codeIn K cd29 "_law_condition_tokens" = true) (k29 : PySem.W.keepIn K (.ref f29) = true)
    {f30 : Addr} {od30 an30 : Option Addr} {sl30 : Array (Option Value)} {oc30 kV30 dc30 pm30 cd30 ct30 : Value}
    (a30 : PySem.W.nsIn K mainGlobals "_law_step" = some (some (.ref f30)))
    (l30 : K.lookup f30 = some ⟨oc30, od30, .func (PySem.W.fnOf "_law_step" "_law_step" (defArgs s_law_step) (defBody s_law_step) (defScope s_law_step) .none kV30 dc30 pm30 an30 cd30 ct30), sl30⟩)
    (c30 : PySem.W.codeIn K cd30 "_law_step" = true) (k30 : PySem.W.keepIn K (.ref f30) = true)
    {f31 : Addr} {od31 an31 : Option Addr} {sl31 : Array (Option Value)} {oc31 kV31 dc31 pm31 cd31 ct31 : Value}
    (a31 : PySem.W.nsIn K mainGlobals "_law_due" = some (some (.ref f31)))
    (l31 : K.lookup f31 = some ⟨oc31, od31, .func (PySem.W.fnOf "_law_due" "_law_due" (defArgs s_law_due) (defBody s_law_due) (defScope s_law_due) .none kV31 dc31 pm31 an31 cd31 ct31), sl31⟩)
    (c31 : PySem.W.codeIn K cd31 "_law_due" = true) (k31 : PySem.W.keepIn K (.ref f31) = true)
    {f32 : Addr} {od32 an32 : Option Addr} {sl32 : Array (Option Value)} {oc32 kV32 dc32 pm32 cd32 ct32 : Value}
    (a32 : PySem.W.nsIn K mainGlobals "_law_told" = some (some (.ref f32)))
    (l32 : K.lookup f32 = some ⟨oc32, od32, .func (PySem.W.fnOf "_law_told" "_law_told" (defArgs s_law_told) (defBody s_law_told) (defScope s_law_told) .none kV32 dc32 pm32 an32 cd32 ct32), sl32⟩)
    (c32 : PySem.W.codeIn K cd32 "_law_told" = true) (k32 : PySem.W.keepIn K (.ref f32) = true)
    {f33 : Addr} {od33 an33 : Option Addr} {sl33 : Array (Option Value)} {oc33 kV33 dc33 pm33 cd33 ct33 : Value}
    (a33 : PySem.W.nsIn K mainGlobals "law" = some (some (.ref f33)))
    (l33 : K.lookup f33 = some ⟨oc33, od33, .func (PySem.W.fnOf "law" "law" (defArgs s_law) (defBody s_law) (defScope s_law) .none kV33 dc33 pm33 an33 cd33 ct33), sl33⟩)
    (c33 : PySem.W.codeIn K cd33 "law" = true) (k33 : PySem.W.keepIn K (.ref f33) = true)
    {E0 : Addr} (xe_a : PySem.W.nsIn K mainGlobals "TextError" = some (some (.ref E0)))
    {eN : Addr} {enm eq : Str} {ebs ebm : List Value} {esn : List Str} {esub : List Value} {eab : Bool} {ecol : Option Bool} {edd : Option Addr} {ek0 ek1 ek2 ek3 ek5 : Option Value} (xe_l : K.lookup E0 = some (excClassObj enm eq E0 eN ebs ebm true esn esub eab ecol edd ek0 ek1 ek2 ek3 ek5 "ValueError.__new__")) (xd_v : PySem.HandSPX.refsVE ebm = true)
    (xe_s : PySem.W.findIn K (.ref E0) "__setattr__" = some (some (.builtin "object.__setattr__"))) (xe_x : PySem.W.subIn K (.ref E0) (.type "BaseException") = some true) (xe_t : PySem.W.typeIn K (.ref E0) = some (.type "type")) (xe_k : PySem.W.keepIn K (.ref E0) = true)
    {fI : Addr} (xe_i : PySem.W.findIn K (.ref E0) "__init__" = some (some (.ref fI))) (xe_ti : PySem.W.typeIn K (.ref fI) = some (.type "function"))
    {ioc : Value} {iod : Option Addr} {ikV idoc ipm : Value} {ian : Option Addr} {icda : Addr} {ict : Value} {iosl : Array (Option Value)} {icc : Addr} (xe_li : K.lookup fI = some ⟨ioc, iod, .func (PySem.W.ksFn "__init__" "TextError.__init__" (defArgs s_ti) (defBody s_ti) (defScope s_ti) .none ikV idoc ipm ian (.ref icda) ict icc), iosl⟩) (xe_ci : PySem.W.codeIn K (.ref icda) "TextError.__init__" = true)
    {iccl : Value} {icdd : Option Addr} {ivs : Array Value} {iccs : Array (Option Value)} {ifile : Str} {itf : Tok} (xe_di : K.lookup icda = some ⟨iccl, icdd, .fields ivs, iccs⟩) (xd_vi : ivs[2]? = some (.str ifile itf)) (xd_fi : ((l.prog.main.file : Str) == ifile) = true)
    {icl : Value} {icld : Option Addr} {icsl : Array (Option Value)} (xe_ce : K.lookup icc = some ⟨icl, icld, .cell (some (.ref E0)), icsl⟩)
    (xe_m : PySem.W.mroIn K E0 (.ref E0) = some true) (xu_u : PySem.W.ks_superIn K E0 E0 "__init__" = some (some (.builtin "ValueError.__init__"))) (xe_w : PySem.W.subIn K (.ref E0) (.type "ValueError") = some true) (xe_n : PySem.W.nsIn K cStatics "thirdparty.any" = some none)
    (xd_h : (l.prog.main.scope.names.lookup ("super" : Str)).isSome = false) (xe_p : PySem.W.findIn K (.ref E0) "place" = some none) (xe_g : PySem.W.findIn K (.ref E0) "message" = some none) (xe_e : PySem.W.subIn K (.ref E0) (.ref E0) = some true) (xe_ga : PySem.W.findIn K (.ref E0) "__getattribute__" = some (some (.builtin "BaseException.__getattribute__"))) (xe_gg : PySem.W.findIn K (.ref E0) "__getattr__" = some none) (xe_hd : PySem.W.hasDictIn K E0 = true) (xe_su : PySem.W.nsIn K mainGlobals "super" = some none)
    (z_len : PySem.W.nsIn K mainGlobals "len" = some none)
    (z_list : PySem.W.nsIn K mainGlobals "list" = some none)
    (z_tuple : PySem.W.nsIn K mainGlobals "tuple" = some none)
    (z_range : PySem.W.nsIn K mainGlobals "range" = some none)
    (z_abs : PySem.W.nsIn K mainGlobals "abs" = some none)
    (z_int : PySem.W.nsIn K mainGlobals "int" = some none)
    (z_isi : PySem.W.nsIn K mainGlobals "isinstance" = some none)
    (z_all : PySem.W.nsIn K mainGlobals "all" = some none)
    (z_str : PySem.W.nsIn K mainGlobals "str" = some none)
    (z_bool : PySem.W.nsIn K mainGlobals "bool" = some none)
    (z_sum : PySem.W.nsIn K mainGlobals "sum" = some none)
    : ∃ fd : FuncData, (∀ (s : Shared) (v : Value), BindsTo s fd ⟨[v], []⟩ [("_law_script", v)]) ∧ ∀ base : Heap, K.In base → base.Ns mainGlobals mg → FnOk l.prog w K mg base (L2.CX l.prog w) 120 fa fd ["_law_script"] (spTop K) := by
  have e := hfa.symm.trans (PySem.W.mg_of X Gn a33)
  cases e
  have F0 := fun_mk (st := s_is_letter) l0 c0 k0
  have b0 := F0.binds (ps := ["char"]) fun _ _ _ _ _ _ us hl => match us, hl with | [_], _ => rfl
  have F1 := fun_mk (st := s_word_end) l1 c1 k1
  have b1 := F1.binds (ps := ["text", "start"]) fun _ _ _ _ _ _ us hl => match us, hl with | [_, _], _ => rfl
  have F2 := fun_mk (st := s_tokens) l2 c2 k2
  have b2 := F2.binds (ps := ["text", "signs"]) fun _ _ _ _ _ _ us hl => match us, hl with | [_, _], _ => rfl
  have F3 := fun_mk (st := s_Reader___init__) l3 c3 k3
  have b3 := F3.binds (ps := ["self", "text", "signs"]) fun _ _ _ _ _ _ us hl => match us, hl with | [_, _, _], _ => rfl
  have F4 := fun_mk (st := s_Reader_kind) l4 c4 k4
  have b4 := F4.binds (ps := ["self"]) fun _ _ _ _ _ _ us hl => match us, hl with | [_], _ => rfl
  have F5 := fun_mk (st := s_Reader_value) l5 c5 k5
  have b5 := F5.binds (ps := ["self"]) fun _ _ _ _ _ _ us hl => match us, hl with | [_], _ => rfl
  have F6 := fun_mk (st := s_Reader_spot) l6 c6 k6
  have b6 := F6.binds (ps := ["self"]) fun _ _ _ _ _ _ us hl => match us, hl with | [_], _ => rfl
  have F7 := fun_mk (st := s_Reader_fail) l7 c7 k7
  have b7 := F7.binds (ps := ["self"]) fun _ _ _ _ _ _ us hl => match us, hl with | [_], _ => rfl
  have F8 := fun_mk (st := s_Reader_is_sign) l8 c8 k8
  have b8 := F8.binds (ps := ["self", "sign"]) fun _ _ _ _ _ _ us hl => match us, hl with | [_, _], _ => rfl
  have F9 := fun_mk (st := s_Reader_is_word) l9 c9 k9
  have b9 := F9.binds (ps := ["self", "word"]) fun _ _ _ _ _ _ us hl => match us, hl with | [_, _], _ => rfl
  have F10 := fun_mk (st := s_Reader_accept) l10 c10 k10
  have b10 := F10.binds (ps := ["self", "sign"]) fun _ _ _ _ _ _ us hl => match us, hl with | [_, _], _ => rfl
  have F11 := fun_mk (st := s_Reader_need) l11 c11 k11
  have b11 := F11.binds (ps := ["self", "sign"]) fun _ _ _ _ _ _ us hl => match us, hl with | [_, _], _ => rfl
  have F12 := fun_mk (st := s_Reader_name) l12 c12 k12
  have b12 := F12.binds (ps := ["self"]) fun _ _ _ _ _ _ us hl => match us, hl with | [_], _ => rfl
  have F13 := fun_mk (st := s_joined) l13 c13 k13
  have b13 := F13.binds (ps := ["kind", "parts"]) fun _ _ _ _ _ _ us hl => match us, hl with | [_, _], _ => rfl
  have F14 := fun_mk (st := s_read_factor) l14 c14 k14
  have b14 := F14.binds (ps := ["reader"]) fun _ _ _ _ _ _ us hl => match us, hl with | [_], _ => rfl
  have F15 := fun_mk (st := s_read_term) l15 c15 k15
  have b15 := F15.binds (ps := ["reader"]) fun _ _ _ _ _ _ us hl => match us, hl with | [_], _ => rfl
  have F16 := fun_mk (st := s_read_condition) l16 c16 k16
  have b16 := F16.binds (ps := ["reader"]) fun _ _ _ _ _ _ us hl => match us, hl with | [_], _ => rfl
  have F17 := fun_mk (st := s_inner_of) l17 c17 k17
  have b17 := F17.binds (ps := ["condition"]) fun _ _ _ _ _ _ us hl => match us, hl with | [_], _ => rfl
  have F18 := fun_mk (st := s_parts_of) l18 c18 k18
  have b18 := F18.binds (ps := ["condition"]) fun _ _ _ _ _ _ us hl => match us, hl with | [_], _ => rfl
  have F19 := fun_mk (st := s_parse_condition) l19 c19 k19
  have b19 := F19.binds (ps := ["text"]) fun _ _ _ _ _ _ us hl => match us, hl with | [_], _ => rfl
  have F20 := fun_mk (st := s_law_draw) l20 c20 k20
  have b20 := F20.binds (ps := ["_law_script"]) fun _ _ _ _ _ _ us hl => match us, hl with | [_], _ => rfl
  have F21 := fun_mk (st := s_law_next) l21 c21 k21
  have b21 := F21.binds (ps := ["_law_draw_here", "_law_many"]) fun _ _ _ _ _ _ us hl => match us, hl with | [_, _], _ => rfl
  have F22 := fun_mk (st := s_law_same) l22 c22 k22
  have b22 := F22.binds (ps := ["_law_actual", "_law_due_here"]) fun _ _ _ _ _ _ us hl => match us, hl with | [_, _], _ => rfl
  have F23 := fun_mk (st := s_law_tree) l23 c23 k23
  have b23 := F23.binds (ps := ["_law_draw_here", "_law_depth"]) fun _ _ _ _ _ _ us hl => match us, hl with | [_, _], _ => rfl
  have F24 := fun_mk (st := s_law_parts) l24 c24 k24
  have b24 := F24.binds (ps := ["_law_tree_here"]) fun _ _ _ _ _ _ us hl => match us, hl with | [_], _ => rfl
  have F25 := fun_mk (st := s_law_looks) l25 c25 k25
  have b25 := F25.binds (ps := ["_law_tree_here"]) fun _ _ _ _ _ _ us hl => match us, hl with | [_], _ => rfl
  have F26 := fun_mk (st := s_law_text) l26 c26 k26
  have b26 := F26.binds (ps := ["_law_draw_here", "_law_tokens"]) fun _ _ _ _ _ _ us hl => match us, hl with | [_, _], _ => rfl
  have F27 := fun_mk (st := s_law_change) l27 c27 k27
  have b27 := F27.binds (ps := ["_law_draw_here", "_law_tokens", "_law_signs"]) fun _ _ _ _ _ _ us hl => match us, hl with | [_, _, _], _ => rfl
  have F28 := fun_mk (st := s_law_bracket) l28 c28 k28
  have b28 := F28.binds (ps := ["_law_draw_here", "_law_tokens", "_law_needed"]) fun _ _ _ _ _ _ us hl => match us, hl with | [_, _, _], _ => rfl
  have F29 := fun_mk (st := s_law_condition_tokens) l29 c29 k29
  have b29 := F29.binds (ps := ["_law_draw_here", "_law_tree_here", "_law_within"]) fun _ _ _ _ _ _ us hl => match us, hl with | [_, _, _], _ => rfl
  have F30 := fun_mk (st := s_law_step) l30 c30 k30
  have b30 := F30.binds (ps := ["_law_token", "_law_state", "_law_level"]) fun _ _ _ _ _ _ us hl => match us, hl with | [_, _, _], _ => rfl
  have F31 := fun_mk (st := s_law_due) l31 c31 k31
  have b31 := F31.binds (ps := ["_law_tree_here", "_law_tokens", "_law_text_here", "_law_places", "_law_changed"]) fun _ _ _ _ _ _ us hl => match us, hl with | [_, _, _, _, _], _ => rfl
  have F32 := fun_mk (st := s_law_told) l32 c32 k32
  have b32 := F32.binds (ps := ["_law_text_here"]) fun _ _ _ _ _ _ us hl => match us, hl with | [_], _ => rfl
  have F33 := fun_mk (st := s_law) l33 c33 k33
  have b33 := F33.binds (ps := ["_law_script"]) fun _ _ _ _ _ _ us hl => match us, hl with | [_], _ => rfl
  refine ⟨PySem.W.fnOf "law" "law" (defArgs s_law) (defBody s_law) (defScope s_law) .none kV33 dc33 pm33 an33 cd33 ct33, fun s v => .of_eq rfl, fun base _ _ => ?_⟩
  have B : Bs ⟨l.prog, w, K, mg, base⟩ := ⟨PySem.W.mg_none_of X Gn z_len, PySem.W.mg_none_of X Gn z_list, PySem.W.mg_none_of X Gn z_tuple, PySem.W.mg_none_of X Gn z_range, PySem.W.mg_none_of X Gn z_abs, PySem.W.mg_none_of X Gn z_int, PySem.W.mg_none_of X Gn z_isi, PySem.W.mg_none_of X Gn z_all, PySem.W.mg_none_of X Gn z_str, PySem.W.mg_none_of X Gn z_bool, PySem.W.mg_none_of X Gn z_sum⟩
  have ZI : IniAt l.prog K E0 fI (PySem.W.ksFn "__init__" "TextError.__init__" (defArgs s_ti) (defBody s_ti) (defScope s_ti) .none ikV idoc ipm ian (.ref icda) ict icc) s_ti "TextError.__init__" := ⟨⟨_, _, _, _, _, _, _, _, _, _, _, _, _, _, _, _, _, _, _, rfl, xe_li, xe_ci, xe_di, xd_vi, xd_fi, xe_ce⟩, ⟨⟨_, _, _, _, _, _, _, _, _, _, _, _, _, _, _, xe_l, xd_v⟩, xe_s, xe_x, xe_t, xe_k⟩, xe_m, xu_u, xe_w, xe_n, xd_h, xe_p, xe_g⟩
  have bI : Binds K (PySem.W.ksFn "__init__" "TextError.__init__" (defArgs s_ti) (defBody s_ti) (defScope s_ti) .none ikV idoc ipm ian (.ref icda) ict icc) ["self", "place", "message"] [] := .all fun us hl => match us, hl with | [_, _, _], _ => rfl
  have D0 : Ds ⟨l.prog, w, K, mg, base⟩ := ⟨⟨_, _, F0, b0, PySem.W.mg_of X Gn a0⟩, ⟨_, _, F1, b1, PySem.W.mg_of X Gn a1⟩, ⟨_, _, F2, b2, PySem.W.mg_of X Gn a2⟩, ⟨_, _, _, PySem.W.mg_of X Gn aC0, ⟨mk0, a3, i3, kc0⟩, F3, b3⟩, ⟨_, _, _, PySem.W.mg_of X Gn aC0, ⟨pg0, hd0, po0, sa0⟩, ⟨a4, i4, k4⟩, F4, b4⟩, ⟨_, _, _, PySem.W.mg_of X Gn aC0, ⟨pg0, hd0, po0, sa0⟩, ⟨a5, i5, k5⟩, F5, b5⟩, ⟨_, _, _, PySem.W.mg_of X Gn aC0, ⟨pg0, hd0, po0, sa0⟩, ⟨a6, i6, k6⟩, F6, b6⟩, ⟨_, _, _, PySem.W.mg_of X Gn aC0, ⟨pg0, hd0, po0, sa0⟩, ⟨a7, i7, k7⟩, F7, b7⟩, ⟨_, _, _, PySem.W.mg_of X Gn aC0, ⟨pg0, hd0, po0, sa0⟩, ⟨a8, i8, k8⟩, F8, b8⟩, ⟨_, _, _, PySem.W.mg_of X Gn aC0, ⟨pg0, hd0, po0, sa0⟩, ⟨a9, i9, k9⟩, F9, b9⟩, ⟨_, _, _, PySem.W.mg_of X Gn aC0, ⟨pg0, hd0, po0, sa0⟩, ⟨a10, i10, k10⟩, F10, b10⟩, ⟨_, _, _, PySem.W.mg_of X Gn aC0, ⟨pg0, hd0, po0, sa0⟩, ⟨a11, i11, k11⟩, F11, b11⟩, ⟨_, _, _, PySem.W.mg_of X Gn aC0, ⟨pg0, hd0, po0, sa0⟩, ⟨a12, i12, k12⟩, F12, b12⟩, ⟨_, _, F13, b13, PySem.W.mg_of X Gn a13⟩, ⟨_, _, F14, b14, PySem.W.mg_of X Gn a14⟩, ⟨_, _, F15, b15, PySem.W.mg_of X Gn a15⟩, ⟨_, _, F16, b16, PySem.W.mg_of X Gn a16⟩, ⟨_, _, F17, b17, PySem.W.mg_of X Gn a17⟩, ⟨_, _, F18, b18, PySem.W.mg_of X Gn a18⟩, ⟨_, _, F19, b19, PySem.W.mg_of X Gn a19⟩, ⟨_, _, F20, b20, PySem.W.mg_of X Gn a20⟩, ⟨_, _, F21, b21, PySem.W.mg_of X Gn a21⟩, ⟨_, _, F22, b22, PySem.W.mg_of X Gn a22⟩, ⟨_, _, F23, b23, PySem.W.mg_of X Gn a23⟩, ⟨_, _, F24, b24, PySem.W.mg_of X Gn a24⟩, ⟨_, _, F25, b25, PySem.W.mg_of X Gn a25⟩, ⟨_, _, F26, b26, PySem.W.mg_of X Gn a26⟩, ⟨_, _, F27, b27, PySem.W.mg_of X Gn a27⟩, ⟨_, _, F28, b28, PySem.W.mg_of X Gn a28⟩, ⟨_, _, F29, b29, PySem.W.mg_of X Gn a29⟩, ⟨_, _, F30, b30, PySem.W.mg_of X Gn a30⟩, ⟨_, _, F31, b31, PySem.W.mg_of X Gn a31⟩, ⟨_, _, F32, b32, PySem.W.mg_of X Gn a32⟩, ⟨_, _, F33, b33, PySem.W.mg_of X Gn a33⟩, ⟨_, PySem.W.mg_of X Gn aC0, ⟨pg0, hd0, po0, sa0⟩, nA0_size⟩, ⟨_, PySem.W.mg_of X Gn aC0, ⟨pg0, hd0, po0, sa0⟩, nA0_parts⟩, ⟨_, PySem.W.mg_of X Gn aC0, ⟨pg0, hd0, po0, sa0⟩, nA0_taken⟩, glob_int (PySem.W.mg_of X Gn gc_PARTS_MOST), glob_int (PySem.W.mg_of X Gn gc_LOOKS_MOST), glob_tup (ss := ["child", "below", "parent", "above", "earlier", "later"]) (PySem.W.mg_of X Gn gc_LOOKS) lc_LOOKS (Nat.le_of_ble_eq_true rfl) (.cons (.cons (.cons (.cons (.cons (.cons .nil)))))), glob_int (PySem.W.mg_of X Gn gc_NAME_MOST), ex_for ti_text ZI (PySem.W.mg_of X Gn xe_a) xe_i xe_ti (PySem.W.mg_none_of X Gn xe_su) bI, ⟨E0, PySem.W.mg_of X Gn xe_a, exm_self ZI.cls xe_e, ⟨xe_ga, xe_gg, xe_x, xe_hd⟩, xe_g, xe_p⟩⟩
  exact f_law B D0 ⟨F33, b33, PySem.W.mg_of X Gn a33⟩
end K46
end VS
open PySem PySem.W PyProof.Rows in
set_option maxRecDepth 100000 in
set_option maxHeartbeats 0 in
theorem PySem.Challenge.cw_soonsettled_k46_errors_of_conditions_holds : PySem.Challenge.rw_soonsettled_k46_errors_of_conditions.Holds := by
  w_on; o_law; k_head; (case hw => w_witness2)
  k_fill
  refine L2.walk_of (l := PySem.Challenge.rw_soonsettled_k46_errors_of_conditions) (n := 63) (k := 120) (x := "_law_script") (CX := fun w => L2.CX PySem.Challenge.rw_soonsettled_k46_errors_of_conditions.prog w) (sp := fun w => VS.spTop _) rfl (by decide) rfl ⟨rfl, by decide, by decide⟩ (fun w h Y => PySem.W.kIn_of Y) ?F (fun w H a ns hl _ hS => ⟨a, ns, rfl, hS, hl, fun _ => rfl⟩) fun w H s e s' z => VS.cx_none z
  case F =>
    intro w mg fa h KX G hmg
    refine' VS.K46.all_mk KX G hmg ?aC0 ?pg0 ?hd0 ?po0 ?sa0 ?mk0 ?kc0 ?nA0_size ?nA0_parts ?nA0_taken ?gc_PARTS_MOST ?gc_LOOKS_MOST ?gc_LOOKS ?lc_LOOKS ?gc_NAME_MOST ?a0 ?l0 ?c0 ?k0 ?a1 ?l1 ?c1 ?k1 ?a2 ?l2 ?c2 ?k2 ?a3 ?i3 ?l3 ?c3 ?k3 ?a4 ?i4 ?l4 ?c4 ?k4 ?a5 ?i5 ?l5 ?c5 ?k5 ?a6 ?i6 ?l6 ?c6 ?k6 ?a7 ?i7 ?l7 ?c7 ?k7 ?a8 ?i8 ?l8 ?c8 ?k8 ?a9 ?i9 ?l9 ?c9 ?k9 ?a10 ?i10 ?l10 ?c10 ?k10 ?a11 ?i11 ?l11 ?c11 ?k11 ?a12 ?i12 ?l12 ?c12 ?k12 ?a13 ?l13 ?c13 ?k13 ?a14 ?l14 ?c14 ?k14 ?a15 ?l15 ?c15 ?k15 ?a16 ?l16 ?c16 ?k16 ?a17 ?l17 ?c17 ?k17 ?a18 ?l18 ?c18 ?k18 ?a19 ?l19 ?c19 ?k19 ?a20 ?l20 ?c20 ?k20 ?a21 ?l21 ?c21 ?k21 ?a22 ?l22 ?c22 ?k22 ?a23 ?l23 ?c23 ?k23 ?a24 ?l24 ?c24 ?k24 ?a25 ?l25 ?c25 ?k25 ?a26 ?l26 ?c26 ?k26 ?a27 ?l27 ?c27 ?k27 ?a28 ?l28 ?c28 ?k28 ?a29 ?l29 ?c29 ?k29 ?a30 ?l30 ?c30 ?k30 ?a31 ?l31 ?c31 ?k31 ?a32 ?l32 ?c32 ?k32 ?a33 ?l33 ?c33 ?k33 ?xe_a ?xe_l ?xd_v ?xe_s ?xe_x ?xe_t ?xe_k ?xe_i ?xe_ti ?xe_li ?xe_ci ?xe_di ?xd_vi ?xd_fi ?xe_ce ?xe_m ?xu_u ?xe_w ?xe_n ?xd_h ?xe_p ?xe_g ?xe_e ?xe_ga ?xe_gg ?xe_hd ?xe_su ?z_len ?z_list ?z_tuple ?z_range ?z_abs ?z_int ?z_isi ?z_all ?z_str ?z_bool ?z_sum
    (case aC0 => k_is)
    (case pg0 => k_is)
    (case hd0 => k_is)
    (case po0 => k_is)
    (case sa0 => k_is)
    (case mk0 => k_is)
    (case kc0 => k_is)
    (case nA0_size => k_is)
    (case nA0_parts => k_is)
    (case nA0_taken => k_is)
    (case gc_PARTS_MOST => k_is)
    (case gc_LOOKS_MOST => k_is)
    (case gc_LOOKS => k_is)
    (case lc_LOOKS => k_is)
    (case gc_NAME_MOST => k_is)
    (case a0 => k_is)
    (case l0 => k_is)
    (case c0 => k_is)
    (case k0 => k_is)
    (case a1 => k_is)
    (case l1 => k_is)
    (case c1 => k_is)
    (case k1 => k_is)
    (case a2 => k_is)
    (case l2 => k_is)
    (case c2 => k_is)
    (case k2 => k_is)
    (case a3 => k_is)
    (case i3 => k_is)
    (case l3 => k_is)
    (case c3 => k_is)
    (case k3 => k_is)
    (case a4 => k_is)
    (case i4 => k_is)
    (case l4 => k_is)
    (case c4 => k_is)
    (case k4 => k_is)
    (case a5 => k_is)
    (case i5 => k_is)
    (case l5 => k_is)
    (case c5 => k_is)
    (case k5 => k_is)
    (case a6 => k_is)
    (case i6 => k_is)
    (case l6 => k_is)
    (case c6 => k_is)
    (case k6 => k_is)
    (case a7 => k_is)
    (case i7 => k_is)
    (case l7 => k_is)
    (case c7 => k_is)
    (case k7 => k_is)
    (case a8 => k_is)
    (case i8 => k_is)
    (case l8 => k_is)
    (case c8 => k_is)
    (case k8 => k_is)
    (case a9 => k_is)
    (case i9 => k_is)
    (case l9 => k_is)
    (case c9 => k_is)
    (case k9 => k_is)
    (case a10 => k_is)
    (case i10 => k_is)
    (case l10 => k_is)
    (case c10 => k_is)
    (case k10 => k_is)
    (case a11 => k_is)
    (case i11 => k_is)
    (case l11 => k_is)
    (case c11 => k_is)
    (case k11 => k_is)
    (case a12 => k_is)
    (case i12 => k_is)
    (case l12 => k_is)
    (case c12 => k_is)
    (case k12 => k_is)
    (case a13 => k_is)
    (case l13 => k_is)
    (case c13 => k_is)
    (case k13 => k_is)
    (case a14 => k_is)
    (case l14 => k_is)
    (case c14 => k_is)
    (case k14 => k_is)
    (case a15 => k_is)
    (case l15 => k_is)
    (case c15 => k_is)
    (case k15 => k_is)
    (case a16 => k_is)
    (case l16 => k_is)
    (case c16 => k_is)
    (case k16 => k_is)
    (case a17 => k_is)
    (case l17 => k_is)
    (case c17 => k_is)
    (case k17 => k_is)
    (case a18 => k_is)
    (case l18 => k_is)
    (case c18 => k_is)
    (case k18 => k_is)
    (case a19 => k_is)
    (case l19 => k_is)
    (case c19 => k_is)
    (case k19 => k_is)
    (case a20 => k_is)
    (case l20 => k_is)
    (case c20 => k_is)
    (case k20 => k_is)
    (case a21 => k_is)
    (case l21 => k_is)
    (case c21 => k_is)
    (case k21 => k_is)
    (case a22 => k_is)
    (case l22 => k_is)
    (case c22 => k_is)
    (case k22 => k_is)
    (case a23 => k_is)
    (case l23 => k_is)
    (case c23 => k_is)
    (case k23 => k_is)
    (case a24 => k_is)
    (case l24 => k_is)
    (case c24 => k_is)
    (case k24 => k_is)
    (case a25 => k_is)
    (case l25 => k_is)
    (case c25 => k_is)
    (case k25 => k_is)
    (case a26 => k_is)
    (case l26 => k_is)
    (case c26 => k_is)
    (case k26 => k_is)
    (case a27 => k_is)
    (case l27 => k_is)
    (case c27 => k_is)
    (case k27 => k_is)
    (case a28 => k_is)
    (case l28 => k_is)
    (case c28 => k_is)
    (case k28 => k_is)
    (case a29 => k_is)
    (case l29 => k_is)
    (case c29 => k_is)
    (case k29 => k_is)
    (case a30 => k_is)
    (case l30 => k_is)
    (case c30 => k_is)
    (case k30 => k_is)
    (case a31 => k_is)
    (case l31 => k_is)
    (case c31 => k_is)
    (case k31 => k_is)
    (case a32 => k_is)
    (case l32 => k_is)
    (case c32 => k_is)
    (case k32 => k_is)
    (case a33 => k_is)
    (case l33 => k_is)
    (case c33 => k_is)
    (case k33 => k_is)
    (case xe_a => k_is)
    (case xe_l => k_is)
    (case xd_v => first | decide +kernel | exact rfl | kernel_rfl)
    (case xe_s => k_is)
    (case xe_x => k_is)
    (case xe_t => k_is)
    (case xe_k => k_is)
    (case xe_i => k_is)
    (case xe_ti => k_is)
    (case xe_li => k_is)
    (case xe_ci => k_is)
    (case xe_di => k_is)
    (case xd_vi => first | decide +kernel | exact rfl | kernel_rfl)
    (case xd_fi => first | decide +kernel | exact rfl | kernel_rfl)
    (case xe_ce => k_is)
    (case xe_m => k_is)
    (case xu_u => ks_is)
    (case xe_w => k_is)
    (case xe_n => k_is)
    (case xd_h => first | decide +kernel | exact rfl | kernel_rfl)
    (case xe_p => k_is)
    (case xe_g => k_is)
    (case xe_e => k_is)
    (case xe_ga => k_is)
    (case xe_gg => k_is)
    (case xe_hd => k_is)
    (case xe_su => k_is)
    (case z_len => k_is)
    (case z_list => k_is)
    (case z_tuple => k_is)
    (case z_range => k_is)
    (case z_abs => k_is)
    (case z_int => k_is)
    (case z_isi => k_is)
    (case z_all => k_is)
    (case z_str => k_is)
    (case z_bool => k_is)
    (case z_sum => k_is)

