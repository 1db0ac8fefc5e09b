import PyProof.Rows.All
import Wide.All
import OpenK.AllK
import Wide.FinOn
import HandS.ForMost
import HandS.More
import HandS.DictComp
import HandS.FStr
import HandS.Exc
import HandS.WordsExc
import HandS.TupAny
import KE.KDictKeyed
import KE.KDictLaw
import KE.KDictCopyH
import HandS.Deep
import HandS.IsInst
import HandS.Conv
import HandS.Sort
import HandS.TupLen
import HandS.Records
import HandS.ExcCtx
import HandS.ExcInit
import HandS.ExcField
import HandS.ExcIs
import KE.KExcSuper
import KE.KSuper
import HandS.Flow
import HandS.Text
import KE.KExcStr
import KE.KExcIs
import PySem.Challenge.RW_soonsettled_k42_errors_of_events
set_option Elab.async false
set_option linter.all false
set_option maxRecDepth 100000
set_option maxHeartbeats 8000000
namespace VS
open PySem PySem.Spec PyProof.Rows L2
inductive D where
  | non | bl (b : Bool) | int (i : Int) | str (s : String)
  | tup (xs : List D) | lst (xs : List D) | dic (kvs : List (D × D)) | inst (c : String) (fs : List (String × D))
  | rng (lo hi : Int) | ptr (a : Addr) | scr (ns : List Int) | tab (l : List (String × String))
  | kdf (kvs : List (D × D)) | dicF (kvs : List (D × D))
instance : Inhabited D := ⟨.non⟩
inductive MO where
  | lst (xs : List D) | dic (kvs : List (D × D)) | inst (c : String) (fs : List (String × D))
  | kdic (a : Addr) (kvs : List (D × D))
  | ndic (a : Addr)
  | memo (a : Addr) (dom : List NestedKey) (P : NestedKey → D → Prop) (ks : List NestedKey)
abbrev Store := Addr → Option MO
def Store.put (M : Store) (a : Addr) (o : MO) : Store := fun b => if b = a then some o else M b
def Store.del (M : Store) (a : Addr) : Store := fun b => if b = a then none else M b
theorem put_same {M : Store} {a : Addr} {o : MO} : M.put a o a = some o := by unfold Store.put; rw [if_pos rfl]
theorem put_ne {M : Store} {a b : Addr} {o : MO} (h : b ≠ a) : M.put a o b = M b := by unfold Store.put; rw [if_neg h]
theorem put_put {M : Store} {a : Addr} {o u : MO} : (M.put a o).put a u = M.put a u := by
  funext b; unfold Store.put; split <;> rfl
theorem put_self {M : Store} {a : Addr} {o : MO} (h : M a = some o) : M.put a o = M := by
  funext b; unfold Store.put; split
  · rename_i e; rw [e, h]
  · rfl
theorem del_put {M : Store} {a : Addr} {o : MO} (h : M a = none) : (M.put a o).del a = M := by
  funext b; simp only [Store.put, Store.del]
  by_cases e : b = a
  · rw [if_pos e, e, h]
  · rw [if_neg e, if_neg e]
theorem put_comm {M : Store} {a b : Addr} {o u : MO} (h : a ≠ b) : (M.put a o).put b u = (M.put b u).put a o := by
  funext c; simp only [Store.put]
  by_cases h1 : c = a
  · subst h1
    rw [if_neg h, if_pos rfl, if_pos rfl]
  · rw [if_neg h1, if_neg h1]
theorem del_put_ne {M : Store} {a b : Addr} {o : MO} (h : a ≠ b) : (M.put a o).del b = (M.del b).put a o := by
  funext c; simp only [Store.put, Store.del]
  by_cases h1 : c = a
  · subst h1
    rw [if_neg h, if_pos rfl, if_pos rfl]
  · rw [if_neg h1, if_neg h1]
theorem del_same {M : Store} {a : Addr} : M.del a a = none := by unfold Store.del; rw [if_pos rfl]
theorem del_ne {M : Store} {a b : Addr} (h : b ≠ a) : M.del a b = M b := by unfold Store.del; rw [if_neg h]
theorem del_none {M : Store} {a : Addr} (h : M a = none) : M.del a = M := by
  funext b; unfold Store.del; split
  · rename_i e; rw [e, h]
  · rfl
abbrev Env := List (Option D)
abbrev DK := D → Store → Prop
abbrev XP := String → Option (List (String × D)) → Store → Prop
abbrev Spec := List D → Store → DK → XP → Prop
def X0 : XP := fun _ _ _ => False
mutual
def py : D → PyData
  | .non => .none | .bl b => .bool b | .int i => .int i | .str s => .str (Str.ofString s)
  | .tup xs => .tuple (pyL xs) | .lst xs => .list (pyL xs)
  | .dic _ => .dict [] | .inst _ _ => .dict [] | .rng _ _ => .dict [] | .ptr _ => .dict [] | .scr _ => .dict [] | .tab _ => .dict [] | .kdf _ => .dict [] | .dicF _ => .dict []
def pyL : List D → List PyData
  | [] => [] | x :: xs => py x :: pyL xs
end
structure Glob where
  prog : Program
  w : World
  K : PySem.W.Frag
  mg : Str → Option Value
  base : Heap
def Ex (H H' : Hp) : Prop := ∀ a o, H a = some o → H' a = some o
theorem Ex.refl (H : Hp) : Ex H H := fun _ _ h => h
theorem Ex.trans {H H1 H2 : Hp} (a : Ex H H1) (b : Ex H1 H2) : Ex H H2 := fun x o h => b x o (a x o h)
theorem Ex.new {H : Hp} {p : Addr} {o : HO} (h : H p = none) : Ex H (upd H p o) := fun a u e => by
  rw [upd_ne (ne_of_none e h)]; exact e
theorem Ex.mut {H H' : Hp} {p : Addr} {o : HO} (e : Ex H H') (h : H p = none) : Ex H (upd H' p o) := fun a u ha => by
  rw [upd_ne (ne_of_none ha h)]; exact e a u ha
theorem Ex.rd {H H' : Hp} {a : Addr} {u : HO} (e : Ex H H') (h : Rd H a u) : Rd H' a u := by
  rcases h with h | ⟨o, h⟩
  · exact Or.inl (e a _ h)
  · exact Or.inr ⟨o, e a _ h⟩
theorem Ex.l {K : PySem.W.Frag} {H H' : Hp} {a : Addr} {xs : List V} (e : Ex H H') (h : SqL K H a xs) : SqL K H' a xs := by
  rcases h with h | h
  · exact Or.inl (e.rd h)
  · exact Or.inr h
theorem Ex.t {K : PySem.W.Frag} {H H' : Hp} {a : Addr} {xs : List V} (e : Ex H H') (h : SqT K H a xs) : SqT K H' a xs := by
  rcases h with h | h
  · exact Or.inl (e.rd h)
  · exact Or.inr h
theorem Ex.fresh {H H' : Hp} {p : Addr} (e : Ex H H') (h : H' p = none) : H p = none := by
  cases h1 : H p with
  | none => rfl
  | some o => rw [e p o h1] at h; cases h
def keyD : Key → D
  | .inl i => .int i
  | .inr x => .str (String.ofList (x.cps.toList.map Char.ofNat))
def keyOf : D → Option Key
  | .int i => some (.inl i)
  | .str s => some (.inr (Str.ofString s))
  | _ => none
inductive TabE : List (String × String) → List DictEntry → Prop
  | nil : TabE [] []
  | cons {k v : String} {t u : Tok} {h : Int} {l : List (String × String)} {es : List DictEntry} : TabE l es → TabE ((k, v) :: l) (⟨h, .str (Str.ofString k) t, .str (Str.ofString v) u⟩ :: es)
def KTab (K : PySem.W.Frag) (w : World) (a : Addr) (l : List (String × String)) : Prop := ∃ es n, KDict K w a es n ∧ TabE l es.toList
def lookT (s : String) : List (String × String) → Option String
  | [] => none
  | (k, v) :: r => if k = s then some v else lookT s r
abbrev KE3 := NestedKey × Addr × Value
def rawK (P : Program) (w : World) (xs : List KE3) (d : Addr) (h : Heap) : Prop := ∃ o es ep, h.get? d = some o ∧ o.ExactDict ∧ o.data = .dict es ep ∧ es.toList = xs.map (entryOfKey (nestedKind P w)) ∧ (xs.map (·.1)).Nodup
def kdO (P : Program) (w : World) (d : Addr) (xs : List KE3) : HO := .ext (rawK P w xs d)
theorem kd_ok {P : Program} {w : World} {H : Hp} {h : Heap} {d : Addr} {xs : List KE3} (r : rawK P w xs d h) : ObjOk P w H h d (kdO P w d xs) :=
  ⟨r, let ⟨o, _, _, e, _⟩ := r; ⟨o, e⟩, fun _ _ ⟨o, es, ep, e, x⟩ k => ⟨o, es, ep, k o e, x⟩⟩
theorem kd_at {P : Program} {w : World} {H : Hp} {h : Heap} {d : Addr} {xs : List KE3} (x : HOk P w H h) (e : H d = some (kdO P w d xs)) : rawK P w xs d h := (x d _ e).1
mutual
def nkD : D → Option NestedKey
  | .non => some .none
  | .bl b => some (.num (if b = true then 1 else 0))
  | .int i => some (.num i)
  | .str s => some (.text (Str.ofString s))
  | .tup xs => (nkDs xs).map .tup
  | _ => none
def nkDs : List D → Option (List NestedKey)
  | [] => some []
  | x :: xs => match nkD x, nkDs xs with | some k, some ks => some (k :: ks) | _, _ => none
end
def rawN (P : Program) (w : World) (d : Addr) (h : Heap) : Prop := h.DictOf (leafKind P w) d [(Leaf.none, .bool true)]
def ndO (P : Program) (w : World) (d : Addr) : HO := .ext (rawN P w d)
theorem nd_ok {P : Program} {w : World} {H : Hp} {h : Heap} {d : Addr} (r : rawN P w d h) : ObjOk P w H h d (ndO P w d) :=
  ⟨r, let ⟨o, _, _, e, _⟩ := r; ⟨o, e⟩, fun _ _ ⟨o, es, ep, e, x⟩ k => ⟨o, es, ep, k o e, x⟩⟩
mutual
inductive Rp (G : Glob) (F : Hp) : V → D → Prop
  | non : Rp G F .non .non
  | bl (b : Bool) : Rp G F (.bl b) (.bl b)
  | int (i : Int) : Rp G F (.int i) (.int i)
  | str (s : String) : Rp G F (.str (Str.ofString s)) (.str s)
  | tup {a : Addr} {vs : List V} {ds : List D} : SqT G.K F a vs → RpL G F vs ds → Rp G F (.ref a) (.tup ds)
  | lst {a : Addr} {vs : List V} {ds : List D} : F a = some (.lst vs) → RpL G F vs ds → Rp G F (.ref a) (.lst ds)
  | dic {a : Addr} {vs : List (Key × V)} {ds : List (D × D)} : F a = some (.dK vs) → RpD G F vs ds → Rp G F (.ref a) (.dic ds)
  | inst {a C dx : Addr} {c : String} {vs : List (Str × V)} {ds : List (String × D)} : F a = some (.ins C dx vs) → G.mg (Str.ofString c) = some (.ref C) → RpF G F vs ds → Rp G F (.ref a) (.inst c ds)
  | rng {a : Addr} {lo hi : Int} : F a = some (.rng lo hi) → Rp G F (.ref a) (.rng lo hi)
  | ptr (a : Addr) : Rp G F (.ref a) (.ptr a)
  | scr {a : Addr} {ns : List Int} : SqL G.K F a (ns.map V.int) → Rp G F (.ref a) (.scr ns)
  | tab {a : Addr} {l : List (String × String)} : KTab G.K G.w a l → Rp G F (.ref a) (.tab l)
  | kdf {a : Addr} {o : Obj} {xs : List KE3} {ds : List (D × D)} : F a = some (.frz o (kdO G.prog G.w a xs)) → (a == sysModules) = false → RpKD G F xs ds → Rp G F (.ref a) (.kdf ds)
  | kdN {a : Addr} {o : Obj} : F a = some (.frz o (ndO G.prog G.w a)) → (a == sysModules) = false → Rp G F (.ref a) (.kdf [(.non, .bl true)])
  | dicF {a : Addr} {o : Obj} {vs : List (Key × V)} {ds : List (D × D)} : F a = some (.frz o (.dK vs)) → RpD G F vs ds → Rp G F (.ref a) (.dicF ds)
inductive RpL (G : Glob) (F : Hp) : List V → List D → Prop
  | nil : RpL G F [] []
  | cons {v : V} {d : D} {vs : List V} {ds : List D} : Rp G F v d → RpL G F vs ds → RpL G F (v :: vs) (d :: ds)
inductive RpD (G : Glob) (F : Hp) : List (Key × V) → List (D × D) → Prop
  | nil : RpD G F [] []
  | cons {k : Key} {v : V} {kd d : D} {vs : List (Key × V)} {ds : List (D × D)} : keyOf kd = some k → Rp G F v d → RpD G F vs ds → RpD G F ((k, v) :: vs) ((kd, d) :: ds)
inductive RpF (G : Glob) (F : Hp) : List (Str × V) → List (String × D) → Prop
  | nil : RpF G F [] []
  | cons {f : String} {v : V} {d : D} {vs : List (Str × V)} {ds : List (String × D)} : Rp G F v d → RpF G F vs ds → RpF G F ((Str.ofString f, v) :: vs) ((f, d) :: ds)
inductive RpKD (G : Glob) (F : Hp) : List KE3 → List (D × D) → Prop
  | nil : RpKD G F [] []
  | cons {k : NestedKey} {b : Addr} {u : Value} {v : V} {kd d : D} {xs : List KE3} {kvs : List (D × D)} : nkD kd = some k → k.depth ≤ 8 → Rp G F (.ref b) kd → RelV v u → Rp G F v d → RpKD G F xs kvs → RpKD G F ((k, b, u) :: xs) ((kd, d) :: kvs)
end
section
variable {G : Glob} {F F' : Hp}
mutual
theorem Rp.mono (e : Ex F F') : ∀ {v : V} {d : D}, Rp G F v d → Rp G F' v d
  | _, _, .non => .non
  | _, _, .bl b => .bl b
  | _, _, .int i => .int i
  | _, _, .str s => .str s
  | _, _, .tup h r => .tup (e.t h) (RpL.mono e r)
  | _, _, .lst h r => .lst (e _ _ h) (RpL.mono e r)
  | _, _, .dic h r => .dic (e _ _ h) (RpD.mono e r)
  | _, _, .inst h c r => .inst (e _ _ h) c (RpF.mono e r)
  | _, _, .rng h => .rng (e _ _ h)
  | _, _, .ptr a => .ptr a
  | _, _, .scr h => .scr (e.l h)
  | _, _, .tab h => .tab h
  | _, _, .kdf h m r => .kdf (e _ _ h) m (RpKD.mono e r)
  | _, _, .kdN h m => .kdN (e _ _ h) m
  | _, _, .dicF h r => .dicF (e _ _ h) (RpD.mono e r)
theorem RpL.mono (e : Ex F F') : ∀ {v : List V} {d : List D}, RpL G F v d → RpL G F' v d
  | _, _, .nil => .nil
  | _, _, .cons h r => .cons (Rp.mono e h) (RpL.mono e r)
theorem RpD.mono (e : Ex F F') : ∀ {v : List (Key × V)} {d : List (D × D)}, RpD G F v d → RpD G F' v d
  | _, _, .nil => .nil
  | _, _, .cons k h r => .cons k (Rp.mono e h) (RpD.mono e r)
theorem RpF.mono (e : Ex F F') : ∀ {v : List (Str × V)} {d : List (String × D)}, RpF G F v d → RpF G F' v d
  | _, _, .nil => .nil
  | _, _, .cons h r => .cons (Rp.mono e h) (RpF.mono e r)
theorem RpKD.mono (e : Ex F F') : ∀ {xs : List KE3} {kvs : List (D × D)}, RpKD G F xs kvs → RpKD G F' xs kvs
  | _, _, .nil => .nil
  | _, _, .cons a b c d f r => .cons a b (Rp.mono e c) d (Rp.mono e f) (RpKD.mono e r)
end
theorem RpL.length : ∀ {vs : List V} {ds : List D}, RpL G F vs ds → vs.length = ds.length
  | _, _, .nil => rfl
  | _, _, .cons _ r => congrArg (· + 1) (RpL.length r)
theorem RpD.length : ∀ {vs : List (Key × V)} {ds : List (D × D)}, RpD G F vs ds → vs.length = ds.length
  | _, _, .nil => rfl
  | _, _, .cons _ _ r => congrArg (· + 1) (RpD.length r)
theorem RpF.length : ∀ {vs : List (Str × V)} {ds : List (String × D)}, RpF G F vs ds → vs.length = ds.length
  | _, _, .nil => rfl
  | _, _, .cons _ r => congrArg (· + 1) (RpF.length r)
theorem RpL.append : ∀ {vs : List V} {ds : List D} {ws : List V} {es : List D}, RpL G F vs ds → RpL G F ws es → RpL G F (vs ++ ws) (ds ++ es)
  | _, _, _, _, .nil, h => h
  | _, _, _, _, .cons a r, h => .cons a (RpL.append r h)
theorem RpL.get : ∀ {vs : List V} {ds : List D} {i : Nat} {d : D}, RpL G F vs ds → ds[i]? = some d → ∃ v, vs[i]? = some v ∧ Rp G F v d
  | _, _, _, _, .nil, h => by simp at h
  | _, _, 0, _, .cons a r, h => by
    have e := Option.some.inj h
    exact ⟨_, rfl, e ▸ a⟩
  | _, _, i + 1, _, .cons a r, h => RpL.get (i := i) r h
theorem RpL.getV : ∀ {vs : List V} {ds : List D} {i : Nat} {v : V}, RpL G F vs ds → vs[i]? = some v → ∃ d, ds[i]? = some d ∧ Rp G F v d
  | _, _, _, _, .nil, h => by simp at h
  | _, _, 0, _, .cons a r, h => by
    have e := Option.some.inj h
    exact ⟨_, rfl, e ▸ a⟩
  | _, _, i + 1, _, .cons a r, h => RpL.getV (i := i) r h
theorem RpL.set {v : V} {d : D} (h : Rp G F v d) : ∀ {vs : List V} {ds : List D} (i : Nat), RpL G F vs ds → RpL G F (vs.set i v) (ds.set i d)
  | _, _, _, .nil => .nil
  | _, _, 0, .cons _ r => .cons h r
  | _, _, i + 1, .cons a r => .cons a (RpL.set h i r)
theorem RpL.take : ∀ {vs : List V} {ds : List D} (n : Nat), RpL G F vs ds → RpL G F (vs.take n) (ds.take n)
  | _, _, 0, _ => .nil
  | _, _, _ + 1, .nil => .nil
  | _, _, n + 1, .cons a r => .cons a (RpL.take n r)
theorem RpL.drop : ∀ {vs : List V} {ds : List D} (n : Nat), RpL G F vs ds → RpL G F (vs.drop n) (ds.drop n)
  | _, _, 0, r => r
  | _, _, _ + 1, .nil => .nil
  | _, _, n + 1, .cons _ r => RpL.drop n r
theorem RpL.dropLast {vs : List V} {ds : List D} (r : RpL G F vs ds) : RpL G F vs.dropLast ds.dropLast := by
  rw [List.dropLast_eq_take, List.dropLast_eq_take, r.length]
  exact r.take _
theorem RpL.reverse : ∀ {vs : List V} {ds : List D}, RpL G F vs ds → RpL G F vs.reverse ds.reverse
  | _, _, .nil => .nil
  | _, _, .cons a r => by
    rw [List.reverse_cons, List.reverse_cons]
    exact (RpL.reverse r).append (.cons a .nil)
theorem RpL.ints : ∀ ns : List Int, RpL G F (ns.map V.int) (ns.map D.int)
  | [] => .nil
  | n :: ns => .cons (.int n) (RpL.ints ns)
theorem RpL.of_ints : ∀ {vs : List V} {ns : List Int}, RpL G F vs (ns.map D.int) → vs = ns.map V.int
  | _, [], .nil => rfl
  | _, n :: ns, .cons h r => by
    cases h
    rw [RpL.of_ints r]; rfl
theorem RpL.of_strs : ∀ {vs : List V} {ns : List String}, RpL G F vs (ns.map D.str) → vs = ns.map fun s => V.str (Str.ofString s)
  | _, [], .nil => rfl
  | _, n :: ns, .cons h r => by
    cases h
    rw [RpL.of_strs r]; rfl
theorem RpL.of_bls : ∀ {vs : List V} {ns : List Bool}, RpL G F vs (ns.map D.bl) → vs = ns.map V.bl
  | _, [], .nil => rfl
  | _, n :: ns, .cons h r => by
    cases h
    rw [RpL.of_bls r]; rfl
end
def lookK (k : NestedKey) : List (D × D) → Option D
  | [] => none
  | (kd, d) :: r => if nkD kd = some k then some d else lookK k r
def putKD (k : NestedKey) (kd d : D) (kvs : List (D × D)) : List (D × D) :=
  if (lookK k kvs).isSome = true then kvs.map (fun e => if nkD e.1 = some k then (e.1, d) else e) else kvs ++ [(kd, d)]
section
variable {G : Glob} {F F' : Hp}
inductive RpM (G : Glob) (F : Hp) : HO → MO → Prop
  | lst {vs : List V} {ds : List D} : RpL G F vs ds → RpM G F (.lst vs) (.lst ds)
  | dic {vs : List (Key × V)} {ds : List (D × D)} : RpD G F vs ds → RpM G F (.dK vs) (.dic ds)
  | inst {C dx : Addr} {c : String} {vs : List (Str × V)} {ds : List (String × D)} : G.mg (Str.ofString c) = some (.ref C) → RpF G F vs ds → RpM G F (.ins C dx vs) (.inst c ds)
  | kdic {a : Addr} {xs : List KE3} {kvs : List (D × D)} : (a == sysModules) = false → RpKD G F xs kvs → RpM G F (kdO G.prog G.w a xs) (.kdic a kvs)
  | ndic {a : Addr} : (a == sysModules) = false → RpM G F (ndO G.prog G.w a) (.ndic a)
  | memo {a : Addr} {xs : List KE3} {kvs : List (D × D)} {dom : List NestedKey} {P : NestedKey → D → Prop} {ks : List NestedKey} : (a == sysModules) = false → dom.length ≤ 16000000 → (xs.map (·.1)).Nodup → RpKD G F xs kvs → (∀ k d, lookK k kvs = some d → k ∈ dom ∧ P k d) → (∀ k ∈ ks, (lookK k kvs).isSome = true) → RpM G F (kdO G.prog G.w a xs) (.memo a dom P ks)
theorem RpM.mono (e : Ex F F') {o : HO} {m : MO} : RpM G F o m → RpM G F' o m
  | .lst r => .lst (r.mono e)
  | .dic r => .dic (r.mono e)
  | .inst c r => .inst c (r.mono e)
  | .kdic h r => .kdic h (r.mono e)
  | .ndic h => .ndic h
  | .memo h l n r p q => .memo h l n (r.mono e) p q
end
structure Good (G : Glob) (R F H : Hp) (M : Store) : Prop where
  ex : Ex F H
  mt : ∀ a mo, M a = some mo → F a = none ∧ ∃ ho, H a = some ho ∧ RpM G F ho mo
  rs : ∀ a o, R a = some o → F a = none ∧ M a = none ∧ H a = some o
structure EnvR (G : Glob) (F : Hp) (σd : Env) (σ : L2.St) : Prop where
  len : σ.length = σd.length
  at_ : ∀ (i : Nat) (d : D), σd[i]? = some (some d) → ∃ v, σ[i]? = some (some v) ∧ Rp G F v d
section
variable {G : Glob} {R F F' H H' : Hp} {M : Store} {σd : Env} {σ : L2.St}
theorem EnvR.mono (e : Ex F F') (h : EnvR G F σd σ) : EnvR G F' σd σ :=
  ⟨h.len, fun i d q => let ⟨v, a, b⟩ := h.at_ i d q; ⟨v, a, b.mono e⟩⟩
theorem EnvR.set {v : V} {d : D} (h : EnvR G F σd σ) (i : Nat) (r : Rp G F v d) : EnvR G F (σd.set i (some d)) (σ.set i (some v)) := by
  refine ⟨by rw [List.length_set, List.length_set, h.len], fun j e q => ?_⟩
  by_cases hj : i = j
  · subst hj
    have hl : i < σd.length := by
      have := (List.getElem?_eq_some_iff.mp q).1
      rw [List.length_set] at this; exact this
    rw [List.getElem?_set_self hl] at q
    cases q
    exact ⟨v, by rw [List.getElem?_set_self (by rw [h.len]; exact hl)], r⟩
  · rw [List.getElem?_set_ne hj] at q
    obtain ⟨w, a, b⟩ := h.at_ j e q
    exact ⟨w, by rw [List.getElem?_set_ne hj]; exact a, b⟩
def wipeD (σ : Env) : List Nat → Env
  | [] => σ
  | v :: vs => (wipeD σ vs).set v none
theorem EnvR.wipe (h : EnvR G F σd σ) : ∀ vs : List Nat, EnvR G F (wipeD σd vs) (wipe σ vs)
  | [] => h
  | v :: vs => by
    have ih := EnvR.wipe h vs
    refine ⟨by show ((L2.wipe σ vs).set v none).length = ((wipeD σd vs).set v none).length; rw [List.length_set, List.length_set, ih.len], fun j e q => ?_⟩
    have q' : ((wipeD σd vs).set v none)[j]? = some (some e) := q
    show ∃ w, ((L2.wipe σ vs).set v none)[j]? = some (some w) ∧ _
    by_cases hj : v = j
    · subst hj
      have hl : v < (wipeD σd vs).length := by
        have := (List.getElem?_eq_some_iff.mp q').1
        rw [List.length_set] at this; exact this
      rw [List.getElem?_set_self hl] at q'
      cases q'
    · rw [List.getElem?_set_ne hj] at q'
      obtain ⟨w, a, b⟩ := ih.at_ j e q'
      exact ⟨w, by rw [List.getElem?_set_ne hj]; exact a, b⟩
theorem Good.fresh {p : Addr} (g : Good G R F H M) (h : H p = none) : M p = none ∧ F p = none ∧ R p = none := by
  refine ⟨?_, g.ex.fresh h, ?_⟩
  · cases q : M p with
    | none => rfl
    | some mo =>
      obtain ⟨_, ho, e, _⟩ := g.mt p mo q
      rw [h] at e; cases e
  · cases q : R p with
    | none => rfl
    | some o =>
      obtain ⟨_, _, e⟩ := g.rs p o q
      rw [h] at e; cases e
theorem Good.new {p : Addr} {o : HO} (g : Good G R F H M) (h : H p = none) : Good G R (upd F p o) (upd H p o) M ∧ Ex F (upd F p o) := by
  obtain ⟨hm, hf, hr⟩ := g.fresh h
  have e : Ex F (upd F p o) := Ex.new hf
  refine ⟨⟨fun a u q => ?_, fun a mo q => ?_, fun a u q => ?_⟩, e⟩
  · by_cases ha : a = p
    · subst ha; rw [upd_same] at q ⊢; exact q
    · rw [upd_ne ha] at q ⊢; exact g.ex a u q
  · have ha : a ≠ p := fun z => by subst z; rw [hm] at q; cases q
    obtain ⟨q1, ho, q2, q3⟩ := g.mt a mo q
    exact ⟨by rw [upd_ne ha]; exact q1, ho, by rw [upd_ne ha]; exact q2, q3.mono e⟩
  · have ha : a ≠ p := fun z => by subst z; rw [hr] at q; cases q
    rw [upd_ne ha, upd_ne ha]
    exact g.rs a u q
theorem Good.newM {p : Addr} {o : HO} {mo : MO} (g : Good G R F H M) (h : H p = none) (r : RpM G F o mo) : Good G R F (upd H p o) (M.put p mo) := by
  obtain ⟨hm, hf, hr⟩ := g.fresh h
  refine ⟨g.ex.mut hf, fun a m q => ?_, fun a u q => ?_⟩
  · by_cases ha : a = p
    · subst ha
      rw [put_same] at q; cases q
      exact ⟨hf, o, upd_same, r⟩
    · rw [put_ne ha] at q
      obtain ⟨q1, ho, q2, q3⟩ := g.mt a m q
      exact ⟨q1, ho, by rw [upd_ne ha]; exact q2, q3⟩
  · have ha : a ≠ p := fun z => by subst z; rw [hr] at q; cases q
    rw [put_ne ha, upd_ne ha]
    exact g.rs a u q
theorem Good.write {p : Addr} {o : HO} {mo m0 : MO} (g : Good G R F H M) (h : M p = some m0) (r : RpM G F o mo) : Good G R F (upd H p o) (M.put p mo) := by
  obtain ⟨hf, _⟩ := g.mt p m0 h
  refine ⟨g.ex.mut hf, fun a m q => ?_, fun a u q => ?_⟩
  · by_cases ha : a = p
    · subst ha
      rw [put_same] at q; cases q
      exact ⟨hf, o, upd_same, r⟩
    · rw [put_ne ha] at q
      obtain ⟨q1, ho, q2, q3⟩ := g.mt a m q
      exact ⟨q1, ho, by rw [upd_ne ha]; exact q2, q3⟩
  · have ha : a ≠ p := fun z => by subst z; obtain ⟨_, q2, _⟩ := g.rs a u q; rw [h] at q2; cases q2
    rw [put_ne ha, upd_ne ha]
    exact g.rs a u q
theorem Good.frz {p : Addr} {mo : MO} (g : Good G R F H M) (h : M p = some mo) : ∃ ho, H p = some ho ∧ RpM G F ho mo ∧ Good G R (upd F p ho) H (M.del p) ∧ Ex F (upd F p ho) := by
  obtain ⟨hf, ho, hh, r⟩ := g.mt p mo h
  have e : Ex F (upd F p ho) := Ex.new hf
  refine ⟨ho, hh, r, ⟨fun a u q => ?_, fun a m q => ?_, fun a u q => ?_⟩, e⟩
  · by_cases ha : a = p
    · subst ha; rw [upd_same] at q; cases q; exact hh
    · rw [upd_ne ha] at q; exact g.ex a u q
  · have ha : a ≠ p := fun z => by subst z; rw [del_same] at q; cases q
    rw [del_ne ha] at q
    obtain ⟨q1, o2, q2, q3⟩ := g.mt a m q
    exact ⟨by rw [upd_ne ha]; exact q1, o2, q2, q3.mono e⟩
  · have ha : a ≠ p := fun z => by subst z; obtain ⟨_, q2, _⟩ := g.rs a u q; rw [h] at q2; cases q2
    rw [del_ne ha, upd_ne ha]
    exact g.rs a u q
theorem Good.aside {p : Addr} {o : HO} (g : Good G R F H M) (h : H p = none) : Good G (upd R p o) F (upd H p o) M := by
  obtain ⟨hm, hf, hr⟩ := g.fresh h
  refine ⟨g.ex.mut hf, fun a m q => ?_, fun a u q => ?_⟩
  · have ha : a ≠ p := fun z => by subst z; rw [hm] at q; cases q
    obtain ⟨q1, ho, q2, q3⟩ := g.mt a m q
    exact ⟨q1, ho, by rw [upd_ne ha]; exact q2, q3⟩
  · by_cases ha : a = p
    · subst ha
      rw [upd_same] at q ⊢
      exact ⟨hf, hm, q⟩
    · rw [upd_ne ha] at q ⊢
      exact g.rs a u q
theorem Good.aside2 {p : Addr} {o u : HO} (g : Good G (upd R p o) F H M) : Good G (upd R p u) F (upd H p u) M := by
  obtain ⟨hf, hm, hh⟩ := g.rs p o upd_same
  refine ⟨g.ex.mut hf, fun a m q => ?_, fun a w q => ?_⟩
  · have ha : a ≠ p := fun z => by subst z; rw [hm] at q; cases q
    obtain ⟨q1, ho, q2, q3⟩ := g.mt a m q
    exact ⟨q1, ho, by rw [upd_ne ha]; exact q2, q3⟩
  · by_cases ha : a = p
    · subst ha
      rw [upd_same] at q ⊢
      exact ⟨hf, hm, q⟩
    · rw [upd_ne ha] at q ⊢
      have q' : (upd R p o) a = some w := by rw [upd_ne ha]; exact q
      exact g.rs a w q'
theorem Good.back {p : Addr} {o : HO} (g : Good G (upd R p o) F H M) (hr : R p = none) : Good G R (upd F p o) H M ∧ Ex F (upd F p o) := by
  obtain ⟨hf, hm, hh⟩ := g.rs p o upd_same
  have e : Ex F (upd F p o) := Ex.new hf
  refine ⟨⟨fun a u q => ?_, fun a m q => ?_, fun a u q => ?_⟩, e⟩
  · by_cases ha : a = p
    · subst ha; rw [upd_same] at q; cases q; exact hh
    · rw [upd_ne ha] at q; exact g.ex a u q
  · have ha : a ≠ p := fun z => by subst z; rw [hm] at q; cases q
    obtain ⟨q1, ho, q2, q3⟩ := g.mt a m q
    exact ⟨by rw [upd_ne ha]; exact q1, ho, q2, q3.mono e⟩
  · have ha : a ≠ p := fun z => by subst z; rw [hr] at q; cases q
    rw [upd_ne ha]
    have q' : (upd R p o) a = some u := by rw [upd_ne ha]; exact q
    exact g.rs a u q'
theorem Good.backM {p : Addr} {o : HO} {mo : MO} (g : Good G (upd R p o) F H M) (hr : R p = none) (r : RpM G F o mo) : Good G R F H (M.put p mo) ∧ M p = none := by
  obtain ⟨hf, hm, hh⟩ := g.rs p o upd_same
  refine ⟨⟨g.ex, fun a m q => ?_, fun a u q => ?_⟩, hm⟩
  · by_cases ha : a = p
    · subst ha
      rw [put_same] at q; cases q
      exact ⟨hf, o, hh, r⟩
    · rw [put_ne ha] at q
      exact g.mt a m q
  · have ha : a ≠ p := fun z => by subst z; rw [hr] at q; cases q
    have q' : (upd R p o) a = some u := by rw [upd_ne ha]; exact q
    rw [put_ne ha]
    exact g.rs a u q'
end
end VS
namespace VS
open PySem PySem.Spec PyProof.Rows L2
def line : Nat := 16777216
theorem line_eq : sizeLine = line := by rw [sizeLine_eq]; rfl
def asL (M : Store) : D → Option (List D)
  | .lst xs => some xs
  | .ptr p => match M p with | some (.lst xs) => some xs | _ => none
  | _ => none
def asS (M : Store) : D → Option (List D)
  | .tup xs => some xs
  | d => asL M d
def asD (M : Store) : D → Option (List (D × D))
  | .dic kvs => some kvs
  | .ptr p => match M p with | some (.dic kvs) => some kvs | _ => none
  | _ => none
def nonD : List (D × D) → Bool
  | [(.non, _)] => true
  | _ => false
def asK (M : Store) : D → Option (List (D × D))
  | .kdf kvs => if nonD kvs = true then none else some kvs
  | .ptr p => match M p with | some (.kdic a kvs) => if a = p then some kvs else none | _ => none
  | _ => none
def isKey (kd : D) (k : NestedKey) : Prop := nkD kd = some k ∧ k.depth ≤ 8 ∧ ∃ xs, kd = .tup xs
def nuL (xs : List D) (M : Store) (Q : DK) : Prop := Q (.lst xs) M ∨ ∀ p, M p = none → Q (.ptr p) (M.put p (.lst xs))
def wAdd (x y : D) (M : Store) (Q : DK) : Prop :=
  match x, y with
  | .int i, .int j => Q (.int (i + j)) M
  | .str s, .str t => s.length + t.length ≤ line ∧ Q (.str (s ++ t)) M
  | .tup xs, .tup ys => xs.length + ys.length ≤ line ∧ Q (.tup (xs ++ ys)) M
  | x, y => match asL M x, asL M y with
    | some xs, some ys => xs.length + ys.length ≤ line ∧ nuL (xs ++ ys) M Q
    | _, _ => False
def wSub (x y : D) (M : Store) (Q : DK) : Prop := match x, y with | .int i, .int j => Q (.int (i - j)) M | _, _ => False
def wMul (x y : D) (M : Store) (Q : DK) : Prop := match x, y with | .int i, .int j => CMul i j ∧ Q (.int (i * j)) M | _, _ => False
def wMod (x y : D) (M : Store) (Q : DK) : Prop := match x, y with | .int i, .int j => 0 < j ∧ Q (.int (i % j)) M | _, _ => False
def wFdiv (x y : D) (M : Store) (Q : DK) : Prop := match x, y with | .int i, .int j => (0 < j ∧ j < 1073741824) ∧ Q (.int (i / j)) M | _, _ => False
def wPow (x y : D) (M : Store) (Q : DK) : Prop := match x, y with | .int i, .int j => (0 ≤ j ∧ j ≤ 1000000 ∧ i.natAbs < 2 ^ 64) ∧ Q (.int (i ^ j.toNat)) M | _, _ => False
inductive BOp | add | sub | mul | mod | fdiv | pow
def wBin : BOp → D → D → Store → DK → Prop
  | .add => wAdd | .sub => wSub | .mul => wMul | .mod => wMod | .fdiv => wFdiv | .pow => wPow
def wEqB (x y : D) (Q : Bool → Prop) : Prop :=
  match x, y with
  | .int i, .int j => Q (decide (i = j))
  | .str s, .str t => Q (decide (s = t))
  | .bl a, .bl b => Q (decide (a = b))
  | .non, .non => Q true
  | .non, .int _ => Q false | .int _, .non => Q false | .non, .str _ => Q false | .str _, .non => Q false
  | .int _, .str _ => Q false | .str _, .int _ => Q false
  | x, y => SeqAt.shaped (py x) = true ∧ SeqAt.shaped (py y) = true ∧ Q (PyData.eqv (py x) (py y))
def lookD (k : D) : List (D × D) → Option D
  | [] => none
  | (a, v) :: r => if keyOf a = keyOf k then some v else lookD k r
def strLt (s t : String) : Bool := decide ((Str.ofString s).cps.toList < (Str.ofString t).cps.toList)
def strLe (s t : String) : Bool := !decide ((Str.ofString t).cps.toList < (Str.ofString s).cps.toList)
def wCmpI (f : Int → Int → Bool) (g : String → String → Bool) (x y : D) (M : Store) (Q : DK) : Prop :=
  match x, y with | .int i, .int j => Q (.bl (f i j)) M | .str s, .str t => Q (.bl (g s t)) M | _, _ => False
def wInB (x y : D) (M : Store) (Q : Bool → Prop) : Prop :=
  match x, y with
  | .str c, .str s => ∃ a, c = String.singleton a ∧ Q (decide (a ∈ s.toList))
  | .str s, .tab l => Q (lookT s l).isSome
  | x, y => match asS M y with
    | some ys => (SeqAt.shaped (py x) = true ∧ ys.all (fun y => SeqAt.shaped (py y)) = true ∧ Q (ys.any fun y => PyData.eqv (py y) (py x)))
    | none => match asD M y with
      | some kvs => (keyOf x).isSome = true ∧ Q (lookD x kvs).isSome
      | none => match asK M y with
        | some kvs => kvs.length ≤ 1000000 ∧ ∃ k, isKey x k ∧ Q (lookK k kvs).isSome
        | none => False
def asMemo (M : Store) : D → Option (Addr × List NestedKey × (NestedKey → D → Prop) × List NestedKey)
  | .ptr p => match M p with | some (.memo a dom P ks) => if a = p then some (p, dom, P, ks) else none | _ => none
  | _ => none
def wInM (x y : D) (M : Store) (Q : Bool → Store → Prop) : Prop :=
  match asMemo M y with
  | some (p, dom, P, ks) => ∃ k, isKey x k ∧ Q true (M.put p (.memo p dom P (k :: ks))) ∧ Q false M
  | none => wInB x y M fun b => Q b M
def isNon : D → Bool
  | .non => true | _ => false
inductive COp | eq | ne | lt | le | gt | ge | is_ | isn | in_ | nin
def wCmp : COp → D → D → Store → DK → Prop
  | .eq, x, y, M, Q => wEqB x y fun b => Q (.bl b) M
  | .ne, x, y, M, Q => wEqB x y fun b => Q (.bl (!b)) M
  | .lt, x, y, M, Q => wCmpI (fun i j => decide (i < j)) strLt x y M Q
  | .le, x, y, M, Q => wCmpI (fun i j => decide (i ≤ j)) strLe x y M Q
  | .gt, x, y, M, Q => wCmpI (fun i j => decide (j < i)) (fun s t => strLt t s) x y M Q
  | .ge, x, y, M, Q => wCmpI (fun i j => decide (j ≤ i)) (fun s t => strLe t s) x y M Q
  | .is_, x, y, M, Q => match y with | .non => Q (.bl (isNon x)) M | _ => False
  | .isn, x, y, M, Q => match y with | .non => Q (.bl (!isNon x)) M | _ => False
  | .in_, x, y, M, Q => wInM x y M fun b M' => Q (.bl b) M'
  | .nin, x, y, M, Q => wInM x y M fun b M' => Q (.bl (!b)) M'
def wNeg (x : D) (M : Store) (Q : DK) : Prop := match x with | .int i => Q (.int (-i)) M | _ => False
def wTru (x : D) (M : Store) (Q : Bool → Prop) : Prop :=
  match x with
  | .bl b => Q b
  | .non => Q false
  | .int i => Q (i != 0)
  | .str s => s.length ≤ line ∧ Q (decide (s.length ≠ 0))
  | x => match asS M x with
    | some xs => Q (!xs.isEmpty)
    | none => match asD M x with
      | some kvs => Q (!kvs.isEmpty)
      | none => match asK M x with
        | some kvs => kvs.length ≤ 1000000 ∧ Q (!kvs.isEmpty)
        | none => False
def chars (s : String) : List D := s.toList.map fun c => .str (String.singleton c)
def wIx (x y : D) (M : Store) (Q : DK) : Prop :=
  match x, y with
  | .str s, .int i => s.length ≤ line ∧ (match atI s.toList i with | some c => Q (.str (String.singleton c)) M | none => False)
  | .tab l, .str s => (match lookT s l with | some t => Q (.str t) M | none => False)
  | x, y => match asS M x, y with
    | some xs, .int i => (match atI xs i with | some d => Q d M | none => False)
    | _, y => match asD M x with
      | some kvs => (match lookD y kvs with | some d => Q d M | none => False)
      | none => False
def cutD {α : Type} (xs : List α) (lo hi : Option Int) : List α := (xs.drop (HT.sIx xs.length 0 lo)).take (HT.sIx xs.length xs.length hi - HT.sIx xs.length 0 lo)
def optI : Bool → D → Option (Option Int)
  | true, .int i => some (some i)
  | false, _ => some none
  | _, _ => none
def wSl (x : D) (lo hi : Option Int) (M : Store) (Q : DK) : Prop :=
  match x with
  | .str s => s.length ≤ line ∧ Q (.str (String.ofList (cutD s.toList lo hi))) M
  | .tup xs => Q (.tup (cutD xs lo hi)) M
  | x => match asL M x with | some xs => nuL (cutD xs lo hi) M Q | none => False
def rngD (lo hi : Int) : List D := (List.range (hi - lo).toNat).map fun (i : Nat) => D.int (lo + (i : Int))
def itD (x : D) (M : Store) (Q : List D → (Store → Prop) → Prop) : Prop :=
  match x with
  | .lst xs => Q xs fun _ => True
  | .tup xs => Q xs fun _ => True
  | .str s => s.length ≤ line ∧ Q (chars s) fun _ => True
  | .rng lo hi => (-(2 ^ 62) ≤ lo ∧ lo < 2 ^ 62 ∧ -(2 ^ 62) ≤ hi ∧ hi < 2 ^ 62) ∧ (hi - lo).toNat ≤ line ∧ Q (rngD lo hi) fun _ => True
  | .ptr p => match M p with | some (.lst xs) => Q xs fun M' => M' p = some (.lst xs) | _ => False
  | _ => False
inductive Bi | len | abs | min2 | max2 | int | list | tuple | range1 | range2 | sum | any | all | sorted | str | min1 | max1 | listD
def wLen (x : D) (M : Store) (Q : DK) : Prop :=
  match x with
  | .str s => s.length ≤ line ∧ Q (.int s.length) M
  | x => match asS M x with
    | some xs => Q (.int xs.length) M
    | none => match asD M x with | some kvs => Q (.int kvs.length) M | none => False
def wAbs (x : D) (M : Store) (Q : DK) : Prop := match x with | .int i => Q (.int (if i < 0 then -i else i)) M | _ => False
def wInt (x : D) (M : Store) (Q : DK) : Prop := match x with | .int i => Q (.int i) M | _ => False
def wList (x : D) (M : Store) (Q : DK) : Prop :=
  match x with
  | .scr ns => nuL (ns.map D.int) M Q
  | x => match asS M x with | some xs => nuL xs M Q | none => False
def wListD (x : D) (M : Store) (Q : DK) : Prop := match asD M x with | some kvs => nuL (kvs.map (·.1)) M Q | none => False
def wTuple (x : D) (M : Store) (Q : DK) : Prop := match asS M x with | some xs => Q (.tup xs) M | none => False
def wRange1 (x : D) (M : Store) (Q : DK) : Prop := match x with | .int j => Q (.rng 0 j) M | _ => False
def wSum (x : D) (M : Store) (Q : DK) : Prop := ∃ ns : List Int, asL M x = some (ns.map D.int) ∧ Q (.int ns.sum) M
def wAny (x : D) (M : Store) (Q : DK) : Prop := ∃ bs : List Bool, asL M x = some (bs.map D.bl) ∧ Q (.bl (bs.any id)) M
def wAll (x : D) (M : Store) (Q : DK) : Prop := ∃ bs : List Bool, asL M x = some (bs.map D.bl) ∧ Q (.bl (bs.all id)) M
def wMin1 (x : D) (M : Store) (Q : DK) : Prop := ∃ ns : List Int, asL M x = some (ns.map D.int) ∧ 0 < ns.length ∧ ∀ m, m ∈ ns → (∀ y, y ∈ ns → m ≤ y) → Q (.int m) M
def wMax1 (x : D) (M : Store) (Q : DK) : Prop := ∃ ns : List Int, asL M x = some (ns.map D.int) ∧ 0 < ns.length ∧ ∀ m, m ∈ ns → (∀ y, y ∈ ns → y ≤ m) → Q (.int m) M
def wSortD (x : D) (M : Store) (Q : DK) : Prop := match asD M x with
  | some kvs => ∃ ks : List String, kvs.map (·.1) = ks.map D.str ∧ ks.length < 64 ∧ ∀ ys : List String, ys.Perm ks → sortedS (ys.map Str.ofString) = true → Q (.lst (ys.map D.str)) M
  | none => False
def wB1 : Bi → D → Store → DK → Prop
  | .len => wLen | .abs => wAbs | .int => wInt | .list => wList | .listD => wListD | .tuple => wTuple | .range1 => wRange1 | .sum => wSum | .any => wAny | .all => wAll | .min1 => wMin1 | .max1 => wMax1 | .sorted => wSortD
  | _ => fun _ _ _ => False
def wMin2 (x y : D) (M : Store) (Q : DK) : Prop := match x, y with | .int i, .int j => Q (.int (if j < i then j else i)) M | _, _ => False
def wMax2 (x y : D) (M : Store) (Q : DK) : Prop := match x, y with | .int i, .int j => Q (.int (if j > i then j else i)) M | _, _ => False
def wRange2 (x y : D) (M : Store) (Q : DK) : Prop := match x, y with | .int i, .int j => Q (.rng i j) M | _, _ => False
def wB2 : Bi → D → D → Store → DK → Prop
  | .min2 => wMin2 | .max2 => wMax2 | .range2 => wRange2
  | _ => fun _ _ _ _ => False
def wBi (b : Bi) (ds : List D) (M : Store) (Q : DK) : Prop :=
  match ds with
  | [x] => wB1 b x M Q
  | [x, y] => wB2 b x y M Q
  | _ => False
inductive Mt | append | extend | pop | index | get1 | get2
def wAppend (x d : D) (M : Store) (Q : DK) : Prop :=
  match x with
  | .ptr p => (match M p with | some (.lst xs) => xs.length < line ∧ Q .non (M.put p (.lst (xs ++ [d]))) | _ => False)
  | _ => False
def wExtend (x d : D) (M : Store) (Q : DK) : Prop :=
  match x with
  | .ptr p => (match M p with
    | some (.lst xs) => (match asS M d with | some ys => xs.length + ys.length ≤ line ∧ Q .non (M.put p (.lst (xs ++ ys))) | none => False)
    | _ => False)
  | _ => False
def wPop (x : D) (M : Store) (Q : DK) : Prop :=
  match x with
  | .ptr p => (match M p with
    | some (.lst xs) => (match xs[xs.length - 1]? with | some d => Q d (M.put p (.lst xs.dropLast)) | none => False)
    | _ => False)
  | _ => False
def wIndex (x y : D) (M : Store) (Q : DK) : Prop :=
  match asL M x with
  | some xs => SeqAt.shaped (py y) = true ∧ SeqAt.shaped (.list (pyL xs)) = true ∧ ∃ j z, xs[j]? = some z ∧ PyData.eqv (py z) (py y) = true ∧ (∀ m z', m < j → xs[m]? = some z' → PyData.eqv (py z') (py y) = false) ∧ Q (.int (j : Nat)) M
  | none => False
def wGet1 (x k : D) (M : Store) (Q : DK) : Prop := match asD M x with | some kvs => (keyOf k).isSome = true ∧ Q ((lookD k kvs).getD .non) M | none => False
def wGet2 (x k d : D) (M : Store) (Q : DK) : Prop := match asD M x with | some kvs => (keyOf k).isSome = true ∧ Q ((lookD k kvs).getD d) M | none => False
def wMt (m : Mt) (x : D) (ds : List D) (M : Store) (Q : DK) : Prop :=
  match ds with
  | [] => (match m with | .pop => wPop x M Q | _ => False)
  | [y] => (match m with | .append => wAppend x y M Q | .extend => wExtend x y M Q | .index => wIndex x y M Q | .get1 => wGet1 x y M Q | _ => False)
  | [y, z] => (match m with | .get2 => wGet2 x y z M Q | _ => False)
  | _ => False
def lookF (f : String) : List (String × D) → Option D
  | [] => none
  | (g, v) :: r => if g = f then some v else lookF f r
def asI (M : Store) : D → Option (String × List (String × D))
  | .inst c fs => some (c, fs)
  | .ptr p => match M p with | some (.inst c fs) => some (c, fs) | _ => none
  | _ => none
def putFd (f : String) (v : D) : List (String × D) → List (String × D)
  | [] => [(f, v)]
  | (g, w) :: r => if g = f then (f, v) :: r else (g, w) :: putFd f v r
def putD (k v : D) (kvs : List (D × D)) : List (D × D) :=
  if (kvs.any fun e => decide (keyOf e.1 = keyOf k)) = true then kvs.map (fun e => if keyOf e.1 = keyOf k then (e.1, v) else e) else kvs ++ [(k, v)]
def wSto (x k v : D) (M : Store) (Q : Store → Prop) : Prop :=
  match x with
  | .ptr p => (match M p with
    | some (.lst xs) => (match k with
      | .int i => (match ixN xs.length i with | some j => Q (M.put p (.lst (xs.set j v))) | none => False)
      | _ => False)
    | some (.dic kvs) => (keyOf k).isSome = true ∧ kvs.length < line ∧ Q (M.put p (.dic (putD k v kvs)))
    | _ => False)
  | _ => False
def isTyK (k t : String) : Option Bool :=
  if t = "bool" then some (decide (k = "bool")) else if t = "int" then some (decide (k = "int") || decide (k = "bool")) else if t = "str" then some (decide (k = "str"))
  else if t = "list" then some (decide (k = "list")) else if t = "tuple" then some (decide (k = "tuple")) else none
def isTyD (M : Store) (x : D) (t : String) : Option Bool :=
  match x with
  | .non => isTyK "NoneType" t
  | .bl _ => isTyK "bool" t
  | .int _ => isTyK "int" t
  | .str _ => isTyK "str" t
  | .tup _ => isTyK "tuple" t
  | .lst _ => isTyK "list" t
  | .ptr p => (match M p with | some (.lst _) => isTyK "list" t | _ => none)
  | _ => none
mutual
inductive Tg | nm (i : Nat) | tp (ts : Tgs)
inductive Tgs | nil | cons (t : Tg) (ts : Tgs)
end
abbrev Mr := List Str → Scope → Expr → Option (List Expr)
abbrev Gd := Nat → D → Store → Prop
abbrev WI := List D → Store → (List D → (Store → Prop) → Store → Prop) → Prop
mutual
inductive PX
  | v (i : Nat) | c (d : D) | g (x : String) (d : D)
  | bin (o : BOp) (a b : PX) | neg (a : PX)
  | cmp (o : COp) (a b : PX) | cmp2 (o1 o2 : COp) (a b c : PX)
  | not (a : PX) | and (es : PXs) | or (es : PXs) | ife (t : PT) (a b : PX)
  | tup (es : PXs) | lst (es : PXs) | mlst (es : PXs) | mdic
  | ix (a b : PX) | sl (a : PX) (fl fh : Bool) (lo hi : PX)
  | call (f : String) (sp : Spec) (es : PXs)
  | bi (b : Bi) (es : PXs)
  | isi (a : PX) (t : String) | isi2 (a : PX) (t u : String)
  | mth (m : Mt) (a : PX) (es : PXs)
  | meth (cl m : String) (sp : Spec) (a : PX) (es : PXs)
  | attr (cl : String) (a : PX) (f : String)
  | lc (elt : PX) (own : List (String × Nat)) (tg : Tg) (it : PIt) (cnd : PIf)
  | dc (kx vx : PX) (own : List (String × Nat)) (tg : Tg) (it : PIt) (cnd : PIf)
  | pr (m : Mr) (w : Spec) (es : PXs)
  | pg (m : Mr) (t : Gd) (w : Spec) (es : PXs)
inductive PXs | nil | cons (e : PX) (es : PXs)
inductive PT | val (a : PX) | and (ts : PTs) | or (ts : PTs) | not (a : PT)
inductive PTs | nil | cons (t : PT) (ts : PTs)
inductive PIt | ex (a : PX) | rng1 (a : PX) | rng2 (a b : PX) | rng3 (a b c : PX) | enum (a : PX) | zip (a b : PX) | rev (a : PX) | pr (m : Mr) (w : WI) (es : PXs) | prt (m : Mr) (w : WI) (es : PXs)
inductive PIf | nil | one (t : PT)
end
def prB : Expr → Bool
  | .Starred _ _ => false | .Slice _ _ _ _ => false | .BoolOp _ _ _ => false | .UnaryOp .Not _ _ => false | .Compare _ _ _ _ => false | .IfExp _ _ _ _ => false | .Set _ _ _ => false
  | .ListComp _ _ _ _ => false | .SetComp _ _ _ _ => false | .DictComp _ _ _ _ _ => false | _ => true
def nmB (N : List Str) (sc : Scope) (i : Nat) (x : Str) : Bool :=
  decide (N[i]? = some x) && (match sc.names.lookup x with | some .local => true | some .cell => true | some .free => true | _ => false) && !(x == ("__debug__" : Str)) && !(x == ("__classdict__" : Str))
def locB (N : List Str) (sc : Scope) (fnb : Str → Bool) (i : Nat) (x : Str) : Bool :=
  decide (N[i]? = some x) && (match sc.names.lookup x with | some .local => true | some .cell => fnb x | _ => false)
def glB (sc : Scope) (x : Str) : Bool := (match sc.names.lookup x with | some .globalImplicit => true | _ => false) && !(x == ("__debug__" : Str))
def isBi (sc : Scope) (x : String) (e : Expr) : Bool := match e with | .Name y _ => decide (y = Str.ofString x) && glB sc y | _ => false
def cstB : D → Const → Bool
  | .non, .none => true
  | .bl b, .bool a => a == b
  | .int i, .int j => decide (i = j)
  | .str s, .str t => decide (t = Str.ofString s)
  | _, _ => false
def bopB : BOp → Operator → Bool
  | .add, .Add => true | .sub, .Sub => true | .mul, .Mult => true | .mod, .Mod => true | .fdiv, .FloorDiv => true | .pow, .Pow => true | _, _ => false
def copB : COp → CmpOp → Bool
  | .eq, .Eq => true | .ne, .NotEq => true | .lt, .Lt => true | .le, .LtE => true | .gt, .Gt => true | .ge, .GtE => true | .is_, .Is => true | .isn, .IsNot => true | .in_, .In => true | .nin, .NotIn => true | _, _ => false
def biName : Bi → String
  | .len => "len" | .abs => "abs" | .min2 => "min" | .max2 => "max" | .int => "int" | .list => "list" | .listD => "list" | .tuple => "tuple" | .range1 => "range" | .range2 => "range" | .sum => "sum" | .any => "any" | .all => "all" | .sorted => "sorted" | .str => "str" | .min1 => "min" | .max1 => "max"
def mtName : Mt → String
  | .append => "append" | .extend => "extend" | .pop => "pop" | .index => "index" | .get1 => "get" | .get2 => "get"
def mtArgs : Mt → Nat
  | .append => 1 | .extend => 1 | .pop => 0 | .index => 1 | .get1 => 1 | .get2 => 2
mutual
def tgIn (vs : List Nat) : Tg → Bool
  | .nm i => decide (i ∈ vs)
  | .tp ts => tgsIn vs ts
def tgsIn (vs : List Nat) : Tgs → Bool
  | .nil => true
  | .cons t ts => tgIn vs t && tgsIn vs ts
end
mutual
def isTg (N : List Str) (sc : Scope) (fnb : Str → Bool) : Tg → Expr → Bool
  | .nm i, e => match e with | .Name x _ => locB N sc fnb i x | _ => false
  | .tp ts, e => match e with | .Tuple es _ _ => isTgs N sc fnb ts es | _ => false
def isTgs (N : List Str) (sc : Scope) (fnb : Str → Bool) : Tgs → List Expr → Bool
  | .nil, es => match es with | [] => true | _ => false
  | .cons t ts, es => match es with | e :: es => isTg N sc fnb t e && isTgs N sc fnb ts es | [] => false
end
def nonB : PX → Bool
  | .c .non => true | _ => false
def partB (f : Bool) (o : Option Expr) (q : PX) (g : Expr → Bool) : Bool :=
  match o with
  | some y => f && g y
  | none => !f && nonB q
def noSup : Expr → Bool
  | .Call (.Name _ _) [] [] _ => false
  | _ => true
def blkB (N : List Str) (sc scope : Scope) (own : List (String × Nat)) : Bool := blkC N sc scope (own.map fun p => (Str.ofString p.1, p.2))
mutual
def isX (N : List Str) (sc : Scope) : PX → Expr → Bool
  | .v i, e => match e with | .Name x _ => nmB N sc i x | _ => false
  | .c d, e => match e with | .Constant k _ _ => cstB d k | _ => false
  | .g x _, e => isBi sc x e
  | .bin o a b, e => match e with | .BinOp x op y _ => bopB o op && isX N sc a x && isX N sc b y | _ => false
  | .neg a, e => match e with | .UnaryOp .USub x _ => isX N sc a x | _ => false
  | .cmp o a b, e => match e with | .Compare x [op] [y] _ => copB o op && isX N sc a x && isX N sc b y | _ => false
  | .cmp2 o1 o2 a b c, e => match e with | .Compare x [op1, op2] [y, z] _ => copB o1 op1 && copB o2 op2 && isX N sc a x && isX N sc b y && isX N sc c z | _ => false
  | .not a, e => match e with | .UnaryOp .Not x _ => isX N sc a x | _ => false
  | .and es, e => match e with | .BoolOp .And (x :: xs) _ => isXs N sc es (x :: xs) | _ => false
  | .or es, e => match e with | .BoolOp .Or (x :: xs) _ => isXs N sc es (x :: xs) | _ => false
  | .ife t a b, e => match e with | .IfExp x y z _ => isT N sc t x && isX N sc a y && isX N sc b z | _ => false
  | .tup es, e => match e with | .Tuple xs _ _ => isXs N sc es xs && decide (xs.length ≤ 1000) | _ => false
  | .lst es, e => match e with | .List xs _ => isXs N sc es xs && decide (xs.length ≤ 1000) | _ => false
  | .mlst es, e => match e with | .List xs _ => isXs N sc es xs && decide (xs.length ≤ 1000) | _ => false
  | .mdic, e => match e with | .Dict [] [] _ => true | _ => false
  | .ix a b, e => match e with | .Subscript x y _ => isX N sc a x && isX N sc b y | _ => false
  | .sl a fl fh lo hi, e => match e with
    | .Subscript x (.Slice l h none _) _ => isX N sc a x && partB fl l lo (isX N sc lo) && partB fh h hi (isX N sc hi)
    | _ => false
  | .call f _ es, e => match e with | .Call fn xs [] _ => isBi sc f fn && isXs N sc es xs | _ => false
  | .bi b es, e => match e with | .Call fn xs [] _ => isBi sc (biName b) fn && isXs N sc es xs && (match xs with | [] => false | _ => true) | _ => false
  | .isi a t, e => match e with | .Call fn [x, z] [] _ => isBi sc "isinstance" fn && isX N sc a x && isBi sc t z | _ => false
  | .isi2 a t u, e => match e with | .Call fn [x, .Tuple [z, y] _ _] [] _ => isBi sc "isinstance" fn && isX N sc a x && isBi sc t z && isBi sc u y | _ => false
  | .mth m a es, e => match e with | .Call (.Attribute x nm apos) xs [] cpos => (apos.endLine == cpos.line) && noSup x && isX N sc a x && decide (nm = Str.ofString (mtName m)) && isXs N sc es xs && decide (xs.length = mtArgs m) | _ => false
  | .meth _ m _ a es, e => match e with | .Call (.Attribute x nm apos) xs [] cpos => (apos.endLine == cpos.line) && decide (xs.length < 28) && noSup x && isX N sc a x && decide (nm = Str.ofString m) && isXs N sc es xs | _ => false
  | .attr _ a f, e => match e with | .Attribute x nm _ => noSup x && isX N sc a x && decide (nm = Str.ofString f) | _ => false
  | .lc elt own tg it cnd, e => match e with
    | .ListComp x [⟨t, i, ifs, 0⟩] scope _ => blkB N sc scope own && tgIn (own.map (·.2)) tg && isIt N sc it i && isTg N (relS scope sc) (fun x => scope.names.lookup x == some .cell) tg t && isIf N (relS scope sc) cnd ifs && isX N (relS scope sc) elt x
    | _ => false
  | .dc kx vx own tg it cnd, e => match e with
    | .DictComp x y [⟨t, i, ifs, 0⟩] scope _ => blkB N sc scope own && tgIn (own.map (·.2)) tg && isIt N sc it i && isTg N (relS scope sc) (fun x => scope.names.lookup x == some .cell) tg t && isIf N (relS scope sc) cnd ifs && isX N (relS scope sc) kx x && isX N (relS scope sc) vx y
    | _ => false
  | .pr m _ es, e => prB e && (match m N sc e with | some xs => isXs N sc es xs | none => false)
  | .pg m _ _ es, e => prB e && (match m N sc e with | some xs => isXs N sc es xs | none => false)
def isXs (N : List Str) (sc : Scope) : PXs → List Expr → Bool
  | .nil, xs => match xs with | [] => true | _ => false
  | .cons p ps, xs => match xs with | x :: xs => isX N sc p x && isXs N sc ps xs | [] => false
def isT (N : List Str) (sc : Scope) : PT → Expr → Bool
  | .val a, e => isX N sc a e
  | .and ts, e => match e with | .BoolOp .And (x :: xs) _ => isTs N sc ts (x :: xs) | _ => false
  | .or ts, e => match e with | .BoolOp .Or (x :: xs) _ => isTs N sc ts (x :: xs) | _ => false
  | .not a, e => match e with | .UnaryOp .Not x _ => isT N sc a x | _ => false
def isTs (N : List Str) (sc : Scope) : PTs → List Expr → Bool
  | .nil, xs => match xs with | [] => true | _ => false
  | .cons p ps, xs => match xs with | x :: xs => isT N sc p x && isTs N sc ps xs | [] => false
def isIt (N : List Str) (sc : Scope) : PIt → Expr → Bool
  | .ex a, e => isX N sc a e
  | .rng1 a, e => match e with | .Call fn [x] [] _ => isBi sc "range" fn && isX N sc a x | _ => false
  | .rng2 a b, e => match e with | .Call fn [x, y] [] _ => isBi sc "range" fn && isX N sc a x && isX N sc b y | _ => false
  | .rng3 a b c, e => match e with | .Call fn [x, y, z] [] _ => isBi sc "range" fn && isX N sc a x && isX N sc b y && isX N sc c z | _ => false
  | .enum a, e => match e with | .Call fn [x] [] _ => isBi sc "enumerate" fn && isX N sc a x | _ => false
  | .zip a b, e => match e with | .Call fn [x, y] [] _ => isBi sc "zip" fn && isX N sc a x && isX N sc b y | _ => false
  | .rev a, e => match e with | .Call fn [x] [] _ => isBi sc "reversed" fn && isX N sc a x | _ => false
  | .pr m _ es, e => prB e && (match m N sc e with | some xs => isXs N sc es xs | none => false)
  | .prt m _ es, e => prB e && (match m N sc e with | some xs => isXs N sc es xs | none => false)
def isIf (N : List Str) (sc : Scope) : PIf → List Expr → Bool
  | .nil, es => match es with | [] => true | _ => false
  | .one t, es => match es with | [e] => isT N sc t e | _ => false
end
def ntB : PIt → Bool
  | .prt _ _ _ => true | _ => false
def tpB : Tg → Bool
  | .tp _ => true | _ => false
def tgOk (t : Tg) (it : PIt) : Prop := (ntB it && !tpB t) = false
def tupE (e : Expr) : Prop := ∃ elts k p, e = .Tuple elts k p
theorem tup_of {N : List Str} {sc : Scope} {f : Str → Bool} {t : Tg} {e : Expr} {it : PIt} (o : tgOk t it) (h : isTg N sc f t e = true) : ntB it = true → tupE e := fun hn => by
  unfold tgOk at o
  rw [hn] at o
  cases t with
  | nm i => cases o
  | tp ts =>
    cases e <;> first | (exact absurd h Bool.false_ne_true) | exact ⟨_, _, _, rfl⟩
end VS
namespace VS
open PySem PySem.Spec PyProof.Rows L2
mutual
def gTg : Tg → D → Env → (Env → Prop) → Prop
  | .nm i, d, σ, Q => Q (σ.set i (some d))
  | .tp ts, d, σ, Q => match d with | .tup ds => gTgs ts ds σ Q | _ => False
def gTgs : Tgs → List D → Env → (Env → Prop) → Prop
  | .nil, ds, σ, Q => match ds with | [] => Q σ | _ => False
  | .cons t ts, ds, σ, Q => match ds with | d :: ds => gTg t d σ fun σ' => gTgs ts ds σ' Q | [] => False
end
def getS (σ : Env) (i : Nat) (Q : D → Prop) : Prop := match σ[i]? with | some (some d) => Q d | _ => False
def mtTy (m : Mt) (x : D) (M : Store) : Bool :=
  match m with
  | .get1 => (asD M x).isSome | .get2 => (asD M x).isSome
  | _ => (asL M x).isSome
def lcGo (g : Store → Prop) (f : D → Store → (Option D → Store → Prop) → Prop) : List D → List D → Store → DK → Prop
  | [], acc, M, Q => g M ∧ nuL acc M Q
  | x :: xs, acc, M, Q => g M ∧ f x M fun o M' => lcGo g f xs (match o with | some y => acc ++ [y] | none => acc) M' Q
def nuD (kvs : List (D × D)) (M : Store) (Q : DK) : Prop := Q (.dic kvs) M ∨ ∀ p, M p = none → Q (.ptr p) (M.put p (.dic kvs))
def dcGo (g : Store → Prop) (f : D → Store → (Option (D × D) → Store → Prop) → Prop) : List D → List (D × D) → Store → DK → Prop
  | [], acc, M, Q => g M ∧ nuD acc M Q
  | x :: xs, acc, M, Q => g M ∧ f x M fun o M' => match o with
    | some (k, v) => (keyOf k).isSome = true ∧ acc.length < line ∧ dcGo g f xs (putD k v acc) M' Q
    | none => dcGo g f xs acc M' Q
mutual
def dE (E : XP) : PX → Env → Store → DK → Prop
  | .v i, σ, M, Q => getS σ i fun d => Q d M
  | .c d, _, M, Q => Q d M
  | .g _ d, _, M, Q => Q d M
  | .bin o a b, σ, M, Q => dE E a σ M fun x M1 => dE E b σ M1 fun y M2 => wBin o x y M2 Q
  | .neg a, σ, M, Q => dE E a σ M fun x M1 => wNeg x M1 Q
  | .cmp o a b, σ, M, Q => dE E a σ M fun x M1 => dE E b σ M1 fun y M2 => wCmp o x y M2 Q
  | .cmp2 o1 o2 a b c, σ, M, Q => dE E a σ M fun x M1 => dE E b σ M1 fun y M2 => wCmp o1 x y M2 fun z M3 => match z with | .bl true => dE E c σ M3 fun w M4 => wCmp o2 y w M4 Q | .bl false => Q (.bl false) M3 | _ => False
  | .not a, σ, M, Q => dE E a σ M fun x M1 => wTru x M1 fun b => Q (.bl (!b)) M1
  | .and es, σ, M, Q => dAnd E es σ M Q
  | .or es, σ, M, Q => dOr E es σ M Q
  | .ife t a b, σ, M, Q => dT E t σ M fun c M1 => match c with | true => dE E a σ M1 Q | false => dE E b σ M1 Q
  | .tup es, σ, M, Q => dEs E es σ M fun ds M1 => Q (.tup ds) M1
  | .lst es, σ, M, Q => dEs E es σ M fun ds M1 => Q (.lst ds) M1
  | .mlst es, σ, M, Q => dEs E es σ M fun ds M1 => ∀ p, M1 p = none → Q (.ptr p) (M1.put p (.lst ds))
  | .mdic, _, M, Q => ∀ p, M p = none → Q (.ptr p) (M.put p (.dic []))
  | .ix a b, σ, M, Q => dE E a σ M fun x M1 => dE E b σ M1 fun y M2 => wIx x y M2 Q
  | .sl a fl fh lo hi, σ, M, Q => dE E a σ M fun x M1 => dE E lo σ M1 fun l M2 => match optI fl l with
    | some lo' => dE E hi σ M2 fun h M3 => (match optI fh h with | some hi' => wSl x lo' hi' M3 Q | none => False)
    | none => False
  | .call _ sp es, σ, M, Q => dEs E es σ M fun ds M1 => sp ds M1 Q E
  | .bi b es, σ, M, Q => dEs E es σ M fun ds M1 => wBi b ds M1 Q
  | .isi a t, σ, M, Q => dE E a σ M fun x M1 => (match isTyD M1 x t with | some b => Q (.bl b) M1 | none => False)
  | .isi2 a t u, σ, M, Q => dE E a σ M fun x M1 => (match isTyD M1 x t, isTyD M1 x u with | some b, some b' => Q (.bl (b || b')) M1 | _, _ => False)
  | .mth m a es, σ, M, Q => dE E a σ M fun x M1 => mtTy m x M1 = true ∧ dEs E es σ M1 fun ds M2 => wMt m x ds M2 Q
  | .meth cl m sp a es, σ, M, Q => dE E a σ M fun x M1 => (match asI M1 x with | some (c, fs) => c = cl ∧ lookF m fs = none ∧ dEs E es σ M1 fun ds M2 => sp (x :: ds) M2 Q E | none => False)
  | .attr cl a f, σ, M, Q => dE E a σ M fun x M1 => (match asI M1 x with | some (c, fs) => c = cl ∧ (match lookF f fs with | some d => Q d M1 | none => False) | none => False)
  | .lc elt own tg it cnd, σ, M, Q => dIt E it σ M fun xs g M1 =>
      lcGo g (fun x M k => gTg tg x (wipeD σ (own.map (·.2))) fun σ' => dIf X0 cnd σ' M fun b M' => match b with | true => dE X0 elt σ' M' fun y M'' => k (some y) M'' | false => k none M') xs [] M1 Q
  | .dc kx vx own tg it cnd, σ, M, Q => dIt E it σ M fun xs g M1 =>
      dcGo g (fun x M k => gTg tg x (wipeD σ (own.map (·.2))) fun σ' => dIf X0 cnd σ' M fun b M' => match b with | true => dE X0 kx σ' M' fun y M2 => dE X0 vx σ' M2 fun z M3 => k (some (y, z)) M3 | false => k none M') xs [] M1 Q
  | .pr _ w es, σ, M, Q => dEs E es σ M fun ds M1 => w ds M1 Q E
  | .pg _ t w es, σ, M, Q => dEg E t 0 es σ M fun ds M1 => w ds M1 Q E
def dEg (E : XP) (t : Gd) : Nat → PXs → Env → Store → (List D → Store → Prop) → Prop
  | _, .nil, _, M, Q => Q [] M
  | i, .cons p ps, σ, M, Q => dE E p σ M fun d M1 => t i d M1 ∧ dEg E t (i + 1) ps σ M1 fun ds M2 => Q (d :: ds) M2
def dEs (E : XP) : PXs → Env → Store → (List D → Store → Prop) → Prop
  | .nil, _, M, Q => Q [] M
  | .cons p ps, σ, M, Q => dE E p σ M fun d M1 => dEs E ps σ M1 fun ds M2 => Q (d :: ds) M2
def dT (E : XP) : PT → Env → Store → (Bool → Store → Prop) → Prop
  | .val a, σ, M, Q => dE E a σ M fun x M1 => wTru x M1 fun b => Q b M1
  | .and ts, σ, M, Q => dTA E ts σ M Q
  | .or ts, σ, M, Q => dTO E ts σ M Q
  | .not a, σ, M, Q => dT E a σ M fun c M1 => Q (!c) M1
def dAnd (E : XP) : PXs → Env → Store → DK → Prop
  | .nil, _, _, _ => False
  | .cons p ps, σ, M, Q => match ps with
    | .nil => dE E p σ M Q
    | _ => dE E p σ M fun x M1 => match x with | .bl true => dAnd E ps σ M1 Q | .bl false => Q (.bl false) M1 | _ => False
def dOr (E : XP) : PXs → Env → Store → DK → Prop
  | .nil, _, _, _ => False
  | .cons p ps, σ, M, Q => match ps with
    | .nil => dE E p σ M Q
    | _ => dE E p σ M fun x M1 => match x with | .bl true => Q (.bl true) M1 | .bl false => dOr E ps σ M1 Q | _ => False
def dTA (E : XP) : PTs → Env → Store → (Bool → Store → Prop) → Prop
  | .nil, _, _, _ => False
  | .cons p ps, σ, M, Q => match ps with
    | .nil => dT E p σ M Q
    | _ => dT E p σ M fun c M1 => match c with | true => dTA E ps σ M1 Q | false => Q false M1
def dTO (E : XP) : PTs → Env → Store → (Bool → Store → Prop) → Prop
  | .nil, _, _, _ => False
  | .cons p ps, σ, M, Q => match ps with
    | .nil => dT E p σ M Q
    | _ => dT E p σ M fun c M1 => match c with | true => Q true M1 | false => dTO E ps σ M1 Q
def dIt (E : XP) : PIt → Env → Store → (List D → (Store → Prop) → Store → Prop) → Prop
  | .ex a, σ, M, Q => dE E a σ M fun x M1 => itD x M1 fun xs g => Q xs g M1
  | .rng1 a, σ, M, Q => dE E a σ M fun x M1 => (match x with | .int j => (-(2 ^ 62) ≤ j ∧ j < 2 ^ 62) ∧ j.toNat ≤ line ∧ Q (rngD 0 j) (fun _ => True) M1 | _ => False)
  | .rng2 a b, σ, M, Q => dE E a σ M fun x M1 => dE E b σ M1 fun y M2 => (match x, y with | .int i, .int j => (-(2 ^ 62) ≤ i ∧ i < 2 ^ 62 ∧ -(2 ^ 62) ≤ j ∧ j < 2 ^ 62) ∧ (j - i).toNat ≤ line ∧ Q (rngD i j) (fun _ => True) M2 | _, _ => False)
  | .rng3 a b c, σ, M, Q => dE E a σ M fun x M1 => dE E b σ M1 fun y M2 => dE E c σ M2 fun z M3 => (match x, y, z with
    | .int i, .int j, .int k => ∃ n, RgC i j k n ∧ n ≤ line ∧ Q ((List.range n).map fun (t : Nat) => D.int (i + (t : Int) * k)) (fun _ => True) M3
    | _, _, _ => False)
  | .enum a, σ, M, Q => dE E a σ M fun x M1 => (match asL M1 x with | some xs => Q ((List.range xs.length).zipWith (fun (i : Nat) x => D.tup [.int i, x]) xs) (fun M' => asL M' x = some xs) M1 | none => False)
  | .zip a b, σ, M, Q => dE E a σ M fun x M1 => dE E b σ M1 fun y M2 => (match asS M2 x, asS M2 y with | some xs, some ys => Q (List.zipWith (fun x y => D.tup [x, y]) xs ys) (fun M' => asS M' x = some xs ∧ asS M' y = some ys) M2 | _, _ => False)
  | .rev a, σ, M, Q => dE E a σ M fun x M1 => (match asL M1 x with | some xs => Q xs.reverse (fun M' => asL M' x = some xs) M1 | none => False)
  | .pr _ w es, σ, M, Q => dEs E es σ M fun ds M1 => w ds M1 Q
  | .prt _ w es, σ, M, Q => dEs E es σ M fun ds M1 => w ds M1 Q
def dIf (E : XP) : PIf → Env → Store → (Bool → Store → Prop) → Prop
  | .nil, _, M, Q => Q true M
  | .one t, σ, M, Q => dT E t σ M Q
end
end VS
namespace VS
open PySem PySem.Spec PyProof.Rows L2
def Wish (G : Glob) (R F : Hp) (Qd : DK) (Q : VK) : Prop := ∀ d M' v F' H', Qd d M' → Ex F F' → Good G R F' H' M' → Rp G F' v d → Q v H'
def WishL (G : Glob) (R F : Hp) (Qd : List D → Store → Prop) (Q : List V → Hp → Prop) : Prop := ∀ d M' v F' H', Qd d M' → Ex F F' → Good G R F' H' M' → RpL G F' v d → Q v H'
def WishB (G : Glob) (R F : Hp) (Qd : Bool → Store → Prop) (Q : Bool → Hp → Prop) : Prop := ∀ d M' F' H', Qd d M' → Ex F F' → Good G R F' H' M' → Q d H'
def WishX (G : Glob) (R F : Hp) (Ed : XP) (E : XK) : Prop := ∀ c fs M' F' H' (C : Addr), Ed c fs M' → Ex F F' → Good G R F' H' M' → G.mg (Str.ofString c) = some (.ref C) →
  (match fs with | none => E (.ref C) none H' | some fs => ∀ d xfs, H' d = some (.xd xfs) → RpF G F' xfs fs → E (.ref C) (some d) H')
def toSp (G : Glob) (n : Nat) (sp : Spec) : Sp := fun vs H Q E => ∃ ds F M R Qd Ed, ds.length = n ∧ Good G R F H M ∧ RpL G F vs ds ∧ sp ds M Qd Ed ∧ Wish G R F Qd Q ∧ WishX G R F Ed E
section
variable {G : Glob} {R F F' H H' : Hp} {M : Store} {v u : V} {d x y : D} {xs : List D} {Qd : DK} {Q : VK}
theorem Wish.mono (e : Ex F F') (w : Wish G R F Qd Q) : Wish G R F' Qd Q := fun d M' v F2 H2 q e2 g r => w d M' v F2 H2 q (e.trans e2) g r
theorem Wish.at (w : Wish G R F Qd Q) (g : Good G R F H M) (r : Rp G F v d) (q : Qd d M) : Q v H := w d M v F H q (Ex.refl F) g r
theorem Wish.new {p : Addr} {o : HO} (w : Wish G R F Qd Q) (g : Good G R F H M) (h : H p = none) (r : Rp G (upd F p o) (.ref p) d) (q : Qd d M) : Q (.ref p) (upd H p o) :=
  let ⟨g', e⟩ := g.new (o := o) h; w d M _ _ _ q e g' r
theorem Wish.newM {p : Addr} {o : HO} {mo : MO} (w : Wish G R F Qd Q) (g : Good G R F H M) (h : H p = none) (r : RpM G F o mo) (q : Qd (.ptr p) (M.put p mo)) : Q (.ref p) (upd H p o) :=
  w _ _ _ F _ q (Ex.refl F) (g.newM h r) (.ptr p)
theorem rp_new_lst {p : Addr} {vs : List V} {ds : List D} (h : F p = none) (r : RpL G F vs ds) : Rp G (upd F p (.lst vs)) (.ref p) (.lst ds) := .lst upd_same (r.mono (Ex.new h))
theorem rp_new_tup {p : Addr} {vs : List V} {ds : List D} (h : F p = none) (r : RpL G F vs ds) : Rp G (upd F p (.tup vs)) (.ref p) (.tup ds) := .tup (SqT.of upd_same) (r.mono (Ex.new h))
theorem Wish.nuL {p : Addr} {vs : List V} {ds : List D} (w : Wish G R F Qd Q) (g : Good G R F H M) (h : H p = none) (r : RpL G F vs ds) (q : VS.nuL ds M Qd) : Q (.ref p) (upd H p (.lst vs)) := by
  rcases q with q | q
  · exact w.new g h (rp_new_lst (g.fresh h).2.1 r) q
  · exact w.newM g h (.lst r) (q p (g.fresh h).1)
theorem asL_rp (g : Good G R F H M) (r : Rp G F v d) (h : asL M d = some xs) : ∃ a vs, v = .ref a ∧ H a = some (.lst vs) ∧ RpL G F vs xs := by
  cases r with
  | lst ha r => cases h; exact ⟨_, _, rfl, g.ex _ _ ha, r⟩
  | ptr a =>
    have h' : (match M a with | some (.lst xs) => some xs | _ => none) = some xs := h
    cases q : M a with
    | none => rw [q] at h'; cases h'
    | some mo =>
      rw [q] at h'
      cases mo with
      | lst ys =>
        cases h'
        obtain ⟨_, ho, e, rm⟩ := g.mt a _ q
        cases rm with
        | lst r => exact ⟨_, _, rfl, e, r⟩
      | dic _ => cases h'
      | inst _ _ => cases h'
      | kdic _ _ => cases h'
      | ndic _ => cases h'
      | memo _ _ _ _ => cases h'
  | _ => cases h
theorem asS_rp (g : Good G R F H M) (r : Rp G F v d) (h : asS M d = some xs) : ∃ a vs, v = .ref a ∧ (SqL G.K H a vs ∨ SqT G.K H a vs) ∧ RpL G F vs xs := by
  have key : (∃ ys, d = .tup ys) ∨ asL M d = some xs := by
    cases d <;> first | exact .inl ⟨_, rfl⟩ | exact .inr h
  rcases key with ⟨ys, rfl⟩ | h'
  · cases h
    cases r with
    | tup ha r => exact ⟨_, _, rfl, .inr (g.ex.t ha), r⟩
  · obtain ⟨a, vs, e1, e2, e3⟩ := asL_rp g r h'
    exact ⟨a, vs, e1, .inl (SqL.of e2), e3⟩
theorem asD_rp {kvs : List (D × D)} (g : Good G R F H M) (r : Rp G F v d) (h : asD M d = some kvs) : ∃ a vs, v = .ref a ∧ H a = some (.dK vs) ∧ RpD G F vs kvs := by
  cases r with
  | dic ha r => cases h; exact ⟨_, _, rfl, g.ex _ _ ha, r⟩
  | ptr a =>
    have h' : (match M a with | some (.dic xs) => some xs | _ => none) = some kvs := h
    cases q : M a with
    | none => rw [q] at h'; cases h'
    | some mo =>
      rw [q] at h'
      cases mo with
      | dic ys =>
        cases h'
        obtain ⟨_, ho, e, rm⟩ := g.mt a _ q
        cases rm with
        | dic r => exact ⟨_, _, rfl, e, r⟩
      | lst _ => cases h'
      | inst _ _ => cases h'
      | kdic _ _ => cases h'
      | ndic _ => cases h'
      | memo _ _ _ _ => cases h'
  | _ => cases h
theorem asI_rp {c : String} {fs : List (String × D)} (g : Good G R F H M) (r : Rp G F v d) (h : asI M d = some (c, fs)) : ∃ a C dx vs, v = .ref a ∧ H a = some (.ins C dx vs) ∧ G.mg (Str.ofString c) = some (.ref C) ∧ RpF G F vs fs := by
  cases r with
  | inst ha hc r => cases h; exact ⟨_, _, _, _, rfl, g.ex _ _ ha, hc, r⟩
  | ptr a =>
    have h' : (match M a with | some (.inst c fs) => some (c, fs) | _ => none) = some (c, fs) := h
    cases q : M a with
    | none => rw [q] at h'; cases h'
    | some mo =>
      rw [q] at h'
      cases mo with
      | inst c' fs' =>
        cases h'
        obtain ⟨_, ho, e, rm⟩ := g.mt a _ q
        cases rm with
        | inst hc r => exact ⟨_, _, _, _, rfl, e, hc, r⟩
      | lst _ => cases h'
      | dic _ => cases h'
      | kdic _ _ => cases h'
      | ndic _ => cases h'
      | memo _ _ _ _ => cases h'
  | _ => cases h
mutual
theorem dp_of : ∀ {v : V} {d : D}, Rp G H v d → PyData.canLay0 (py d) = true → Dp G.K H v (py d)
  | _, _, .non, _ => .non
  | _, _, .bl b, _ => .bl b
  | _, _, .int i, _ => .int i
  | _, _, .str s, _ => .str _
  | _, _, .tup h r, c => .tup h (dpL_of r (by simpa [py, PyData.canLay0] using c))
  | _, _, .lst h r, c => .lst (SqL.of h) (dpL_of r (by simpa [py, PyData.canLay0] using c))
  | _, _, .dic _ _, c => by simp [py, PyData.canLay0] at c
  | _, _, .inst _ _ _, c => by simp [py, PyData.canLay0] at c
  | _, _, .rng _, c => by simp [py, PyData.canLay0] at c
  | _, _, .ptr _, c => by simp [py, PyData.canLay0] at c
  | _, _, .scr _, c => by simp [py, PyData.canLay0] at c
  | _, _, .tab _, c => by simp [py, PyData.canLay0] at c
  | _, _, .kdf _ _ _, c => by simp [py, PyData.canLay0] at c
  | _, _, .kdN _ _, c => by simp [py, PyData.canLay0] at c
  | _, _, .dicF _ _, c => by simp [py, PyData.canLay0] at c
theorem dpL_of : ∀ {v : List V} {d : List D}, RpL G H v d → PyData.canLayAll0 (pyL d) = true → DpAll G.K H v (pyL d)
  | _, _, .nil, _ => .nil
  | _, _, .cons h r, c => by
    simp only [pyL, PyData.canLayAll0, Bool.and_eq_true] at c
    exact .cons (dp_of h c.1) (dpL_of r c.2)
end
theorem dp_at (g : Good G R F H M) (r : Rp G F v d) (s : SeqAt.shaped (py d) = true) : Dp G.K H v (py d) := by
  refine dp_of (r.mono g.ex) ?_
  unfold SeqAt.shaped at s
  simp only [Bool.and_eq_true] at s
  exact s.1
theorem pyL_map : ∀ ds : List D, pyL ds = ds.map py
  | [] => rfl
  | d :: ds => by rw [List.map_cons, ← pyL_map ds]; rfl
end
def rD (G : Glob) (w : D → D → Store → DK → Prop) : R2 := fun x y H Q => ∃ dx dy F M R Qd, Good G R F H M ∧ Rp G F x dx ∧ Rp G F y dy ∧ w dx dy M Qd ∧ Wish G R F Qd Q
structure CtxG (G : Glob) (X : Cx) : Prop where
  prog : X.prog = G.prog
  w : X.w = G.w
  K : X.K = G.K
  mg : X.mg = G.mg
  base : X.base = G.base
  calm : X.calm = true
  nd : X.N.Nodup
  un : X.A.units + 65 < cLine
theorem ofString_cps (s : String) : (Str.ofString s).cps.toList = s.toList.map Char.toNat := by
  rw [Str.ofString_eq_toList]
theorem ofString_len (s : String) : (Str.ofString s).length = s.length := by
  have h : (Str.ofString s).cps.toList.length = (s.toList.map Char.toNat).length := by rw [ofString_cps]
  rw [List.length_map, String.length_toList] at h
  exact h
theorem Str.ext' {a b : Str} (h : a.cps.toList = b.cps.toList) : a = b := by
  cases a; cases b
  simp only at h
  rw [Array.toList_inj] at h
  rw [h]
theorem toNat_inj {a b : Char} (h : a.toNat = b.toNat) : a = b := Char.ext (UInt32.toNat_inj.mp h)
theorem map_toNat_inj : ∀ {a b : List Char}, a.map Char.toNat = b.map Char.toNat → a = b
  | [], [], _ => rfl
  | [], _ :: _, h => by simp at h
  | _ :: _, [], h => by simp at h
  | x :: a, y :: b, h => by
    simp only [List.map_cons, List.cons.injEq] at h
    rw [toNat_inj h.1, map_toNat_inj h.2]
theorem ofString_inj {s t : String} : Str.ofString s = Str.ofString t ↔ s = t := by
  refine ⟨fun h => ?_, fun h => by rw [h]⟩
  have h2 : (Str.ofString s).cps.toList = (Str.ofString t).cps.toList := by rw [h]
  rw [ofString_cps, ofString_cps] at h2
  exact String.toList_inj.mp (map_toNat_inj h2)
theorem tab_in {K : PySem.W.Frag} {a : Addr} {od : Option Addr} {cl : Value} {n : Nat} {sl : Array (Option Value)} {s : String} : ∀ {es : Array DictEntry} {l : List (String × String)}, K.lookup a = some ⟨cl, od, .dict es n, sl⟩ → TabE l es.toList →
    ∃ r, PySem.W.nsIn K a (Str.ofString s) = some r ∧ ((lookT s l = none ∧ r = none) ∨ ∃ v t, lookT s l = some v ∧ r = some (.str (Str.ofString v) t)) := fun {es l} hl h => by
  unfold PySem.W.nsIn
  rw [hl]
  dsimp only
  have ref : ∀ {l : List (String × String)} {es : List DictEntry}, TabE l es → es.any (·.refKey) = false := fun h => by
    induction h with
    | nil => rfl
    | cons _ ih => rw [List.any_cons, ih]; rfl
  have fnd : ∀ {l : List (String × String)} {es : List DictEntry}, TabE l es → (lookT s l = none ∧ es.find? (·.key.isStr (Str.ofString s)) = none) ∨ ∃ e v t, lookT s l = some v ∧ es.find? (·.key.isStr (Str.ofString s)) = some e ∧ e.val = .str (Str.ofString v) t := fun h => by
    induction h with
    | nil => exact .inl ⟨rfl, rfl⟩
    | @cons k v t u hh l es _ ih =>
      by_cases e : k = s
      · refine .inr ⟨⟨hh, .str (Str.ofString k) t, .str (Str.ofString v) u⟩, v, u, by unfold lookT; rw [if_pos e], ?_, rfl⟩
        rw [List.find?_cons_of_pos]
        show (Str.ofString k == Str.ofString s) = true
        rw [e]; exact beq_self_eq_true _
      · have n1 : (fun e : DictEntry => e.key.isStr (Str.ofString s)) ⟨hh, .str (Str.ofString k) t, .str (Str.ofString v) u⟩ = false := by
          show (Str.ofString k == Str.ofString s) = false
          rw [beq_eq_false_iff_ne]; exact fun z => e (ofString_inj.mp z)
        have n2 : lookT s ((k, v) :: l) = lookT s l := by
          show (if k = s then some v else lookT s l) = _
          rw [if_neg e]
        rw [n2, List.find?_cons_of_neg (p := fun e : DictEntry => e.key.isStr (Str.ofString s)) (fun z => Bool.false_ne_true (n1.symm.trans z))]
        exact ih
  rcases fnd h with ⟨e1, e2⟩ | ⟨e, v, t, e1, e2, e3⟩
  · rw [e2]
    dsimp only
    rw [ref h]
    exact ⟨none, rfl, .inl ⟨e1, rfl⟩⟩
  · rw [e2]
    exact ⟨some e.val, rfl, .inr ⟨v, t, e1, by rw [e3]⟩⟩
theorem ofString_append (s t : String) : Str.ofString (s ++ t) = Str.ofString s ++ Str.ofString t := by
  refine Str.ext' ?_
  show _ = ((Str.ofString s).cps ++ (Str.ofString t).cps).toList
  rw [Array.toList_append, ofString_cps, ofString_cps, ofString_cps, String.toList_append, List.map_append]
section
variable {G : Glob} {X : Cx} (C : CtxG G X)
include C
theorem op_addD : OpR X (binaryOp .Add) (rD G wAdd) := by
  intro pins s σ H x y v u Q I rx ry h
  obtain ⟨dx, dy, F, M, R, Qd, g, r1, r2, hw, w⟩ := h
  unfold wAdd at hw
  split at hw
  · cases r1; cases r2
    exact op_add pins s σ H _ _ v u Q I rx ry ⟨_, _, rfl, rfl, w.at g (.int _) hw⟩
  · cases r1; cases r2
    refine op_add_str pins s σ H _ _ v u Q I rx ry ⟨_, _, rfl, rfl, ?_, ?_⟩
    · rw [ofString_len, ofString_len, line_eq]; exact hw.1
    · rw [← ofString_append]; exact w.at g (.str _) hw.2
  · rename_i xs ys
    cases r1 with
    | tup h1 r1 =>
      rename_i a vs
      cases r2 with
      | tup h2 r2 =>
        rename_i b ws
        refine op_catA pins s σ H _ _ v u Q I rx ry ⟨_, _, vs, ws, rfl, rfl, by rw [C.K]; exact g.ex.t h1, by rw [C.K]; exact g.ex.t h2, ?_, fun e => ?_, fun _ e => ?_, fun _ _ p hp => ?_⟩
        · rw [r1.length, r2.length, line_eq]; exact hw.1
        · subst e
          cases r1
          exact w.at g (.tup h2 r2) hw.2
        · subst e
          cases r2
          have q := hw.2
          rw [List.append_nil] at q
          exact w.at g (.tup h1 r1) q
        · exact w.new g hp (rp_new_tup (g.fresh hp).2.1 (r1.append r2)) hw.2
  · split at hw
    · rename_i xs ys e1 e2
      obtain ⟨a, vs, rfl, ha, q1⟩ := asL_rp g r1 e1
      obtain ⟨b, ws, rfl, hb, q2⟩ := asL_rp g r2 e2
      refine op_cat pins s σ H _ _ v u Q I rx ry ⟨a, b, vs, ws, rfl, rfl, ha, hb, ?_, fun p hp => ?_⟩
      · rw [q1.length, q2.length, line_eq]; exact hw.1
      · rcases hw.2 with hq | hq
        · exact w.new g hp (rp_new_lst (g.fresh hp).2.1 (q1.append q2)) hq
        · exact w.newM g hp (.lst (q1.append q2)) (hq p (g.fresh hp).1)
    · exact hw.elim
theorem op_subD : OpR X (binaryOp .Sub) (rD G wSub) := by
  intro pins s σ H x y v u Q I rx ry h
  obtain ⟨dx, dy, F, M, R, Qd, g, r1, r2, hw, w⟩ := h
  unfold wSub at hw
  split at hw
  · cases r1; cases r2
    exact op_sub pins s σ H _ _ v u Q I rx ry ⟨_, _, rfl, rfl, w.at g (.int _) hw⟩
  · exact hw.elim
theorem op_mulD : OpR X (binaryOp .Mult) (rD G wMul) := by
  intro pins s σ H x y v u Q I rx ry h
  obtain ⟨dx, dy, F, M, R, Qd, g, r1, r2, hw, w⟩ := h
  unfold wMul at hw
  split at hw
  · cases r1; cases r2
    exact op_mul pins s σ H _ _ v u Q I rx ry ⟨_, _, rfl, rfl, hw.1, w.at g (.int _) hw.2⟩
  · exact hw.elim
theorem op_modD : OpR X (binaryOp .Mod) (rD G wMod) := by
  intro pins s σ H x y v u Q I rx ry h
  obtain ⟨dx, dy, F, M, R, Qd, g, r1, r2, hw, w⟩ := h
  unfold wMod at hw
  split at hw
  · cases r1; cases r2
    exact op_mod pins s σ H _ _ v u Q I rx ry ⟨_, _, rfl, rfl, hw.1, w.at g (.int _) hw.2⟩
  · exact hw.elim
theorem op_fdivD : OpR X (binaryOp .FloorDiv) (rD G wFdiv) := by
  intro pins s σ H x y v u Q I rx ry h
  obtain ⟨dx, dy, F, M, R, Qd, g, r1, r2, hw, w⟩ := h
  unfold wFdiv at hw
  split at hw
  · cases r1; cases r2
    exact op_fdiv pins s σ H _ _ v u Q I rx ry ⟨_, _, rfl, rfl, hw.1, w.at g (.int _) hw.2⟩
  · exact hw.elim
theorem op_powD : OpR X (binaryOp .Pow) (rD G wPow) := by
  intro pins s σ H x y v u Q I rx ry h
  obtain ⟨dx, dy, F, M, R, Qd, g, r1, r2, hw, w⟩ := h
  unfold wPow at hw
  split at hw
  · cases r1; cases r2
    exact op_pow pins s σ H _ _ v u Q I rx ry ⟨_, _, rfl, rfl, hw.1, w.at g (.int _) hw.2⟩
  · exact hw.elim
def bopO : BOp → Operator
  | .add => .Add | .sub => .Sub | .mul => .Mult | .mod => .Mod | .fdiv => .FloorDiv | .pow => .Pow
theorem op_binD (o : BOp) : OpR X (binaryOp (bopO o)) (rD G (wBin o)) := by
  cases o
  · exact op_addD C
  · exact op_subD C
  · exact op_mulD C
  · exact op_modD C
  · exact op_fdivD C
  · exact op_powD C
end
end VS
namespace VS
open PySem PySem.Spec PyProof.Rows L2
structure KdAt (X : Cx) (H : Hp) (p : Addr) (xs : List KE3) : Prop where
  at_ : H p = some (kdO X.prog X.w p xs) ∨ ∃ o, H p = some (.frz o (kdO X.prog X.w p xs))
  sm : (p == sysModules) = false
  len : xs.length ≤ sizeLine
  ks : ∀ pins σ s, Inv X pins σ H s → ∀ e ∈ xs, (nestedKind X.prog X.w).is s.heap e.1 e.2.1
def KeyAt (X : Cx) (H : Hp) (k : NestedKey) (b : Addr) : Prop := ∀ pins σ s, Inv X pins σ H s → (nestedKind X.prog X.w).is s.heap k b
section
variable {X : Cx} {pos pos' tpos : Pos} {o i e value : Expr} {td ty tv : TE}
theorem KdAt.of {H : Hp} {p : Addr} {xs : List KE3} (K : KdAt X H p xs) {pins : List (Addr × Obj)} {σ : L2.St} {s : Shared} (I : Inv X pins σ H s) : s.heap.DictOfH (nestedKind X.prog X.w) p xs := by
  have r : rawK X.prog X.w xs p s.heap := by
    rcases K.at_ with e | ⟨o, e⟩
    · exact kd_at I.hok e
    · exact (I.hok p _ e).2.1
  obtain ⟨o', es, ep, e1, e2, e3, e4, e5⟩ := r
  exact ⟨o', es, ep, e1, e2, e3, e4, K.ks pins σ s I, e5⟩
def sKputV (X : Cx) (td ty tv : TE) : TS := fun D σ H => tv σ H fun y H1 => td σ H1 fun x H2 => ty σ H2 fun z H3 => ∃ (p b : Addr) (k : NestedKey) (xs : List KE3),
  x = .ref p ∧ z = .ref b ∧ H3 p = some (kdO X.prog X.w p xs) ∧ KdAt X H3 p xs ∧ KeyAt X H3 k b ∧ ∀ u, RelV y u → D.nx σ (upd H3 p (kdO X.prog X.w p (storedH xs k b u)))
theorem ps_kputV (hu : X.A.units + 9 < cLine) (ho : PE X o td) (hi : PE X i ty) (hv : PE X value tv) (hs : swapsWith value (some (.Subscript o i pos')) pos.line X.env = pure false) :
    PS X (.Assign [.Subscript o i pos'] value pos) (sKputV X td ty tv) := by
  refine ⟨fun pins s σ H D I h => ?_⟩
  refine wpAny_Assign_Subscript (thn (hv.run pins s σ H _ I h) fun r s1 ⟨v, H1, I1, rv, q1⟩ => thn (ho.run pins s1 σ H1 _ I1 q1) fun u s2 ⟨x, H2, I2, rx, q2⟩ => thn (hi.run pins s2 σ H2 _ I2 q2) fun iv s3 ⟨y, H3, I3, ry, p, b, k, xs, ex, ey, hp, K, hk, q3⟩ => ?_) hs
  subst ex; subst ey
  obtain rfl : u = Value.ref p := rx
  obtain rfl : iv = Value.ref b := ry
  refine wpAny_setItem_heap (knd := nestedKind X.prog X.w) (xs := xs) (hsz := K.len) (by show X.A.units + 1 + 8 < cLine; omega) (hk pins σ s3 I3) (K.of I3) fun h' hm' hs' => ?_
  obtain ⟨o2, es2, ep2, f1, f2, f3, f4, _, f5⟩ := hm'
  exact ⟨σ, _, I3.write (x := p) (e := p) (o := kdO X.prog X.w p (storedH xs k b r)) (by rw [hp]; exact True.intro) (.inl rfl) (fun c u hc e => hs'.extBut c u hc e) ⟨_, f1⟩ (kd_ok ⟨o2, es2, ep2, f1, f2, f3, f4, f5⟩), q3 r rv⟩
def tKGet (X : Cx) (td ty : TE) : TE := fun σ H Q => td σ H fun x H1 => ty σ H1 fun y H2 => ∃ (p b : Addr) (k : NestedKey) (xs : List KE3) (c : Addr) (u : Value) (v : V), x = .ref p ∧ y = .ref b ∧ KdAt X H2 p xs ∧ KeyAt X H2 k b ∧ atKey xs k = some (c, u) ∧ RelV v u ∧ Q v H2
theorem pe_kget (hu : X.A.units + 9 < cLine) (ho : PE X o td) (hi : PE X i ty) (hs : NoSl i) : PE X (.Subscript o i pos) (tKGet X td ty) := by
  refine ⟨fun pins s σ H Q I h => ?_⟩
  refine subD_of PySem.F.slot_dict_getitem.lookup hs (thn (ho.run pins s σ H _ I h) fun u s1 ⟨x, H1, I1, rx, q1⟩ => thn (hi.run pins s1 σ H1 _ I1 q1) fun iv s2 ⟨y, H2, I2, ry, p, b, k, xs, c, u', v, ex, ey, K, hk, ha, rv, q2⟩ => ?_)
  subst ex; subst ey
  obtain rfl : u = Value.ref p := rx
  obtain rfl : iv = Value.ref b := ry
  exact ⟨(K.of I2).typeIs, wpAny_getItem_heap (by show X.A.units + 1 + 8 < cLine; omega) (hk pins σ s2 I2) (K.of I2) ha ⟨v, H2, I2.tok _, rv, q2⟩⟩
def rKIn (X : Cx) (n : Bool) : R2 := fun y x H Q => ∃ (p b : Addr) (k : NestedKey) (xs : List KE3), x = .ref p ∧ y = .ref b ∧ KdAt X H p xs ∧ KeyAt X H k b ∧ Q (.bl (xor n (atKey xs k).isSome)) H
theorem op_kin (hu : X.A.units + 9 < cLine) : OpR X (compareOp .In) (rKIn X false) := by
  intro pins s σ H x y v u Q I rx ry ⟨p, b, k, xs, ex, ey, K, hk, q⟩
  subst ex; subst ey
  obtain rfl : u = Value.ref p := ry
  obtain rfl : v = Value.ref b := rx
  rw [Bool.false_xor] at q
  exact wpAny_in_heap (by show X.A.units + 1 + 8 < cLine; omega) (hk pins σ s I) K.sm (K.of I) ⟨.bl (atKey xs k).isSome, H, I.tok _, rfl, q⟩
theorem op_knotin (hu : X.A.units + 9 < cLine) : OpR X (compareOp .NotIn) (rKIn X true) := by
  intro pins s σ H x y v u Q I rx ry ⟨p, b, k, xs, ex, ey, K, hk, q⟩
  subst ex; subst ey
  obtain rfl : u = Value.ref p := ry
  obtain rfl : v = Value.ref b := rx
  rw [Bool.true_xor] at q
  exact wpAny_notIn_heap (by show X.A.units + 1 + 8 < cLine; omega) (hk pins σ s I) K.sm (K.of I) ⟨.bl (!(atKey xs k).isSome), H, I.tok _, rfl, q⟩
theorem truthy_kd {prog : Program} {w : World} {knd : HeapKind prog w NestedKey} {A : Around} {E : Value → Shared → Prop} {s : Shared} {d : Addr} {xs : List KE3} {Q : Bool → Shared → Prop} (hd : (d == sysModules) = false) (hm : s.heap.DictOfH knd d xs) (hfit : (xs.length : Int) < 2 ^ 63)
    (h : Q (!xs.isEmpty) { s with toks := s.toks + 1 + 1 }) : wpAny (model prog w) A (truthy (.ref d)) Q E s := by
  have hne : ((xs.length : Int) != 0) = !xs.isEmpty := by cases xs <;> simp <;> omega
  have key : wpAny (model prog w) A (runValue (.builtin "len" ⟨[.ref d], []⟩)) (fun r s' => r = .int xs.length (s.toks + 1) ∧ Q (!xs.isEmpty) s') E s := by
    refine wpAny_runValue (codeAny_builtin entry_len ?_)
    rw [Around.under_plainId plain_len _]
    exact wpAny_mono (wpAny_len_body_dictH (knd := knd) (Q := fun r s' => r = .int xs.length (s.toks + 1) ∧ Q (!xs.isEmpty) s') hd hm hfit ⟨rfl, h⟩)
      (fun fin s' h' => by obtain ⟨r, rfl, hq⟩ := h'; exact hq) fun _ _ e => e
  unfold truthy
  first
    | refine wpAny_bind (wpAny_callSpecial?_none (name := Str.ofString "__bool__") hm.typeIs noBool_dict ?_)
    | refine wpAny_bind (wpAny_pure (wpAny_bind (wpAny_callSpecial?_none (name := Str.ofString "__bool__") hm.typeIs noBool_dict ?_)))
  first
    | refine wpAny_bind (wpAny_specialOf (name := Str.ofString "__len__") hm.typeIs PySem.F.slot_dict_len.lookup ?_)
    | refine wpAny_bind (wpAny_pure (wpAny_bind (wpAny_specialOf (name := Str.ofString "__len__") hm.typeIs PySem.F.slot_dict_len.lookup ?_)))
  first
    | exact wpAny_bind (wpAny_mono key (fun r s' h' => by obtain ⟨rfl, hq⟩ := h'; exact wpAny_pure (hne ▸ hq)) fun _ _ e => e)
    | exact wpAny_bind (wpAny_pure (wpAny_bind (wpAny_mono key (fun r s' h' => by obtain ⟨rfl, hq⟩ := h'; exact wpAny_pure (hne ▸ hq)) fun _ _ e => e)))
def TruK (X : Cx) (x : V) (H : Hp) (k : Bool) : Prop := ∃ a xs, x = .ref a ∧ KdAt X H a xs ∧ k = !xs.isEmpty
theorem tru_kd : TruR X (fun x H Q => ∃ k, (TruV X.K x H k ∨ TruK X x H k) ∧ Q k H) := by
  intro pins s σ H x v Q I rx h
  obtain ⟨k, e, q⟩ := h
  rcases e with e | ⟨a, xs, rfl, KD, rfl⟩
  · exact tru_ok pins s σ H x v Q I rx ⟨k, e, q⟩
  · obtain rfl : v = Value.ref a := rx
    have hl := line63
    have hx := KD.len
    exact truthy_kd (knd := nestedKind X.prog X.w) KD.sm (KD.of I) (by omega) ⟨H, I.tok _, q⟩
theorem call_kget {pins : List (Addr × Obj)} {σ : L2.St} {H : Hp} {s : Shared} {p b : Addr} {k : NestedKey} {xs : List KE3} {A : Around} {E : Value → Shared → Prop} {Q : Value → Shared → Prop} (hu : A.units + 9 < cLine) (I : Inv X pins σ H s) (K : KdAt X H p xs) (hk : KeyAt X H k b) {v : V}
    (hv : ∀ u, ((atKey xs k).map (·.2)).getD .none = u → RelV v u) (h : ∀ w' s', Inv X pins σ H s' → RelV v w' → Q w' s') : wpAny (model X.prog X.w) A (call (.builtin "dict.get") [.ref p, .ref b]) Q E s :=
  call_meetsIn PySem.F.slot_dict_get (K.of I).typeIs PySem.F.entry_dict_get (PySem.F.args_dict_get_2 _ _) (meetsH_dict_get (nestedKind X.prog X.w) p b K.sm) ⟨by show A.units + 1 + 8 < cLine; omega, k, xs, hk pins σ s I, K.of I, h _ _ (I.tok _) (hv _ rfl)⟩
end
section
variable {G : Glob} {X : Cx} {pins : List (Addr × Obj)} {σ : L2.St} {H F : Hp} {s : Shared}
theorem rp_tup {G : Glob} {F : Hp} {v : V} {ds : List D} (r : Rp G F v (.tup ds)) : ∃ a vs, v = .ref a ∧ SqT G.K F a vs ∧ RpL G F vs ds := by
  cases r with
  | tup ha rl => exact ⟨_, _, rfl, ha, rl⟩
theorem nested_tup (I : Inv X pins σ H s) (hK : X.K = G.K) (e : Ex F H) {v : V} {u : Value} {ds : List D} {ks : List NestedKey} (r : Rp G F v (.tup ds)) (ru : RelV v u) (hall : ∀ vs its, RpL G F vs ds → Vals vs its → NestedAll s.heap ks its) : NestedIs s.heap (.tup ks) u := by
  obtain ⟨a, vs, rfl, h1, h2⟩ := rp_tup r
  obtain rfl : u = Value.ref a := ru
  obtain ⟨its, r', ⟨o, ho, hc, n, hd⟩, _⟩ := I.tuple (by rw [hK]; exact e.t h1)
  exact .tup ho hc hd (by simpa using hall vs its h2 r')
mutual
theorem nested_D (I : Inv X pins σ H s) (hK : X.K = G.K) (e : Ex F H) : ∀ (d : D) (v : V) (u : Value) (k : NestedKey), Rp G F v d → RelV v u → nkD d = some k → NestedIs s.heap k u
  | .non, v, u, k, r, ru, h => by
    rw [nkD] at h; cases h; cases r
    obtain rfl : u = Value.none := ru
    exact .none
  | .bl b, v, u, k, r, ru, h => by
    rw [nkD] at h; cases h; cases r
    obtain rfl : u = Value.bool b := ru
    exact .bool rfl
  | .int i, v, u, k, r, ru, h => by
    rw [nkD] at h; cases h; cases r
    obtain ⟨t, rfl⟩ := ru
    exact .int _ _
  | .str x, v, u, k, r, ru, h => by
    rw [nkD] at h; cases h; cases r
    obtain ⟨t, rfl⟩ := ru
    exact .text _ _
  | .tup xs, v, u, k, r, ru, h => by
    rw [nkD] at h
    obtain ⟨ks, hk, rfl⟩ := Option.map_eq_some_iff.mp h
    exact nested_tup I hK e r ru fun vs its h1 h2 => nested_Ds I hK e xs vs its ks h1 h2 hk
  | .lst _, _, _, _, _, _, h => by simp [nkD] at h
  | .dic _, _, _, _, _, _, h => by simp [nkD] at h
  | .inst _ _, _, _, _, _, _, h => by simp [nkD] at h
  | .rng _ _, _, _, _, _, _, h => by simp [nkD] at h
  | .ptr _, _, _, _, _, _, h => by simp [nkD] at h
  | .scr _, _, _, _, _, _, h => by simp [nkD] at h
  | .tab _, _, _, _, _, _, h => by simp [nkD] at h
  | .kdf _, _, _, _, _, _, h => by simp [nkD] at h
  | .dicF _, _, _, _, _, _, h => by simp [nkD] at h
theorem nested_Ds (I : Inv X pins σ H s) (hK : X.K = G.K) (e : Ex F H) : ∀ (ds : List D) (vs : List V) (its : List Value) (ks : List NestedKey), RpL G F vs ds → Vals vs its → nkDs ds = some ks → NestedAll s.heap ks its
  | [], vs, its, ks, r, ru, h => by
    rw [nkDs] at h; cases h; cases r; cases ru
    exact .nil
  | d :: ds, vs, its, ks, r, ru, h => by
    rw [nkDs] at h
    cases h1 : nkD d with
    | none => rw [h1] at h; simp at h
    | some k =>
      cases h2 : nkDs ds with
      | none => rw [h1, h2] at h; simp at h
      | some ks' =>
        rw [h1, h2] at h
        cases h
        cases r with
        | cons ra rr =>
          cases ru with
          | cons ua ur => exact .cons (nested_D I hK e d _ _ k ra ua h1) (nested_Ds I hK e ds _ _ ks' rr ur h2)
end
theorem RpKD.len : ∀ {xs : List KE3} {kvs : List (D × D)}, RpKD G F xs kvs → xs.length = kvs.length
  | _, _, .nil => rfl
  | _, _, .cons _ _ _ _ _ r => congrArg (· + 1) r.len
theorem atKey_cons {k k' : NestedKey} {b : Addr} {u : Value} {xs : List KE3} : atKey ((k', b, u) :: xs) k = if k' = k then some (b, u) else atKey xs k := by
  unfold atKey
  rw [List.find?_cons]
  by_cases h : k' = k
  · rw [if_pos h]; simp [h]
  · rw [if_neg h]; simp [h]
theorem RpKD.at_ {k : NestedKey} : ∀ {xs : List KE3} {kvs : List (D × D)}, RpKD G F xs kvs → (lookK k kvs = none ∧ atKey xs k = none) ∨ ∃ d c u v, lookK k kvs = some d ∧ atKey xs k = some (c, u) ∧ RelV v u ∧ Rp G F v d
  | _, _, .nil => .inl ⟨rfl, rfl⟩
  | _, _, .cons (k := k') (kd := kd) (d := d) a _ _ x y r => by
    rw [atKey_cons]
    show ((if nkD kd = some k then some d else lookK k _) = none ∧ _) ∨ ∃ d' c u v, (if nkD kd = some k then some d else lookK k _) = some d' ∧ _
    rw [a]
    by_cases h : k' = k
    · subst h
      rw [if_pos rfl, if_pos rfl]
      exact .inr ⟨_, _, _, _, rfl, rfl, x, y⟩
    · rw [if_neg h, if_neg (fun z => h (Option.some.inj z))]
      exact r.at_
theorem RpKD.isSome {k : NestedKey} {xs : List KE3} {kvs : List (D × D)} (r : RpKD G F xs kvs) : (atKey xs k).isSome = (lookK k kvs).isSome := by
  rcases r.at_ (k := k) with ⟨h1, h2⟩ | ⟨d, c, u, v, h1, h2, _⟩
  · rw [h1, h2]; rfl
  · rw [h1, h2]; rfl
theorem RpKD.map {k : NestedKey} {u : Value} {v : V} {d : D} (ru : RelV v u) (rv : Rp G F v d) : ∀ {xs : List KE3} {kvs : List (D × D)}, RpKD G F xs kvs → RpKD G F (xs.map (putAt k u)) (kvs.map fun e => if nkD e.1 = some k then (e.1, d) else e)
  | _, _, .nil => .nil
  | _, _, .cons (k := k') (b := b) (u := u') (kd := kd) (d := d') a bb c x y r => by
    rw [List.map_cons, List.map_cons]
    by_cases h : k' = k
    · subst h
      rw [show putAt k' u (k', b, u') = (k', b, u) by unfold putAt; rw [if_pos rfl], if_pos a]
      exact .cons a bb c ru rv (r.map ru rv)
    · rw [show putAt k u (k', b, u') = (k', b, u') by unfold putAt; rw [if_neg h], if_neg (fun z => h (Option.some.inj (a.symm.trans z)))]
      exact .cons a bb c x y (r.map ru rv)
theorem RpKD.snoc {k : NestedKey} {b : Addr} {u : Value} {v : V} {kd d : D} (a : nkD kd = some k) (h8 : k.depth ≤ 8) (c : Rp G F (.ref b) kd) (ru : RelV v u) (rv : Rp G F v d) : ∀ {xs : List KE3} {kvs : List (D × D)}, RpKD G F xs kvs → RpKD G F (xs ++ [(k, b, u)]) (kvs ++ [(kd, d)])
  | _, _, .nil => .cons a h8 c ru rv .nil
  | _, _, .cons a' b' c' x y r => .cons a' b' c' x y (r.snoc a h8 c ru rv)
theorem RpKD.put {k : NestedKey} {b : Addr} {u : Value} {v : V} {kd d : D} {xs : List KE3} {kvs : List (D × D)} (r : RpKD G F xs kvs) (a : nkD kd = some k) (h8 : k.depth ≤ 8) (c : Rp G F (.ref b) kd) (ru : RelV v u) (rv : Rp G F v d) : RpKD G F (storedH xs k b u) (putKD k kd d kvs) := by
  unfold storedH putKD
  rw [r.isSome]
  split
  · exact r.map ru rv
  · exact r.snoc a h8 c ru rv
theorem KeyAt.of_rp {b : Addr} {kd : D} {k : NestedKey} (hK : X.K = G.K) (e : Ex F H) (r : Rp G F (.ref b) kd) (a : nkD kd = some k) (h8 : k.depth ≤ 8) : KeyAt X H k b := fun pins σ s I => ⟨nested_D I hK e kd _ _ k r rfl a, h8⟩
theorem RpKD.keys (hK : X.K = G.K) (e : Ex F H) : ∀ {xs : List KE3} {kvs : List (D × D)}, RpKD G F xs kvs → ∀ pins σ s, Inv X pins σ H s → ∀ y ∈ xs, (nestedKind X.prog X.w).is s.heap y.1 y.2.1
  | _, _, .nil, _, _, _, _, _, h => by cases h
  | _, _, .cons a b c _ _ r, pins, σ, s, I, y, h => by
    rcases List.mem_cons.mp h with z | z
    · subst z; exact KeyAt.of_rp hK e c a b pins σ s I
    · exact r.keys hK e pins σ s I y z
end
theorem kd_of {G : Glob} {X : Cx} {R F H : Hp} {M : Store} {p : Addr} {kvs : List (D × D)} (g : CtxG G X) (gd : Good G R F H M) (h : M p = some (.kdic p kvs)) (hl : kvs.length ≤ 1000000) : ∃ xs, H p = some (kdO X.prog X.w p xs) ∧ KdAt X H p xs ∧ RpKD G F xs kvs := by
  obtain ⟨_, ho, e, rm⟩ := gd.mt p _ h
  cases rm with
  | @kdic _ xs _ sm r =>
    have ll : sizeLine = 16777216 := line_eq
    have e' : H p = some (kdO X.prog X.w p xs) := by rw [g.prog, g.w]; exact e
    exact ⟨xs, e', ⟨.inl e', sm, by rw [r.len]; omega, r.keys g.K gd.ex⟩, r⟩
theorem key_of {G : Glob} {X : Cx} {R F H : Hp} {M : Store} {v : V} {kd : D} {k : NestedKey} (g : CtxG G X) (gd : Good G R F H M) (r : Rp G F v kd) (h : isKey kd k) : ∃ b, v = .ref b ∧ KeyAt X H k b := by
  obtain ⟨h1, h2, xs, rfl⟩ := h
  obtain ⟨b, vs, rfl, _, _⟩ := rp_tup r
  exact ⟨b, rfl, KeyAt.of_rp g.K gd.ex r h1 h2⟩
theorem asK_ptr {M : Store} {p : Addr} {kvs : List (D × D)} (h : asK M (.ptr p) = some kvs) : M p = some (.kdic p kvs) := by
  have h : (match M p with | some (.kdic a kvs) => if a = p then some kvs else none | _ => none) = some kvs := h
  cases e : M p with
  | none => rw [e] at h; cases h
  | some mo =>
    rw [e] at h
    cases mo with
    | kdic a ks =>
      dsimp only at h
      by_cases ha : a = p
      · rw [if_pos ha] at h
        cases h
        subst ha
        rfl
      · rw [if_neg ha] at h; cases h
    | lst _ => cases h
    | dic _ => cases h
    | inst _ _ => cases h
    | ndic _ => cases h
    | memo _ _ _ _ => cases h
theorem asK_at {M : Store} {p : Addr} {kvs : List (D × D)} (h : M p = some (.kdic p kvs)) : asK M (.ptr p) = some kvs := by
  show (match M p with | some (.kdic a kvs) => if a = p then some kvs else none | _ => none) = _
  rw [h]
  exact if_pos rfl
theorem asK_kdf {M : Store} {kvs : List (D × D)} (h : nonD kvs = false) : asK M (.kdf kvs) = some kvs := by
  show (if nonD kvs = true then none else some kvs) = _
  rw [h]; rfl
theorem kdx_of {G : Glob} {X : Cx} {R F H : Hp} {M : Store} {v : V} {x : D} {kvs : List (D × D)} (g : CtxG G X) (gd : Good G R F H M) (rv : Rp G F v x) (h : asK M x = some kvs) (hl : kvs.length ≤ 1000000) : ∃ p xs, v = .ref p ∧ KdAt X H p xs ∧ RpKD G F xs kvs := by
  cases x with
  | ptr q =>
    cases rv
    obtain ⟨xs, _, h1, h2⟩ := kd_of g gd (asK_ptr h) hl
    exact ⟨q, xs, rfl, h1, h2⟩
  | kdf l =>
    have h : (if nonD l = true then none else some l) = some kvs := h
    split at h
    · cases h
    · rename_i hn
      cases h
      cases rv with
      | @kdf a o xs _ e sm r =>
        have ll : sizeLine = 16777216 := line_eq
        have e' : H a = some (.frz o (kdO X.prog X.w a xs)) := by rw [g.prog, g.w]; exact gd.ex _ _ e
        exact ⟨a, xs, rfl, ⟨.inr ⟨o, e'⟩, sm, by rw [r.len]; omega, r.keys g.K gd.ex⟩, r⟩
      | kdN e sm => exact absurd rfl hn
  | _ => cases h
theorem nodup_le {α : Type} [DecidableEq α] : ∀ {l m : List α}, l.Nodup → (∀ x ∈ l, x ∈ m) → l.length ≤ m.length
  | [], m, _, _ => Nat.zero_le _
  | a :: l, m, hn, hs => by
    obtain ⟨h1, h2⟩ := List.nodup_cons.mp hn
    have hm : a ∈ m := hs a (List.mem_cons_self ..)
    have := nodup_le (l := l) (m := m.erase a) h2 fun x hx => by
      have hne : x ≠ a := fun z => h1 (z ▸ hx)
      exact (List.mem_erase_of_ne hne).mpr (hs x (List.mem_cons_of_mem _ hx))
    have e := List.length_erase_of_mem hm
    have : 0 < m.length := List.length_pos_of_mem hm
    rw [List.length_cons]
    omega
theorem RpKD.mem {G : Glob} {F : Hp} : ∀ {xs : List KE3} {kvs : List (D × D)}, RpKD G F xs kvs → ∀ x ∈ xs, (lookK x.1 kvs).isSome = true
  | _, _, .nil, x, h => by cases h
  | _, _, .cons (k := k) (kd := kd) (d := d) a _ _ _ _ r, x, h => by
    show (if nkD kd = some x.1 then some d else lookK x.1 _).isSome = true
    rcases List.mem_cons.mp h with z | z
    · subst z; rw [if_pos a]; rfl
    · split
      · rfl
      · exact r.mem x z
theorem memo_of {G : Glob} {X : Cx} {R F H : Hp} {M : Store} {p : Addr} {dom : List NestedKey} {P : NestedKey → D → Prop} {ks : List NestedKey} (g : CtxG G X) (gd : Good G R F H M) (h : M p = some (.memo p dom P ks)) :
    ∃ xs kvs, H p = some (kdO X.prog X.w p xs) ∧ KdAt X H p xs ∧ RpKD G F xs kvs ∧ (p == sysModules) = false ∧ dom.length ≤ 16000000 ∧ (xs.map (·.1)).Nodup ∧ (∀ k d, lookK k kvs = some d → k ∈ dom ∧ P k d) ∧ ∀ k ∈ ks, (lookK k kvs).isSome = true := by
  obtain ⟨_, ho, e, rm⟩ := gd.mt p _ h
  cases rm with
  | @memo _ xs kvs _ _ _ sm dl nd r hp hk =>
    have ll : sizeLine = 16777216 := line_eq
    have e' : H p = some (kdO X.prog X.w p xs) := by rw [g.prog, g.w]; exact e
    have hl : xs.length ≤ dom.length := by
      have := nodup_le (l := xs.map (·.1)) (m := dom) nd fun k hk => by
        obtain ⟨x, hx, rfl⟩ := List.mem_map.mp hk
        obtain ⟨d, hd⟩ := Option.isSome_iff_exists.mp (r.mem x hx)
        exact (hp _ _ hd).1
      rw [List.length_map] at this
      exact this
    exact ⟨xs, kvs, e', ⟨.inl e', sm, by omega, r.keys g.K gd.ex⟩, r, sm, dl, nd, hp, hk⟩
theorem asMemo_of {M : Store} {d : D} {p : Addr} {dom : List NestedKey} {P : NestedKey → D → Prop} {ks : List NestedKey} (h : asMemo M d = some (p, dom, P, ks)) : d = .ptr p ∧ M p = some (.memo p dom P ks) := by
  cases d with
  | ptr q =>
    have h : (match M q with | some (.memo a dom P ks) => if a = q then some (q, dom, P, ks) else none | _ => none) = some (p, dom, P, ks) := h
    cases e : M q with
    | none => rw [e] at h; cases h
    | some mo =>
      rw [e] at h
      cases mo with
      | memo a dom' P' ks' =>
        dsimp only at h
        by_cases ha : a = q
        · rw [if_pos ha] at h
          cases h
          subst ha
          exact ⟨rfl, e⟩
        · rw [if_neg ha] at h; cases h
      | lst _ => cases h
      | dic _ => cases h
      | inst _ _ => cases h
      | ndic _ => cases h
      | kdic _ _ => cases h
  | _ => cases h
theorem asMemo_at {M : Store} {p : Addr} {dom : List NestedKey} {P : NestedKey → D → Prop} {ks : List NestedKey} (h : M p = some (.memo p dom P ks)) : asMemo M (.ptr p) = some (p, dom, P, ks) := by
  show (match M p with | some (.memo a dom P ks) => if a = p then some (p, dom, P, ks) else none | _ => none) = _
  rw [h]
  exact if_pos rfl
theorem Good.memo {G : Glob} {R F H : Hp} {M : Store} {p : Addr} {dom : List NestedKey} {P : NestedKey → D → Prop} {ks ks' : List NestedKey} {xs : List KE3} (gd : Good G R F H M) (h : M p = some (.memo p dom P ks)) (e : H p = some (kdO G.prog G.w p xs)) (r : RpM G F (kdO G.prog G.w p xs) (.memo p dom P ks')) : Good G R F H (M.put p (.memo p dom P ks')) := by
  have w := gd.write h r
  have z : upd H p (kdO G.prog G.w p xs) = H := by
    funext a
    unfold upd
    split
    · rename_i q; rw [q]; exact e.symm
    · rfl
  rw [z] at w
  exact w
end VS
namespace VS
open PySem PySem.Spec PyProof.Rows L2
theorem canLayAll_of : ∀ {ys : List D}, (ys.all fun y => SeqAt.shaped (py y)) = true → PyData.canLayAll0 (pyL ys) = true
  | [], _ => rfl
  | y :: ys, h => by
    rw [List.all_cons, Bool.and_eq_true] at h
    simp only [pyL, PyData.canLayAll0, Bool.and_eq_true]
    exact ⟨SeqAt.canLay_of_shaped h.1, canLayAll_of h.2⟩
theorem any_py {d : PyData} : ∀ ys : List D, (pyL ys).any (fun z => PyData.eqv z d) = ys.any fun y => PyData.eqv (py y) d
  | [] => rfl
  | y :: ys => by rw [pyL, List.any_cons, List.any_cons, any_py ys]
section
variable {G : Glob} {R F F' H H' : Hp} {M : Store} {v u : V} {d x y : D} {xs : List D} {Qd : DK} {Q : VK}
theorem dpL_at (g : Good G R F H M) {vs : List V} (r : RpL G F vs xs) (s : (xs.all fun y => SeqAt.shaped (py y)) = true) : DpAll G.K H vs (pyL xs) := dpL_of (r.mono g.ex) (canLayAll_of s)
end
section
variable {G : Glob} {X : Cx} (C : CtxG G X)
include C
theorem dec_str (s t : String) : decide (V.str (Str.ofString s) = V.str (Str.ofString t)) = decide (s = t) := by
  by_cases h : s = t
  · subst h; simp
  · have h' : ¬ V.str (Str.ofString s) = V.str (Str.ofString t) := fun e => h (ofString_inj.mp (V.str.inj e))
    rw [decide_eq_false h, decide_eq_false h']
theorem dec_int (i j : Int) : decide (V.int i = V.int j) = decide (i = j) := by
  by_cases h : i = j
  · subst h; simp
  · have h' : ¬ V.int i = V.int j := fun e => h (V.int.inj e)
    rw [decide_eq_false h, decide_eq_false h']
theorem dec_bl (i j : Bool) : decide (V.bl i = V.bl j) = decide (i = j) := by
  by_cases h : i = j
  · subst h; simp
  · have h' : ¬ V.bl i = V.bl j := fun e => h (V.bl.inj e)
    rw [decide_eq_false h, decide_eq_false h']
theorem op_eqq (neg : Bool) : OpR X (compareOp (if neg then .NotEq else .Eq)) (rD G fun x y M Q => wEqB x y fun b => Q (.bl (if neg then !b else b)) M) := by
  intro pins s σ H x y v u Q I rx ry h
  obtain ⟨dx, dy, F, M, R, Qd, g, r1, r2, hw, w⟩ := h
  have fin : ∀ (b : Bool), scal x y = true → decide (x = y) = b → Qd (.bl (if neg then !b else b)) M → wpAny (model X.prog X.w) X.A (compareOp (if neg then .NotEq else .Eq) v u) (EP X pins σ Q) X.xe s := fun b e1 e2 q => by
    cases neg
    · exact op_eq pins s σ H _ _ v u Q I rx ry ⟨e1, by rw [e2]; exact w.at g (.bl _) q⟩
    · exact op_ne pins s σ H _ _ v u Q I rx ry ⟨e1, by rw [e2]; exact w.at g (.bl _) q⟩
  unfold wEqB at hw
  split at hw
  · cases r1; cases r2; exact fin _ rfl (dec_int C _ _) hw
  · cases r1; cases r2; exact fin _ rfl (dec_str C _ _) hw
  · cases r1; cases r2; exact fin _ rfl (dec_bl C _ _) hw
  · cases r1; cases r2; exact fin true rfl (by simp) hw
  · cases r1; cases r2; exact fin false rfl (by simp) hw
  · cases r1; cases r2; exact fin false rfl (by simp) hw
  · cases r1; cases r2; exact fin false rfl (by simp) hw
  · cases r1; cases r2; exact fin false rfl (by simp) hw
  · cases r1; cases r2; exact fin false rfl (by simp) hw
  · cases r1; cases r2; exact fin false rfl (by simp) hw
  · obtain ⟨s1, s2, q⟩ := hw
    have d1 : Dp X.K H x (py dx) := by rw [C.K]; exact dp_at g r1 s1
    have d2 : Dp X.K H y (py dy) := by rw [C.K]; exact dp_at g r2 s2
    have hu : X.A.units + 64 < cLine := Nat.lt_trans (Nat.lt_succ_self _) C.un
    cases neg
    · exact op_eqD hu pins s σ H _ _ v u Q I rx ry ⟨_, _, d1, d2, s1, s2, w.at g (.bl _) q⟩
    · exact op_neD hu pins s σ H _ _ v u Q I rx ry ⟨_, _, d1, d2, s1, s2, w.at g (.bl _) q⟩
theorem op_cmpI {op : CmpOp} {f : Int → Int → Bool} {k : String → String → Bool} (hi : OpR X (compareOp op) (rI0 fun i j => .bl (f i j)))
    (hs : OpR X (compareOp op) (fun x y H Q => ∃ s t, x = .str (Str.ofString s) ∧ y = .str (Str.ofString t) ∧ Q (.bl (k s t)) H)) : OpR X (compareOp op) (rD G (wCmpI f k)) := by
  intro pins s σ H x y v u Q I rx ry h
  obtain ⟨dx, dy, F, M, R, Qd, g, r1, r2, hw, w⟩ := h
  unfold wCmpI at hw
  split at hw
  · cases r1; cases r2
    exact hi pins s σ H _ _ v u Q I rx ry ⟨_, _, rfl, rfl, w.at g (.bl _) hw⟩
  · cases r1; cases r2
    exact hs pins s σ H _ _ v u Q I rx ry ⟨_, _, rfl, rfl, w.at g (.bl _) hw⟩
  · exact hw.elim
theorem op_ltD : OpR X (compareOp .Lt) (rD G (wCmp .lt)) := op_cmpI C op_lt fun pins s σ H x y v u Q I rx ry h => by
  obtain ⟨a, b, e1, e2, q⟩ := h
  exact op_lt_str pins s σ H x y v u Q I rx ry ⟨_, _, e1, e2, q⟩
theorem op_leD : OpR X (compareOp .LtE) (rD G (wCmp .le)) := op_cmpI C op_le fun pins s σ H x y v u Q I rx ry h => by
  obtain ⟨a, b, e1, e2, q⟩ := h
  exact op_le_str pins s σ H x y v u Q I rx ry ⟨_, _, e1, e2, q⟩
theorem op_gtD : OpR X (compareOp .Gt) (rD G (wCmp .gt)) := op_cmpI C op_gt fun pins s σ H x y v u Q I rx ry h => by
  obtain ⟨a, b, e1, e2, q⟩ := h
  exact op_gt_str pins s σ H x y v u Q I rx ry ⟨_, _, e1, e2, q⟩
theorem op_geD : OpR X (compareOp .GtE) (rD G (wCmp .ge)) := op_cmpI C op_ge fun pins s σ H x y v u Q I rx ry h => by
  obtain ⟨a, b, e1, e2, q⟩ := h
  exact op_ge_str pins s σ H x y v u Q I rx ry ⟨_, _, e1, e2, q⟩
theorem isNon_dec {G : Glob} {F : Hp} {v : V} {d : D} (r : Rp G F v d) : decide (v = .non) = isNon d := by
  cases r <;> simp [isNon]
theorem op_isD : OpR X (compareOp .Is) (rD G (wCmp .is_)) := by
  intro pins s σ H x y v u Q I rx ry h
  obtain ⟨dx, dy, F, M, R, Qd, g, r1, r2, hw, w⟩ := h
  cases r2 with
  | non =>
    have hw' : Qd (.bl (isNon dx)) M := hw
    exact op_isN pins s σ H _ _ v u Q I rx ry ⟨rfl, by rw [isNon_dec C r1]; exact w.at g (.bl _) hw'⟩
  | _ => exact (show False from hw).elim
theorem op_isnD : OpR X (compareOp .IsNot) (rD G (wCmp .isn)) := by
  intro pins s σ H x y v u Q I rx ry h
  obtain ⟨dx, dy, F, M, R, Qd, g, r1, r2, hw, w⟩ := h
  cases r2 with
  | non =>
    have hw' : Qd (.bl (!isNon dx)) M := hw
    exact op_notN pins s σ H _ _ v u Q I rx ry ⟨rfl, by rw [isNon_dec C r1]; exact w.at g (.bl _) hw'⟩
  | _ => exact (show False from hw).elim
theorem single_cps (a : Char) : Str.ofString (String.singleton a) = ⟨#[a.toNat]⟩ := by
  refine Str.ext' ?_
  rw [ofString_cps]
  simp
theorem keyOf_rp {G : Glob} {F : Hp} {v : V} {d : D} {k : Key} (r : Rp G F v d) (h : keyOf d = some k) : v = kV k := by
  cases r <;> cases h <;> rfl
theorem valV_rp {G : Glob} {F : Hp} {k : Key} {kd : D} (hk : keyOf kd = some k) : ∀ {vs : List (Key × V)} {ds : List (D × D)}, RpD G F vs ds →
    (∃ v d, valV vs k = some v ∧ lookD kd ds = some d ∧ Rp G F v d) ∨ (valV vs k = none ∧ lookD kd ds = none)
  | _, _, .nil => .inr ⟨rfl, rfl⟩
  | _, _, .cons (k := k') (kd := kd') hk' hr r => by
    unfold lookD
    by_cases e : k' = k
    · subst e
      rw [if_pos (hk'.trans hk.symm)]
      exact .inl ⟨_, _, valV_pos rfl, rfl, hr⟩
    · rw [if_neg (fun q => e (Option.some.inj (hk'.symm.trans (q.trans hk)))), valV_neg e]
      exact valV_rp hk r
theorem op_inq (neg : Bool) : OpR X (compareOp (if neg then .NotIn else .In)) (rD G fun x y M Q => wInB x y M fun b => Q (.bl (if neg then !b else b)) M) := by
  intro pins s σ H x y v u Q I rx ry h
  obtain ⟨dx, dy, F, M, R, Qd, g, r1, r2, hw, w⟩ := h
  unfold wInB at hw
  split at hw
  · rename_i c t
    obtain ⟨a, rfl, q⟩ := hw
    cases r1; cases r2
    have e1 : decide (a.toNat ∈ (Str.ofString t).cps.toList) = decide (a ∈ t.toList) := by
      rw [ofString_cps]
      by_cases h : a ∈ t.toList
      · rw [decide_eq_true h, decide_eq_true (List.mem_map_of_mem h)]
      · rw [decide_eq_false h, decide_eq_false]
        intro h2
        obtain ⟨b, hb, e⟩ := List.mem_map.mp h2
        rw [toNat_inj e] at hb
        exact h hb
    cases neg
    · exact op_in_sign pins s σ H _ _ v u Q I rx ry ⟨_, _, by rw [single_cps C], rfl, by rw [e1]; exact w.at g (.bl _) q⟩
    · exact op_notIn_sign pins s σ H _ _ v u Q I rx ry ⟨_, _, by rw [single_cps C], rfl, by rw [e1]; exact w.at g (.bl _) q⟩
  · rename_i s' l
    cases r1
    cases r2 with
    | tab h =>
      obtain ⟨es, n, D, te⟩ := h
      rw [← C.K, ← C.w] at D
      obtain ⟨r, e1, e2⟩ := tab_in (s := s') D.at_ te
      have e3 : r.isSome = (lookT s' l).isSome := by
        rcases e2 with ⟨z, rfl⟩ | ⟨v', t, z, rfl⟩ <;> rw [z] <;> rfl
      cases neg
      · exact op_in_kd D pins s σ H _ _ v u Q I rx ry ⟨_, r, rfl, rfl, e1, by rw [e3]; exact w.at g (.bl _) hw⟩
      · exact op_notIn_kd D pins s σ H _ _ v u Q I rx ry ⟨_, r, rfl, rfl, e1, by rw [e3]; exact w.at g (.bl _) hw⟩
  · split at hw
    · rename_i ys e
      obtain ⟨s1, s2, q⟩ := hw
      have d1 : Dp X.K H x (py dx) := by rw [C.K]; exact dp_at g r1 s1
      obtain ⟨a, vs, rfl, ha, rl⟩ := asS_rp g r2 e
      have dl : DpAll X.K H vs (pyL ys) := by rw [C.K]; exact dpL_at g rl s2
      obtain ⟨as, q1⟩ := Dp.reads I _ x v d1 rx
      have room := room_in_shaped (A := X.A) (xs := pyL ys) s1 C.un
      have cl := SeqAt.canLay_of_shaped s1
      have ca := canLayAll_of s2
      rw [← any_py] at q
      rcases ha with ha | ha
      · obtain ⟨bs, q2⟩ := Dp.reads I (.list (pyL ys)) _ u (.lst (by rw [C.K]; exact ha) dl) ry
        cases neg
        · exact SeqAt.in_list_reads q2 q1 ca cl room ⟨.bl _, H, I, rfl, w.at g (.bl _) q⟩
        · exact SeqAt.notIn_list_reads q2 q1 ca cl room ⟨.bl _, H, I, rfl, w.at g (.bl _) q⟩
      · obtain ⟨bs, q2⟩ := Dp.reads I (.tuple (pyL ys)) _ u (.tup (by rw [C.K]; exact ha) dl) ry
        cases neg
        · exact SeqAt.in_tuple_reads q2 q1 ca cl room ⟨.bl _, H, I, rfl, w.at g (.bl _) q⟩
        · exact SeqAt.notIn_tuple_reads q2 q1 ca cl room ⟨.bl _, H, I, rfl, w.at g (.bl _) q⟩
    · split at hw
      · rename_i kvs e
        obtain ⟨hk, q⟩ := hw
        obtain ⟨k, hk⟩ := Option.isSome_iff_exists.mp hk
        obtain ⟨a, vs, rfl, ha, rd⟩ := asD_rp g r2 e
        have ex := keyOf_rp C r1 hk
        subst ex
        cases (show u = Value.ref a from ry)
        have hu : X.A.units + 1 < cLine := Nat.lt_of_le_of_lt (Nat.add_le_add_left (by decide) _) C.un
        have hs : (valV vs k).isSome = (lookD dx kvs).isSome := by
          rcases valV_rp C hk rd with ⟨v', d', e1, e2, _⟩ | ⟨e1, e2⟩ <;> rw [e1, e2] <;> rfl
        cases neg
        · refine d_in hu I (DGet.k (k := k) ha) rx fun s' I' => ⟨.bl _, H, I', rfl, ?_⟩
          rw [hs]; exact w.at g (.bl _) q
        · refine d_notIn hu I (DGet.k (k := k) ha) rx fun s' I' => ⟨.bl _, H, I', rfl, ?_⟩
          rw [hs]; exact w.at g (.bl _) q
      · split at hw
        · rename_i kvs e
          obtain ⟨hl, k, hk, q⟩ := hw
          obtain ⟨p, xs, ep, KD, rk⟩ := kdx_of C g r2 e hl
          obtain ⟨b, eb, kat⟩ := key_of C g r1 hk
          have un : X.A.units + 9 < cLine := by have := C.un; omega
          have hs : (atKey xs k).isSome = (lookK k kvs).isSome := rk.isSome
          cases neg
          · exact op_kin un pins s σ H _ _ v u Q I rx ry ⟨p, b, k, xs, ep, eb, KD, kat, by rw [Bool.false_xor, hs]; exact w.at g (.bl _) q⟩
          · exact op_knotin un pins s σ H _ _ v u Q I rx ry ⟨p, b, k, xs, ep, eb, KD, kat, by rw [Bool.true_xor, hs]; exact w.at g (.bl _) q⟩
        · exact hw.elim
theorem op_inm (neg : Bool) : OpR X (compareOp (if neg then .NotIn else .In)) (rD G fun x y M Q => wInM x y M fun b M' => Q (.bl (if neg then !b else b)) M') := by
  intro pins s σ H x y v u Q I rx ry h
  obtain ⟨dx, dy, F, M, R, Qd, g, r1, r2, hw, w⟩ := h
  unfold wInM at hw
  split at hw
  · rename_i p dom P ks e
    obtain ⟨k, hk, q1, q2⟩ := hw
    obtain ⟨rfl, hM⟩ := asMemo_of e
    obtain ⟨xs, kvs, hp, KD, rk, sm, dl, nd, hP, hks⟩ := memo_of C g hM
    obtain ⟨b, eb, kat⟩ := key_of C g r1 hk
    have un : X.A.units + 9 < cLine := by have := C.un; omega
    have hp' : H p = some (kdO G.prog G.w p xs) := by rw [← C.prog, ← C.w]; exact hp
    have hs : (atKey xs k).isSome = (lookK k kvs).isSome := rk.isSome
    have fin : Q (.bl (if neg then !(lookK k kvs).isSome else (lookK k kvs).isSome)) H := by
      cases hl : (lookK k kvs).isSome with
      | true =>
        have g2 := g.memo hM hp' (.memo (ks := k :: ks) sm dl nd rk hP fun k' hk' => by
          rcases List.mem_cons.mp hk' with z | z
          · rw [z]; exact hl
          · exact hks k' z)
        exact w _ _ _ F H q1 (Ex.refl F) g2 (.bl _)
      | false => exact w _ _ _ F H q2 (Ex.refl F) g (.bl _)
    have ey : y = .ref p := by cases r2; rfl
    cases neg
    · exact op_kin un pins s σ H _ _ v u Q I rx ry ⟨p, b, k, xs, ey, eb, KD, kat, by rw [Bool.false_xor, hs]; exact fin⟩
    · exact op_knotin un pins s σ H _ _ v u Q I rx ry ⟨p, b, k, xs, ey, eb, KD, kat, by rw [Bool.true_xor, hs]; exact fin⟩
  · exact op_inq C neg pins s σ H x y v u Q I rx ry ⟨dx, dy, F, M, R, Qd, g, r1, r2, hw, w⟩
def copO : COp → CmpOp
  | .eq => .Eq | .ne => .NotEq | .lt => .Lt | .le => .LtE | .gt => .Gt | .ge => .GtE | .is_ => .Is | .isn => .IsNot | .in_ => .In | .nin => .NotIn
theorem op_cmpD (o : COp) : OpR X (compareOp (copO o)) (rD G (wCmp o)) := by
  cases o
  · exact op_eqq C false
  · exact op_eqq C true
  · exact op_ltD C
  · exact op_leD C
  · exact op_gtD C
  · exact op_geD C
  · exact op_isD C
  · exact op_isnD C
  · exact op_inm C false
  · exact op_inm C true
theorem un_negD : UnR X (unaryOp .USub) (fun x H Q => ∃ dx F M R Qd, Good G R F H M ∧ Rp G F x dx ∧ wNeg dx M Qd ∧ Wish G R F Qd Q) := by
  intro pins s σ H x v Q I rx h
  obtain ⟨dx, F, M, R, Qd, g, r1, hw, w⟩ := h
  unfold wNeg at hw
  split at hw
  · cases r1
    exact un_neg pins s σ H _ v Q I rx ⟨_, rfl, w.at g (.int _) hw⟩
  · exact hw.elim
end
end VS
namespace VS
open PySem PySem.Spec PyProof.Rows L2
section
variable {G : Glob} {R F F' H H' : Hp} {M : Store} {v u : V} {d x y : D} {xs : List D} {Qd : DK} {Q : VK}
theorem isEmpty_rl {vs : List V} (r : RpL G F vs xs) : (!vs.isEmpty) = !xs.isEmpty := by cases r <;> rfl
theorem isEmpty_rd {vs : List (Key × V)} {ds : List (D × D)} (r : RpD G F vs ds) : (!vs.isEmpty) = !ds.isEmpty := by cases r <;> rfl
theorem isEmpty_rkd {xs : List KE3} {ds : List (D × D)} (r : RpKD G F xs ds) : (!xs.isEmpty) = !ds.isEmpty := by cases r <;> rfl
theorem tru_of {X : Cx} {Qb : Bool → Prop} (c : CtxG G X) (g : Good G R F H M) (r : Rp G F v d) (h : wTru d M Qb) : ∃ k, (TruV G.K v H k ∨ TruK X v H k) ∧ Qb k := by
  unfold wTru at h
  split at h
  · cases r; exact ⟨_, .inl rfl, h⟩
  · cases r; exact ⟨_, .inl rfl, h⟩
  · cases r; exact ⟨_, .inl rfl, h⟩
  · rename_i s
    cases r
    refine ⟨_, .inl ⟨by rw [ofString_len, line_eq]; exact h.1, rfl⟩, ?_⟩
    have e : (((Str.ofString s).length : Int) != 0) = decide (s.length ≠ 0) := by
      rw [ofString_len]
      by_cases z : s.length = 0
      · rw [z]; rfl
      · have z2 : ¬ ((s.length : Nat) : Int) = 0 := by omega
        rw [decide_eq_true z]
        simpa using z
    rw [e]; exact h.2
  · split at h
    · rename_i ys e
      obtain ⟨a, vs, rfl, ha, rl⟩ := asS_rp g r e
      rcases ha with ha | ha
      · exact ⟨_, .inl (.inl ⟨vs, ha, rfl⟩), by rw [isEmpty_rl rl]; exact h⟩
      · exact ⟨_, .inl (.inr (.inl ⟨vs, ha, rfl⟩)), by rw [isEmpty_rl rl]; exact h⟩
    · split at h
      · rename_i kvs e
        obtain ⟨a, vs, rfl, ha, rl⟩ := asD_rp g r e
        exact ⟨_, .inl (.inr (.inr ⟨vs, ha, rfl⟩)), by rw [isEmpty_rd rl]; exact h⟩
      · split at h
        · rename_i kvs e
          obtain ⟨a, xs, ea, KD, rk⟩ := kdx_of c g r e h.1
          exact ⟨_, .inr ⟨a, xs, ea, KD, rfl⟩, by rw [isEmpty_rkd rk]; exact h.2⟩
        · exact h.elim
theorem atI_rp {vs : List V} {i : Int} (r : RpL G F vs xs) (h : atI xs i = some d) : ∃ v, atI vs i = some v ∧ Rp G F v d := by
  unfold atI at h ⊢
  rw [r.length]
  cases q : ixN xs.length i with
  | none => rw [q] at h; cases h
  | some j =>
    rw [q] at h
    exact r.get h
theorem cut_rp {vs : List V} {lo hi : Option Int} (r : RpL G F vs xs) : RpL G F (cutV vs lo hi) (cutD xs lo hi) := by
  unfold cutV cutD
  rw [r.length]
  exact (r.drop _).take _
end
theorem lookD_key {G : Glob} {F : Hp} {kd d : D} : ∀ {vs : List (Key × V)} {ds : List (D × D)}, RpD G F vs ds → lookD kd ds = some d → ∃ k, keyOf kd = some k
  | _, _, .nil, h => by cases h
  | _, _, .cons hk _ r, h => by
    unfold lookD at h
    split at h
    · rename_i e
      exact ⟨_, e.symm.trans hk⟩
    · exact lookD_key r h
theorem ofString_ofList (cs : List Char) : (Str.ofString (String.ofList cs)).cps.toList = cs.map Char.toNat := by rw [ofString_cps, String.toList_ofList]
section
variable {G : Glob} {X : Cx} (C : CtxG G X)
include C
theorem ix_D : IxR X (rD G wIx) := by
  intro value slice pins s σ H x y v u Q I rx ry h hs
  obtain ⟨dx, dy, F, M, R, Qd, g, r1, r2, hw, w⟩ := h
  unfold wIx at hw
  split at hw
  · rename_i t i
    obtain ⟨hl, hw⟩ := hw
    cases r1; cases r2
    cases e : atI t.toList i with
    | none => rw [e] at hw; exact hw.elim
    | some c =>
      rw [e] at hw
      refine ix_str value slice pins s σ H _ _ v u Q I rx ry ⟨Str.ofString t, i, c.toNat, rfl, rfl, by rw [ofString_len, line_eq]; exact hl, ?_, ?_⟩ hs
      · rw [ofString_cps]
        unfold atI at e ⊢
        rw [List.length_map]
        cases q : ixN t.toList.length i with
        | none => rw [q] at e; cases e
        | some j =>
          rw [q] at e
          show (List.map Char.toNat t.toList)[j]? = some c.toNat
          rw [List.getElem?_map, show t.toList[j]? = some c from e]
          rfl
      · rw [← single_cps C]
        exact w.at g (.str _) hw
  · rename_i l s'
    cases r2
    cases r1 with
    | tab h =>
      obtain ⟨es, n, D, te⟩ := h
      rw [← C.K, ← C.w] at D
      obtain ⟨r, e1, e2⟩ := tab_in (s := s') D.at_ te
      rcases e2 with ⟨z, rfl⟩ | ⟨v', t, z, rfl⟩
      · rw [z] at hw; exact hw.elim
      · rw [z] at hw
        exact ix_kdict value slice pins s σ H _ _ v u Q I rx ry ⟨_, _, .str (Str.ofString v'), rfl, rfl, ⟨es, n, _, D.at_, D.lit, e1, ⟨t, rfl⟩⟩, w.at g (.str _) hw⟩ hs
  · split at hw
    · rename_i ys i e _ _
      cases r2
      obtain ⟨a, vs, rfl, ha, rl⟩ := asS_rp g r1 e
      cases e2 : atI ys i with
      | none => rw [e2] at hw; exact hw.elim
      | some d =>
        rw [e2] at hw
        obtain ⟨z, e3, rz⟩ := atI_rp rl e2
        rcases ha with ha | ha
        · exact ix_list value slice pins s σ H _ _ v u Q I rx ry ⟨a, vs, i, z, rfl, rfl, by rw [C.K]; exact ha, e3, w.at g rz hw⟩ hs
        · exact ix_tup value slice pins s σ H _ _ v u Q I rx ry ⟨a, vs, i, z, rfl, rfl, by rw [C.K]; exact ha, e3, w.at g rz hw⟩ hs
    · rename_i _ _ dy _ _ _ _ _
      split at hw
      · rename_i kvs e
        cases e2 : lookD dy kvs with
        | none => rw [e2] at hw; exact hw.elim
        | some d =>
          rw [e2] at hw
          obtain ⟨a, vs, rfl, ha, rd⟩ := asD_rp g r1 e
          cases (show v = Value.ref a from rx)
          obtain ⟨k, hk⟩ := lookD_key rd e2
          have ey := keyOf_rp C r2 hk
          subst ey
          rcases valV_rp C hk rd with ⟨v', d', e3, e4, rv⟩ | ⟨_, e4⟩
          · rw [e2] at e4; cases e4
            have hu : X.A.units + 1 < cLine := Nat.lt_of_le_of_lt (Nat.add_le_add_left (by decide) _) C.un
            have gd : DGet H a (kV k) (some v') := by
              have := DGet.k (k := k) ha
              rw [e3] at this; exact this
            exact tail_any (dict_typeIs I gd) PySem.F.slot_dict_getitem.lookup (d_getItem hu I gd ry fun w' s3 I3 rw' => ⟨v', H, I3, rw', w.at g rv hw⟩) hs
          · rw [e2] at e4; cases e4
      · exact hw.elim
theorem sl_D : SlR X (fun x lo hi H Q => ∃ dx F M R Qd, Good G R F H M ∧ Rp G F x dx ∧ wSl dx lo hi M Qd ∧ Wish G R F Qd Q) := by
  intro pins s σ H x v vl vu lo hi sl Q I rx hs pl pu h
  obtain ⟨dx, F, M, R, Qd, g, r1, hw, w⟩ := h
  unfold wSl at hw
  split at hw
  · rename_i t
    cases r1
    refine sl_str pins s σ H _ v vl vu lo hi sl Q I rx hs pl pu ⟨_, rfl, by rw [ofString_len, line_eq]; exact hw.1, ?_⟩
    have e : cutS (Str.ofString t) lo hi = Str.ofString (String.ofList (cutD t.toList lo hi)) := by
      refine Str.ext' ?_
      rw [ofString_ofList]
      unfold cutS cutD
      rw [ofString_cps, ofString_len, List.map_take, List.map_drop, String.length_toList]
    rw [e]
    exact w.at g (.str _) hw.2
  · rename_i ys
    cases r1 with
    | tup h1 rl =>
      rename_i a vs
      refine sl_tupA pins s σ H _ v vl vu lo hi sl Q I rx hs pl pu ⟨a, vs, rfl, by rw [C.K]; exact g.ex.t h1, fun e => ?_, fun _ p hp => ?_⟩
      · have e2 : cutD ys lo hi = ys := by
          unfold cutD
          rw [← rl.length, e.1, e.2, List.drop_zero, Nat.sub_zero, rl.length, List.take_length]
        rw [e2] at hw
        exact w.at g (.tup h1 rl) hw
      · exact w.new g hp (rp_new_tup (g.fresh hp).2.1 (cut_rp rl)) hw
  · split at hw
    · rename_i ys e
      obtain ⟨a, vs, rfl, ha, rl⟩ := asL_rp g r1 e
      exact sl_list pins s σ H _ v vl vu lo hi sl Q I rx hs pl pu ⟨a, vs, rfl, by rw [C.K]; exact SqL.of ha, fun p hp => w.nuL g hp (cut_rp rl) hw⟩
    · exact hw.elim
def r1D (G : Glob) (w1 : D → Store → DK → Prop) : List V → Hp → VK → Prop := fun vs H Q => ∃ x d F M R Qd, vs = [x] ∧ Good G R F H M ∧ Rp G F x d ∧ w1 d M Qd ∧ Wish G R F Qd Q
def r2D (G : Glob) (w2 : D → D → Store → DK → Prop) : List V → Hp → VK → Prop := fun vs H Q => ∃ x y d e F M R Qd, vs = [x, y] ∧ Good G R F H M ∧ Rp G F x d ∧ Rp G F y e ∧ w2 d e M Qd ∧ Wish G R F Qd Q
theorem b_len : CallR X (.builtin "len") (r1D G wLen) := by
  intro pins s σ H xs us Q I r h
  obtain ⟨v, x, F, M, R, Qd, rfl, g, r1, hw, w⟩ := h
  unfold wLen at hw
  split at hw
  · cases r1
    refine call_len_str pins s σ H _ us Q I r ⟨_, rfl, by rw [ofString_len, line_eq]; exact hw.1, ?_⟩
    rw [ofString_len]
    exact w.at g (.int _) hw.2
  · split at hw
    · rename_i ys e
      obtain ⟨a, vs, rfl, ha, q⟩ := asS_rp g r1 e
      refine call_len_seq pins s σ H _ us Q I r ⟨a, vs, rfl, by rw [C.K]; exact ha, ?_⟩
      rw [q.length]
      exact w.at g (.int _) hw
    · split at hw
      · rename_i kvs e
        obtain ⟨a, vs, rfl, ha, q⟩ := asD_rp g r1 e
        refine call_lenD pins s σ H _ us Q I r ⟨a, vs, rfl, ha, ?_⟩
        rw [q.length]
        exact w.at g (.int _) hw
      · exact hw.elim
theorem b_abs : CallR X (.builtin "abs") (r1D G wAbs) := by
  intro pins s σ H xs us Q I r h
  obtain ⟨v, x, F, M, R, Qd, rfl, g, r1, hw, w⟩ := h
  unfold wAbs at hw
  split at hw
  · cases r1
    exact call_abs pins s σ H _ us Q I r ⟨_, rfl, w.at g (.int _) hw⟩
  · exact hw.elim
theorem b_int : CallR X (.type "int") (r1D G wInt) := by
  intro pins s σ H xs us Q I r h
  obtain ⟨v, x, F, M, R, Qd, rfl, g, r1, hw, w⟩ := h
  unfold wInt at hw
  split at hw
  · cases r1
    exact call_int1 pins s σ H _ us Q I r (.inl ⟨_, rfl, w.at g (.int _) hw⟩)
  · exact hw.elim
theorem b_list : CallR X (.type "list") (r1D G wList) := by
  intro pins s σ H xs us Q I r h
  obtain ⟨v, x, F, M, R, Qd, rfl, g, r1, hw, w⟩ := h
  unfold wList at hw
  split at hw
  · cases r1 with
    | scr ha =>
      refine call_list_of pins s σ H _ us Q I r ⟨_, _, rfl, .inl (by rw [C.K]; exact g.ex.l ha), fun p hp => ?_⟩
      exact w.nuL g hp (RpL.ints _) hw
  · split at hw
    · rename_i ys e
      obtain ⟨a, vs, rfl, ha, q⟩ := asS_rp g r1 e
      exact call_list_of pins s σ H _ us Q I r ⟨_, _, rfl, by rw [C.K]; exact ha, fun p hp => w.nuL g hp q hw⟩
    · exact hw.elim
theorem keys_rp {F : Hp} : ∀ {vs : List (Key × V)} {ds : List (D × D)}, RpD G F vs ds → RpL G F (vs.map fun kv => kV kv.1) (ds.map (·.1))
  | _, _, .nil => .nil
  | _, _, .cons hk _ r => by
    refine .cons ?_ (keys_rp r)
    rename_i k v kd d vs ds _
    show Rp G F (kV k) kd
    cases kd <;> cases hk
    · exact .int _
    · exact .str _
theorem b_listD : CallR X (.type "list") (r1D G wListD) := by
  intro pins s σ H xs us Q I r h
  obtain ⟨v, x, F, M, R, Qd, rfl, g, r1, hw, w⟩ := h
  unfold wListD at hw
  split at hw
  · rename_i kvs e
    obtain ⟨a, vs, rfl, ha, q⟩ := asD_rp g r1 e
    exact call_list_dK C.calm pins s σ H _ us Q I r ⟨_, _, rfl, ha, fun p hp => w.nuL g hp (keys_rp C q) hw⟩
  · exact hw.elim
theorem keys_str {F : Hp} : ∀ {vs : List (Key × V)} {ds : List (D × D)} {ks : List String}, RpD G F vs ds → ds.map (·.1) = ks.map D.str → vs.map (·.1) = (ks.map Str.ofString).map Sum.inr
  | _, _, [], .nil, _ => rfl
  | _, _, _ :: _, .nil, h => by cases h
  | _, _, [], .cons _ _ _, h => by cases h
  | _, _, k :: ks, .cons (kd := kd) hk _ r, h => by
    rw [List.map_cons, List.map_cons] at h
    injection h with h1 h2
    have h1 : kd = D.str k := h1
    subst h1
    rw [List.map_cons, List.map_cons, List.map_cons, keys_str r h2]
    cases hk
    rfl
theorem map_str_of : ∀ {ys : List Str} {ks : List String}, ys.Perm (ks.map Str.ofString) → ∃ zs : List String, ys = zs.map Str.ofString ∧ zs.Perm ks := fun {ys ks} h => by
  obtain ⟨zs, h1, h2⟩ : ∃ zs : List String, zs.Perm ks ∧ zs.map Str.ofString = ys := by
    have inv : ∀ {l : List Str}, (∀ x ∈ l, ∃ s : String, Str.ofString s = x) → ∃ zs : List String, zs.map Str.ofString = l := fun {l} => by
      induction l with
      | nil => exact fun _ => ⟨[], rfl⟩
      | cons x l ih =>
        intro q
        obtain ⟨s, hs⟩ := q x List.mem_cons_self
        obtain ⟨zs, hz⟩ := ih fun y hy => q y (List.mem_cons_of_mem _ hy)
        exact ⟨s :: zs, by rw [List.map_cons, hs, hz]⟩
    obtain ⟨zs, hz⟩ := inv (l := ys) fun x hx => by
      obtain ⟨s, _, e⟩ := List.mem_map.mp (h.mem_iff.mp hx)
      exact ⟨s, e⟩
    refine ⟨zs, ?_, hz⟩
    rw [← hz] at h
    have back := h.map (fun s : Str => String.ofList (s.cps.toList.map Char.ofNat))
    have rt : ∀ s : String, String.ofList ((Str.ofString s).cps.toList.map Char.ofNat) = s := fun s => by
      rw [ofString_cps, List.map_map]
      have : (s.toList.map (Char.ofNat ∘ Char.toNat)) = s.toList := by
        conv => rhs; rw [← List.map_id s.toList]
        apply List.map_congr_left
        intro c _
        show Char.ofNat c.toNat = c
        exact Char.ofNat_toNat c
      rw [this, String.ofList_toList]
    rw [List.map_map, List.map_map] at back
    have e : ∀ l : List String, l.map ((fun s : Str => String.ofList (s.cps.toList.map Char.ofNat)) ∘ Str.ofString) = l := fun l => by
      conv => rhs; rw [← List.map_id l]
      apply List.map_congr_left
      intro s _
      exact rt s
    rw [e, e] at back
    exact back
  exact ⟨zs, h2.symm, h1⟩
theorem b_sorted : CallR X (.builtin "sorted") (r1D G wSortD) := by
  intro pins s σ H xs us Q I r h
  obtain ⟨v, x, F, M, R, Qd, rfl, g, r1, hw, w⟩ := h
  unfold wSortD at hw
  split at hw
  · rename_i kvs e
    obtain ⟨ks, hk, h64, hq⟩ := hw
    obtain ⟨a, vs, rfl, ha, q⟩ := asD_rp g r1 e
    refine call_sortedD C.calm pins s σ H _ us Q I r ⟨a, vs, ks.map Str.ofString, rfl, .inl ha, keys_str C q hk, by rw [List.length_map]; exact h64, fun ys p hp hs hn => ?_⟩
    obtain ⟨zs, rfl, hz⟩ := map_str_of C hp
    have rl : RpL G F ((zs.map Str.ofString).map V.str) (zs.map D.str) := by
      clear hs hp hz
      induction zs with
      | nil => exact .nil
      | cons z zs ih => exact .cons (.str z) ih
    exact w.new g hn (rp_new_lst (g.fresh hn).2.1 rl) (hq zs hz hs)
  · exact hw.elim
theorem b_tuple : CallR X (.type "tuple") (r1D G wTuple) := by
  intro pins s σ H xs us Q I r h
  obtain ⟨v, x, F, M, R, Qd, rfl, g, r1, hw, w⟩ := h
  unfold wTuple at hw
  split at hw
  · rename_i ys e
    have key : (∃ zs, x = .tup zs) ∨ asL M x = some ys := by
      cases x <;> first | exact .inl ⟨_, rfl⟩ | exact .inr e
    rcases key with ⟨zs, rfl⟩ | e'
    · cases e
      cases r1 with
      | tup ha q => exact call_tuple_of pins s σ H _ us Q I r ⟨_, _, rfl, .inr ⟨by rw [C.K]; exact g.ex.t ha, w.at g (.tup ha q) hw⟩⟩
    · obtain ⟨a, vs, rfl, ha, q⟩ := asL_rp g r1 e'
      exact call_tuple_of pins s σ H _ us Q I r ⟨_, _, rfl, .inl ⟨by rw [C.K]; exact SqL.of ha, fun p hp => w.new g hp (rp_new_tup (g.fresh hp).2.1 q) hw⟩⟩
  · exact hw.elim
theorem b_range2 : CallR X (.type "range") (r2D G wRange2) := by
  intro pins s σ H xs us Q I r h
  obtain ⟨v, u, x, y, F, M, R, Qd, rfl, g, r1, r2, hw, w⟩ := h
  unfold wRange2 at hw
  split at hw
  · cases r1; cases r2
    exact cr_range2 pins s σ H _ us Q I r ⟨_, _, rfl, fun p hp => w.new g hp (.rng upd_same) hw⟩
  · exact hw.elim
theorem b_range1 : CallR X (.type "range") (r1D G wRange1) := by
  intro pins s σ H xs us Q I r h
  obtain ⟨v, x, F, M, R, Qd, rfl, g, r1, hw, w⟩ := h
  unfold wRange1 at hw
  split at hw
  · rename_i j
    cases r1
    obtain ⟨u1, rfl, ri⟩ := vals1 r
    obtain ⟨t, rfl⟩ := ri
    have hf : H s.heap.objs.size = none := I.hok.fresh (Nat.le_refl _)
    refine call_range_1 ⟨.ref s.heap.objs.size, upd H s.heap.objs.size (.rng 0 j), I.laid (t' := s.toks + 2) (fun b o e => Heap.get?_push_of_some _ e) (Nat.le_refl _) ?_, rfl, w.new g hf (.rng upd_same) hw⟩
    exact ⟨_, _, _, Heap.get?_push_size _ rfl⟩
  · exact hw.elim
theorem b_sum : CallR X (.builtin "sum") (r1D G wSum) := by
  intro pins s σ H xs us Q I r h
  obtain ⟨v, x, F, M, R, Qd, rfl, g, r1, hw, w⟩ := h
  obtain ⟨ns, e, hw⟩ := hw
  obtain ⟨a, vs, rfl, ha, q⟩ := asL_rp g r1 e
  rw [q.of_ints] at ha
  exact cr_sum C.calm pins s σ H _ us Q I r ⟨a, ns, rfl, SqL.of ha, w.at g (.int _) hw⟩
theorem b_any : CallR X (.builtin "any") (r1D G wAny) := by
  intro pins s σ H xs us Q I r h
  obtain ⟨v, x, F, M, R, Qd, rfl, g, r1, hw, w⟩ := h
  obtain ⟨ns, e, hw⟩ := hw
  obtain ⟨a, vs, rfl, ha, q⟩ := asL_rp g r1 e
  rw [q.of_bls] at ha
  exact cr_any C.calm pins s σ H _ us Q I r ⟨a, ns, rfl, SqL.of ha, w.at g (.bl _) hw⟩
theorem b_all : CallR X (.builtin "all") (r1D G wAll) := by
  intro pins s σ H xs us Q I r h
  obtain ⟨v, x, F, M, R, Qd, rfl, g, r1, hw, w⟩ := h
  obtain ⟨ns, e, hw⟩ := hw
  obtain ⟨a, vs, rfl, ha, q⟩ := asL_rp g r1 e
  rw [q.of_bls] at ha
  exact cr_all C.calm pins s σ H _ us Q I r ⟨a, ns, rfl, SqL.of ha, w.at g (.bl _) hw⟩
theorem b_min1 : CallR X (.builtin "min") (r1D G wMin1) := by
  intro pins s σ H xs us Q I r h
  obtain ⟨v, x, F, M, R, Qd, rfl, g, r1, hw, w⟩ := h
  obtain ⟨ns, e, hl, hw⟩ := hw
  obtain ⟨a, vs, rfl, ha, q⟩ := asL_rp g r1 e
  rw [q.of_ints] at ha
  exact cr_min C.calm pins s σ H _ us Q I r ⟨a, ns, rfl, SqL.of ha, hl, fun m h1 h2 => w.at g (.int _) (hw m h1 h2)⟩
theorem b_max1 : CallR X (.builtin "max") (r1D G wMax1) := by
  intro pins s σ H xs us Q I r h
  obtain ⟨v, x, F, M, R, Qd, rfl, g, r1, hw, w⟩ := h
  obtain ⟨ns, e, hl, hw⟩ := hw
  obtain ⟨a, vs, rfl, ha, q⟩ := asL_rp g r1 e
  rw [q.of_ints] at ha
  exact cr_max C.calm pins s σ H _ us Q I r ⟨a, ns, rfl, SqL.of ha, hl, fun m h1 h2 => w.at g (.int _) (hw m h1 h2)⟩
theorem b_min2 : CallR X (.builtin "min") (r2D G wMin2) := by
  intro pins s σ H xs us Q I r h
  obtain ⟨v, u, x, y, F, M, R, Qd, rfl, g, r1, r2, hw, w⟩ := h
  unfold wMin2 at hw
  split at hw
  · cases r1; cases r2
    exact call_min2 C.calm pins s σ H _ us Q I r ⟨_, _, rfl, w.at g (.int _) hw⟩
  · exact hw.elim
theorem b_max2 : CallR X (.builtin "max") (r2D G wMax2) := by
  intro pins s σ H xs us Q I r h
  obtain ⟨v, u, x, y, F, M, R, Qd, rfl, g, r1, r2, hw, w⟩ := h
  unfold wMax2 at hw
  split at hw
  · cases r1; cases r2
    exact call_max2 C.calm pins s σ H _ us Q I r ⟨_, _, rfl, w.at g (.int _) hw⟩
  · exact hw.elim
end
end VS
namespace VX
open PySem PySem.Spec PyProof.Rows L2
def Fld (u : Value) (t : Addr) (s : Shared) : Prop := ∃ (a : Addr) (oe : Obj) (vs : Array Value), u = .ref a ∧ s.heap.get? a = some oe ∧ oe.data = .fields vs ∧ vs[0]? = some (.ref t)
def F0 (t : Addr) (o : Obj) : Prop := ∀ vs : Array Value, o.data = .fields vs → vs[0]? = some (.ref t)
theorem F0.steady {t : Addr} : PXN.Steady1 (F0 t) := fun o v h vs e => by
  obtain ⟨c, dd, dt, sl⟩ := o
  cases dt with
  | fields ws =>
    have e : Data.fields (ws.setIfInBounds 1 v) = Data.fields vs := e
    injection e with e
    subst e
    rw [Array.getElem?_setIfInBounds_ne (by decide)]
    exact h ws rfl
  | _ => cases e
def Zt (cls : Value) (d : Option Addr) (t : Addr) : Obj → Prop := fun o => Zc cls d o ∧ F0 t o
theorem Zt.steady {cls : Value} {d : Option Addr} {t : Addr} : PXN.Steady1 (Zt cls d t) := PXN.steady_and (Z := Zc cls d) (Z' := F0 t) (PXN.steady_and (Z := fun o => o.cls = cls) (Z' := fun o => o.dict = d) PXN.steady_cls PXN.steady_dict) F0.steady
def TextOf (H : Hp) (d : Option Addr) (tx : Str) : Prop := ∀ dx fs m i, d = some dx → H dx = some (.xd fs) → fs.lookup ("message" : Str) = some (V.str m) → fs.lookup ("place" : Str) = some (V.int i) → tx = Str.empty ++ m ++ Str.ofString " at " ++ Str.ofString (toString i)
def Kn (H : Hp) (d : Option Addr) (t : Addr) : Prop := ∃ tx, H t = some (.tup [V.str tx]) ∧ TextOf H d tx
def XE (X : Cx) (W : WX) (u : Value) (s' : Shared) : Prop := ∃ t, Fld u t s' ∧ L2.XE X (fun cls d σ H => Kn H d t ∧ W cls d σ H) u s'
def Takes (X : Cx) (W : WX) : Prop := ∀ u s', XE X W u s' → X.xe u s'
theorem Takes.imp {X : Cx} {W W' : WX} (t : Takes X W) (h : ∀ c d σ H, W' c d σ H → W c d σ H) : Takes X W' := fun u s' ⟨tt, f, a, B, sI, pins, σ, H, cls, d, e, I, nb, up, sky, na, os, ag, kn, w⟩ =>
  t u s' ⟨tt, f, a, B, sI, pins, σ, H, cls, d, e, I, nb, up, sky, na, os, ag, kn, h _ _ _ _ w⟩
theorem takes0 {X : Cx} : Takes X (fun _ _ _ _ => False) := fun u s' ⟨_, _, _, _, _, _, _, _, _, _, _, _, _, _, _, _, _, _, _, w⟩ => w.elim
def CX (P : Program) (w : World) (outer : List Env) (H : Hp) (s : Shared) (E : XK) (u : Value) (s' : Shared) : Prop := ∃ t, Fld u t s' ∧ L2.CX P w outer H s (fun cls d H' => Kn H' d t ∧ E cls d H') u s'
theorem fly_t {B h : Heap} {l : List Env} {a t : Addr} {cls : Value} {d : Option Addr} (x : HandSPX.FlyingZ B l a (Zt cls d t) h) : HandSPX.FlyingZ B l a (Zc cls d) h ∧ ∃ oe vs, h.get? a = some oe ∧ oe.data = .fields vs ∧ vs[0]? = some (.ref t) := by
  obtain ⟨k, n, f, oe, vs, T, oT, ts, h1, h2, h3, h4, h5, h6, h7, h8, h9⟩ := x
  exact ⟨⟨k, n, f, oe, vs, T, oT, ts, h1, h2.1, h3, h4, h5, h6, h7, h8, h9⟩, oe, vs, h1, h3, h2.2 vs h3⟩
theorem sky_t {B : Heap} {l : List Env} {a t L : Addr} {cls : Value} {d : Option Addr} {s : Shared} (f : Fld (.ref a) t s) (x : Sky B l a (Zc cls d) L s.heap) : Sky B l a (Zt cls d t) L s.heap := by
  obtain ⟨a', oe, vs, e, h1, h2, h3⟩ := f
  cases e
  have key : ∀ o, s.heap.get? a = some o → Zc cls d o → Zt cls d t o := fun o ho hz => ⟨hz, fun ws hw => by
    rw [h1] at ho; cases ho
    rw [h2] at hw
    injection hw with hw
    rw [← hw]; exact h3⟩
  rcases x with ⟨b1, b2, b3, o, ws, b4, b5, b6⟩ | ⟨b1, b2, b3, o, ws, T, oT, ts, b4, b5, b6⟩ | ⟨b1, b2, b3, o, ws, T, oT, ts, b4, b5, b6⟩
  · exact .inl ⟨b1, b2, b3, o, ws, b4, key o b4 b5, b6⟩
  · exact .inr (.inl ⟨b1, b2, b3, o, ws, T, oT, ts, b4, key o b4 b5, b6⟩)
  · exact .inr (.inr ⟨b1, b2, b3, o, ws, T, oT, ts, b4, key o b4 b5, b6⟩)
section
variable {X : Cx} {pins : List (Addr × Obj)} {σ : L2.St} {H : Hp} {sI s s' : Shared} {B : Heap} {W : WX} {E : XK}
theorem XE.of_call (I : Inv X pins σ H s) (hW : ∀ cls d H', E cls d H' → W cls d σ H') {u : Value} (c : CX X.prog X.w X.stack H s E u s') : XE X W u s' := by
  obtain ⟨t, f, c⟩ := c
  exact ⟨t, f, L2.XE.of_call (W := fun cls d σ H => Kn H d t ∧ W cls d σ H) I (fun cls d H' h => ⟨h.1, hW cls d H' h.2⟩) c⟩
theorem XE.new {a t : Addr} {oe : Obj} {vs : Array Value} {cls : Value} {d : Option Addr} (I : Inv X pins σ H sI) (k : ∀ b o, sI.heap.get? b = some o → s'.heap.get? b = some o) (hne : sI.heap.get? a = none) (he : s'.heap.get? a = some oe)
    (hz : Zc cls d oe) (hd : oe.data = .fields vs) (h0 : vs[0]? = some (.ref t)) (h1 : vs[1]? = some .none) (na : H a = none) (os : s'.os = sI.os) (ag : AllBare s'.gens) (kn : Kn H d t) (w : W cls d σ H) : XE X W (.ref a) s' :=
  ⟨t, ⟨a, oe, vs, rfl, he, hd, h0⟩, L2.XE.new (W := fun cls d σ H => Kn H d t ∧ W cls d σ H) I k hne he hz hd h1 na os ag ⟨kn, w⟩⟩
theorem XE.leave (hs : X.stack = X.env :: X.outer) (hf : X.env.frame = some X.env.locals) (hex : X.ex = []) {E₁ : Value → Shared → Prop} (hW : ∀ cls d σ H, W cls d σ H → E cls d H) {u : Value} (x : XE X W u s') :
    wpAny (model X.prog X.w) X.A (leaving X.env u) (fun _ s'' => CX X.prog X.w X.outer X.H_0 X.s_0 E u s'') E₁ s' := by
  obtain ⟨t, f, a, B, sI, pins, σ, H, cls, d, rfl, I, nb, up, sky, na, os, ag, kn, w⟩ := x
  have sk := sky_t f sky
  have hfr : X.A.frames = some (X.env :: X.outer) := by rw [I.ok.frames, hs]
  have none_ex : ∀ b, b ∉ X.ex := fun b hb => by rw [hex] at hb; cases hb
  have out : ∀ b o, X.s_0.heap.get? b = some o → b ∉ X.fs → b ∉ frs X.stack := fun b o e hb hm => by
    rcases List.mem_cons.mp (I.stkSub b hm) with z | z
    · exact absurd (Heap.lt_size e) (by rw [z]; exact Nat.not_lt.mpr I.ok.above)
    · exact hb z
  have done : ∀ h', HandSPX.FlyingZ B X.outer a (Zt cls d t) h' → s'.heap.UpToSlots h' → CX X.prog X.w X.outer X.H_0 X.s_0 E (.ref a) { s' with heap := h' } := fun h' fl up' => by
    obtain ⟨fl, oe, vs, g1, g2, g3⟩ := fly_t fl
    refine ⟨t, ⟨a, oe, vs, rfl, g1, g2, g3⟩, a, B, H, cls, d, rfl, fl, I.inGround nb, ?_, na, os.trans I.os, ag, kn, hW _ _ _ _ w⟩
    exact {
      keep := fun b o e n hb => nb b o (I.base.keep b o e n hb (none_ex b)) (out b o e hb)
      slot := fun b o e hb => by
        obtain ⟨_, o0, e0, hnf⟩ := I.ok.funs.mem hb
        rw [e] at e0; cases e0
        obtain ⟨sl, e1⟩ := I.base.slot b o e (I.ok.frf b hb) hb (none_ex b)
        obtain ⟨sl2, e2⟩ := up b _ e1 hnf
        obtain ⟨sl3, e3⟩ := up' b _ e2 hnf
        exact ⟨sl3, e3⟩
      free := fun b o e n => I.base.free b o e n (none_ex b)
      there := fun b o e hb => by
        obtain ⟨o', e1⟩ := I.base.there b o e (none_ex b)
        exact ⟨o', nb b o' e1 (out b o e hb)⟩
      tups := I.base.tups
      frzs := I.base.frzs
      tbls := I.base.tbls }
  rw [hs] at sk
  rcases sk with ⟨hB, hn, hl, oe, vs, he, hz, hd, h1⟩ | fl | hd
  · exact PXN.leaving_firstZ Zt.steady hfr hl hf he hB hn hd h1 hz done
  · exact PXN.leaves_onZ Zt.steady hfr hf fl done
  · exact HandSPX.leaves_heldZ hf hd done
theorem takes_of (hs : X.stack = X.env :: X.outer) (hf : X.env.frame = some X.env.locals) (hex : X.ex = []) {E₁ : Value → Shared → Prop}
    (hx : X.xe = fun e s' => wpAny (model X.prog X.w) X.A (leaving X.env e) (fun _ s'' => CX X.prog X.w X.outer X.H_0 X.s_0 E e s'') E₁ s') : Takes X (fun cls d _ H => E cls d H) := fun u s' x => by
  rw [hx]
  exact XE.leave (W := fun cls d _ H => E cls d H) (E := E) hs hf hex (fun _ _ _ _ h => h) x
theorem passes_call (tk : Takes X W) (hW : ∀ cls d σ H, E cls d H → W cls d σ H) : ∀ (pins : List (Addr × Obj)) (σ : L2.St) (H : Hp) (s : Shared) (e : Value) (s' : Shared), Inv X pins σ H s → CX X.prog X.w X.stack H s E e s' → X.xe e s' :=
  fun _ σ _ _ e s' I c => tk e s' (XE.of_call I (fun cls d H' h => hW cls d σ H' h) c)
end
def MkP (X : Cx) (pins : List (Addr × Obj)) (σ : L2.St) (Q : XK) (u : Value) (s' : Shared) : Prop :=
  ∃ (a : Addr) (oe : Obj) (vs : Array Value) (sI : Shared) (H' : Hp) (cls : Value) (d : Option Addr) (t : Addr), u = .ref a ∧ Inv X pins σ H' sI ∧ (∀ b o, sI.heap.get? b = some o → s'.heap.get? b = some o) ∧ sI.heap.get? a = none ∧ s'.heap.get? a = some oe ∧
    Zc cls d oe ∧ oe.data = .fields vs ∧ vs[0]? = some (.ref t) ∧ vs[1]? = some .none ∧ H' a = none ∧ s'.os = sI.os ∧ AllBare s'.gens ∧ Raises X cls ∧ Kn H' d t ∧ Q cls d H'
def PMk (X : Cx) (e : Expr) (t : L2.St → Hp → XK → Prop) : Prop :=
  ∀ (pins : List (Addr × Obj)) (s : Shared) (σ : L2.St) (H : Hp) (Q : XK), Inv X pins σ H s → t σ H Q → wpAny (model X.prog X.w) X.A (eval e X.env) (MkP X pins σ Q) X.xe s
theorem ps_raise {X : Cx} {W : WX} {e : Expr} {t : L2.St → Hp → XK → Prop} {pos : Pos} (hc : X.calm = true) (tk : Takes X W) (he : PMk X e t) : PS X (.Raise (some e) none pos) (fun _ σ H => t σ H fun cls d H' => W cls d σ H') := by
  refine ⟨fun pins s σ H D I h => ?_⟩
  show wpAny _ _ (do standAt pos; raiseStmt X.env (some (do let v ← eval e X.env; standAt pos; pure v)) none) _ _ _
  refine wpAny_bind (wpAny_standAt (raise_made (I.ok.hd hc) (wpAny_bind (wpAny_mono (he pins s σ H _ I h) (fun u s1 hu => wpAny_bind (wpAny_standAt (wpAny_pure ?_))) fun _ _ x => x))))
  obtain ⟨a, oe, vs, sI, H', cls, d, t, rfl, J, k, hne, ha, hz, hd, h0, h1, na, os, ag, r, kn, q⟩ := hu
  obtain ⟨r1, r2⟩ := r (model X.prog X.w) s1.heap (J.kIn.keeps k)
  exact ⟨a, oe, vs, cls, rfl, ha, hz.1, hd, h1, r1, r2, tk _ _ (XE.new J k hne ha hz hd h0 h1 na os ag kn q)⟩
theorem held_t {X : Cx} {W : WX} {pins : List (Addr × Obj)} {σ : L2.St} {H : Hp} {sI s' : Shared} {B h4 : Heap} {a t : Addr} {cls : Value} {d : Option Addr} (hh : HandSPX.HeldZ B (X.env :: X.outer) a (Zt cls d t) X.env.locals h4) (hs : X.stack = X.env :: X.outer) (I : Inv X pins σ H sI)
    (nb : ∀ b o, sI.heap.get? b = some o → b ∉ frs X.stack → B.get? b = some o) (up : sI.heap.UpToSlots h4) (na : H a = none) (os : s'.os = sI.os) (ag : AllBare s'.gens) (kn : Kn H d t) (w : W cls d σ H) : XE X W (.ref a) { s' with heap := h4 } := by
  obtain ⟨k, n, f, oe, vs, T, oT, ts, h1, h2, h3, h4', h5⟩ := hh
  exact ⟨t, ⟨a, oe, vs, rfl, h1, h3, h2.2 vs h3⟩, a, B, sI, pins, σ, H, cls, d, rfl, I, nb, up, .inr (.inr (by rw [hs]; exact ⟨k, n, f, oe, vs, T, oT, ts, h1, h2.1, h3, h4', h5⟩)), na, os, ag, kn, w⟩
def wAs (K : PySem.W.Frag) (c : Value) (i : Nat) (ts : Addr → Value → Option Addr → Addr → TS) (Wout : WX) (D : Ends) : WX := fun cls d σ H =>
  ∃ b, PySem.W.exmOne K cls c = some b ∧ (b = true → ∀ a t, H a = none → Kn H d t → ts a cls d t { nx := fun σ' H' => D.nx (σ'.set i none) H', rt := D.rt, bk := fun σ' H' => D.bk (σ'.set i none) H', ct := fun σ' H' => D.ct (σ'.set i none) H' } (σ.set i (some (.ref a))) H) ∧
    (b = false → Wout cls d σ H)
section
variable {X : Cx} {x n : Str} {c : Value} {i : Nat} {body suite : List Stmt} {b₀ : Stmt} {np pos pos' : Pos} {tb : WX → TS} {ts : Addr → Value → Option Addr → Addr → TS} {Wout : WX}
theorem ps_try_as (hs : X.stack = X.env :: X.outer) (hf : X.env.frame = some X.env.locals) (hN : X.N.Nodup) (hi : X.N[i]? = some n) (hln : X.env.kindOf n = some .local) (hc : Names X x c) (tk : Takes X Wout)
    (hb : ∀ (W : WX) (pn : List (Addr × Obj)) (xe : Value → Shared → Prop), Takes (X.tr pn xe) W → PassesOwn (model X.prog X.w) X.A X.env xe → PSs (X.tr pn xe) body (tb W))
    (hsu : ∀ (a t : Addr) (oe : Obj) (cls : Value) (d : Option Addr) (pn : List (Addr × Obj)), Zt cls d t oe → (∃ vs, oe.data = .fields vs) → PSs (X.suite a ((a, oe) :: pn)) (b₀ :: suite) (ts a cls d t)) :
    PS X (.Try body [.ExceptHandler (some (.Name x np)) (some n) (b₀ :: suite) pos'] [] [] pos) (fun D σ H => tb (wAs X.K c i ts Wout D) D σ H) := by
  refine ⟨fun pins s σ H D I h => ?_⟩
  have ok := I.ok
  have hfr : X.A.frames = some (X.env :: X.outer) := by rw [ok.frames, hs]
  have hloc : Loc X.env.scope n := .inl hln
  refine wpAny_Try_except ?_
  refine wpAny_mono ((hb (wAs X.K c i ts Wout D) (X.pn ++ pins) (fun e s₁ => wpAny (model X.prog X.w) X.A (noteFrame e X.env) (fun _ s₂ => wpAny (model X.prog X.w) X.A (setFlight e none) (fun _ s₃ =>
    wpAny (model X.prog X.w) X.A (handleBy e X.env [.ExceptHandler (some (.Name x np)) (some n) (b₀ :: suite) pos']) (SP X pins D) X.xe s₃) X.xe s₂) X.xe s₁) (fun u s' xx => ?_) PassesOwn.looking).run [] s σ H D (I.toTry _) h) (fun f s1 hsp => ?_) (fun e s1 he => he)
  · obtain ⟨t, ft, a, B, sI, pins', σ', H', cls, d, rfl, J', nb, up, sky, na, os, ag, kn, b, hb1, hyes, hno⟩ := xx
    have J : Inv X pins σ' H' sI := J'.ofTry ok
    have sky' : Sky B (X.env :: X.outer) a (Zt cls d t) X.env.locals s'.heap := by rw [← hs]; exact sky_t ft sky
    show wpAny (model X.prog X.w) X.A (noteFrame (.ref a) X.env) _ _ _
    refine L2N.Sky.land Zt.steady hfr hf sky' fun h3 fl3 up3 => ?_
    have J3 : Inv X pins σ' H' { s' with heap := h3 } := J.landed nb fl3.1 (up.trans up3) os ag
    obtain ⟨oe3, vs3, he3, hz3, hd3⟩ := fl3.there
    have notFr : ∀ {h : Heap} {o : Obj} {vs : Array Value}, h.FunFrames B (X.env :: X.outer) → h.get? a = some o → o.data = .fields vs → a ∉ frs (X.env :: X.outer) := fun {h o vs} ff e dd hm => by
      obtain ⟨_, o', e', hnf⟩ := ff.mem hm
      rw [e] at e'; cases e'
      exact hnf _ dd
    have nfr := notFr fl3.2.2.1 he3 hd3
    have nL : a ≠ X.env.locals := fun z => nfr (List.mem_filterMap.mpr ⟨X.env, List.mem_cons_self, by rw [hf, z]⟩)
    have nF : a ∉ X.fs := fun hm => by
      obtain ⟨e, he, q⟩ := List.mem_filterMap.mp hm
      exact nfr (List.mem_filterMap.mpr ⟨e, List.mem_cons_of_mem _ he, q⟩)
    have S3 := J3.suite he3 hd3 na nL nF
    refine wpAny_handleBy_cons (codeAny_handlers_test ?_) (by intro q; cases q)
    have LT : PySem.W.Looks (model X.prog X.w) h3 (typeOf (.ref a)) cls := fun A Q E s k q => wpAny_typeOf_ref (k _ _ he3) (by rw [hz3.1.1]; exact q)
    have LM := PySem.W.exm_one (M := model X.prog X.w) (J3.kIn) LT hb1
    have test : ∀ {Q : Value → Shared → Prop} {E : Value → Shared → Prop}, Q c { s' with heap := h3 } → wpAny (model X.prog X.w) (X.A.mark (some (.ref a))) (eval (.Name x np) X.env) Q E { s' with heap := h3 } := fun {Q E} q => by
      obtain ⟨hg, hdbg, hm | ⟨hm, hv, hnn⟩⟩ := hc
      · exact ld_glob (X := X.suite a ((a, oe3) :: (X.pn ++ pins))) S3 hg hm q hdbg
      · exact ld_blt (X := X.suite a ((a, oe3) :: (X.pn ++ pins))) S3 hg hm hv q hnn hdbg
    refine test (LM.here ?_)
    cases b with
    | true =>
      refine codeAny_handlers_suite_as ?_
      refine HandSPX.lands_againZ fl3 fun h4 fl4 up4 => ?_
      have J4 : Inv X pins σ' H' { s' with heap := h4 } := J.landed nb fl4.1 ((up.trans up3).trans up4) os ag
      obtain ⟨oe4, vs4, he4, hz4, hd4⟩ := fl4.there
      have S4 := J4.suite he4 hd4 na nL nF
      refine store_ok (X := X.suite a ((a, oe4) :: (X.pn ++ pins))) (v := .ref a) S4 hN hi hloc rfl (fun s5 S5 => ?_) (.inr hln)
      refine wpAny_mono ((hsu a t oe4 cls d (X.pn ++ pins) hz4 ⟨_, hd4⟩).run [] s5 _ H' _ S5 (hyes rfl a t na kn)) (fun f s6 hsp => ?_) (fun _ _ z => False.elim z)
      have end_ : ∀ {σ6 : L2.St} {H6 : Hp} {Q : Shared → Prop}, Inv (X.suite a ((a, oe4) :: (X.pn ++ pins))) [] σ6 H6 s6 → (∀ s7, Inv X pins (σ6.set i none) H6 s7 → Q s7) →
          wpAny (model X.prog X.w) X.A (do bindName X.env n .none; unbindBehindTheSuite X.env n pos') (fun _ s7 => Q s7) X.xe s6 := fun {σ6 H6 Q} S6 hq => gone_ok (S6.unsuite ok) hN hi hln hq
      cases f with
      | next =>
        obtain ⟨σ6, H6, S6, q6⟩ := hsp
        exact end_ S6 fun s7 J7 => ⟨_, _, J7, q6⟩
      | brk =>
        obtain ⟨σ6, H6, S6, q6⟩ := hsp
        exact end_ S6 fun s7 J7 => ⟨_, _, J7, q6⟩
      | cont =>
        obtain ⟨σ6, H6, S6, q6⟩ := hsp
        exact end_ S6 fun s7 J7 => ⟨_, _, J7, q6⟩
      | ret u =>
        obtain ⟨v6, σ6, H6, S6, r6, q6⟩ := hsp
        exact end_ S6 fun s7 J7 => ⟨_, _, _, J7, r6, q6⟩
    | false =>
      show wpAny _ X.A (handleBy (.ref a) X.env []) _ _ _
      refine wpAny_handleBy_nil ?_
      obtain ⟨k1, k2, k3, oe, vs, T, oT, ts', he, hz, hd, h1, hr⟩ := id fl3
      unfold PySem.passOn
      refine wpAny_bind (wpAny_field he hd h1 ?_)
      rw [if_neg (show ¬ ((Value.ref T == Value.none) = true) from by simp)]
      have fin : wpAny (model X.prog X.w) X.A (setFlight (.ref a) X.env.frame) (fun _ s4 => wpAny (model X.prog X.w) X.A (throw (.ref a) : Sem Flow) (SP X pins D) X.xe s4) X.xe { s' with heap := h3 } := by
        rw [hf]
        refine HandSPX.setFlight_upZ fl3 fun h4 hh4 up4 => wpAny_throw (tk _ _ ?_)
        exact held_t hh4 hs J nb ((up.trans up3).trans up4) na os ag kn (hno rfl)
      first
        | exact wpAny_bind (wpAny_pure (wpAny_bind fin))
        | exact wpAny_bind fin
  · cases f with
    | next =>
      obtain ⟨σ', H', J', q⟩ := hsp
      exact wpAny_execs_nil ⟨σ', H', J'.ofTry ok, q⟩
    | brk =>
      obtain ⟨σ', H', J', q⟩ := hsp
      exact ⟨σ', H', J'.ofTry ok, q⟩
    | cont =>
      obtain ⟨σ', H', J', q⟩ := hsp
      exact ⟨σ', H', J'.ofTry ok, q⟩
    | ret u =>
      obtain ⟨v, σ', H', J', r, q⟩ := hsp
      exact ⟨v, σ', H', J'.ofTry ok, r, q⟩
end
theorem okX {P : Program} {w : World} {K : PySem.W.Frag} {mg : Str → Option Value} {base : Heap} {x qual : Str} {st : Stmt} {f : Addr} {fd : FuncData} {N ps : List Str} {k : Nat} {sp : Sp} (F : L2.Fun K x qual st f fd) (S : FnScope N ps (defScope st)) (len : ∀ vs H Q E, sp vs H Q E → vs.length = ps.length)
    (hb : ∀ (cdv : Value) (A : Around) (outer : List Env) (s : Shared) (H : Hp) (vs : List V) (Q : VK) (E : XK), Room k (A.deeper (envOfC qual (defScope st) s.heap.objs.size f cdv)) → sp vs H Q E →
      ∃ t, PSs (cxOf (CX P w) P w K mg base N qual (defScope st) f cdv A outer s H E) (defBody st) t ∧ t { nx := fun _ H' => Q .non H', rt := Q } (start N vs) H) : FnOk P w K mg base (CX P w) (k + 1) f fd ps sp := by
  obtain ⟨_, _, _, _, _, _, _, _, _, rfl, lk, hc⟩ := F.ex
  exact fn_of lk hc S len fun A outer s H vs Q E hr h => hb _ A outer s H vs Q E hr h
end VX
namespace VX
open PySem PySem.Spec PyProof.Rows L2
abbrev eob (C : Addr) (d : Option Addr) (t : Addr) : Obj := { cls := .ref C, dict := d, data := .fields #[.ref t, .none, .none, .none, .bool false, .none] }
def exoT (e C : Addr) (d : Option Addr) (t : Addr) : HO := .ext fun h => h.get? e = some (eob C d t)
section
variable {e C t : Addr} {d : Option Addr}
theorem exoT_x {o : HO} (h : ∀ φ, HO.ext φ ≠ o) : exoT e C d t ≠ o := h _
theorem exoT_own {x : Addr} : exoT e C d t ≠ .own x := exoT_x fun φ z => by cases z
theorem exoT_tup {xs : List V} : exoT e C d t ≠ .tup xs := exoT_x fun φ z => by cases z
theorem exoT_frz {o : Obj} {u : HO} : exoT e C d t ≠ .frz o u := exoT_x fun φ z => by cases z
theorem exoT_tbl {ps : Array Value} : exoT e C d t ≠ .tbl ps := exoT_x fun φ z => by cases z
theorem exoT_ok {P : Program} {w : World} {H : Hp} {h : Heap} (he : h.get? e = some (eob C d t)) : ObjOk P w H h e (exoT e C d t) := ⟨he, ⟨_, he⟩, fun h1 h2 z k => k _ z⟩
theorem exoT_at {P : Program} {w : World} {H : Hp} {h : Heap} (hok : HOk P w H h) (he : H e = some (exoT e C d t)) : h.get? e = some (eob C d t) := by
  have x : ObjOk P w H h e (.ext fun h => h.get? e = some (eob C d t)) := hok e _ he
  exact x.1
end
section
variable {X : Cx} {pins : List (Addr × Obj)} {σ : L2.St} {H : Hp} {s : Shared} {a C dx t : Addr} {f : Str} {y : V} {u : Value} {fs : List (Str × V)} {Q : Unit → Shared → Prop} {E : Value → Shared → Prop} {A : Around}
theorem cls_of (T : OexC X.K C) : ∃ nm q N bs bm sn sub ab col dd k0 k1 k2 k3 k5, X.K.lookup C = some (excClassObj nm q C N bs bm true sn sub ab col dd k0 k1 k2 k3 k5 "ValueError.__new__") ∧ PySem.HandSPX.refsVE bm = true ∧
    PySem.W.clsIn X.K C = some { name := nm, bases := bs, mro := .ref C :: bm, ns := N, qualname := q, hasDict := true, slotNames := sn, subclasses := sub, abstract := ab, collection := col, hasDel := false } := by
  obtain ⟨nm, q, N, bs, bm, sn, sub, ab, col, dd, k0, k1, k2, k3, k5, hC, hbm⟩ := T.cls
  exact ⟨nm, q, N, bs, bm, sn, sub, ab, col, dd, k0, k1, k2, k3, k5, hC, hbm, by unfold PySem.W.clsIn; rw [hC] <;> rfl⟩
theorem ostT_new (T : OexC X.K C) (I : Inv X pins σ H s) (e : H a = some (exoT a C none t)) (hno : PySem.W.findIn X.K (.ref C) f = some none) (ry : RelV y u)
    (h : ∀ dx s', H dx = none → dx ≠ a → Inv X pins σ (upd (upd H dx (exd dx [(f, y)])) a (exoT a C (some dx) t)) s' → Q () s') : wpAny (model X.prog X.w) A (setAttr (.ref a) f u) Q E s := by
  obtain ⟨nm, q, N, bs, bm, sn, sub, ab, col, dd, k0, k1, k2, k3, k5, hC, hbm, hcl⟩ := cls_of T
  have ho := exoT_at I.hok e
  obtain ⟨hp, g, d, tk, os⟩ := s
  refine PySem.W.set_plain I.kIn (ox := eob C none t) (od := none) ⟨ho, rfl, rfl, trivial⟩ T.sa ?_
  refine PySem.HandSPX.exc_osa I.kIn ho hcl (show PySem.HandSPX.refsVE (.ref C :: bm) = true from hbm) rfl hno (fun h' tk' dx k dn dne hx hn => ?_)
  have fresh : H dx = none := I.hok.fresh dn
  have old : ∀ {b : Addr} {o : Obj}, hp.get? b = some o → b ≠ dx := fun {b o} q => Nat.ne_of_lt (Nat.lt_of_lt_of_le (Heap.lt_size q) dn)
  have na : ∀ {b : Addr}, H b = none → b ≠ a := fun {b} n z => by rw [z, e] at n; cases n
  have rd : ∀ {b : Addr}, b ≠ a → b ≠ dx → upd (upd H dx (exd dx [(f, y)])) a (exoT a C (some dx) t) b = H b := fun {b} h1 h2 => by rw [upd_ne h1, upd_ne h2]
  refine h dx _ fresh dne (I.un (t' := tk') ⟨fun b o q n _ _ => k b o (na n) q, fun b o q n _ _ => ⟨o.slots, k b o (na n) q⟩, fun b o q n _ => by rw [rd (na n) (old q)]; exact n, fun b o q _ => ?_,
    fun b xs q => by rw [rd (at_ne e q exoT_tup) (ne_of_none q fresh)]; exact q, fun b o v q => by rw [rd (at_ne e q exoT_frz) (ne_of_none q fresh)]; exact q, fun b ps q => ⟨#[], by rw [rd (at_ne e q exoT_tbl) (ne_of_none q fresh), q]; simp⟩⟩ fun b o q => ?_)
  · by_cases hb : b = a
    · exact ⟨_, by rw [hb]; exact hx⟩
    · exact ⟨o, k b o hb q⟩
  · by_cases hb : b = a
    · subst hb
      rw [upd_same] at q
      cases q
      exact exoT_ok hx
    · by_cases hd : b = dx
      · subst hd
        rw [upd_ne hb, upd_same] at q
        cases q
        exact exd_ok hn (relO_put (fs := []) ry fun g => True.intro)
      · rw [rd hb hd] at q
        refine (I.hok b o q).stay (fun c v hc z => k c v ?_ z) (fun c hc => by rw [rd (at_ne e hc exoT_own) (ne_of_none hc fresh)]; exact hc) fun c xs hc => by rw [rd (at_ne e hc exoT_tup) (ne_of_none hc fresh)]; exact hc
        rcases hc with hc | hc
        · rw [hc]; exact hb
        · exact at_ne e hc exoT_own
theorem ostT_old (T : OexC X.K C) (I : Inv X pins σ H s) (e : H a = some (exoT a C (some dx) t)) (ed : H dx = some (exd dx fs)) (hl : fs.length ≤ 900) (hno : PySem.W.findIn X.K (.ref C) f = some none) (ry : RelV y u)
    (h : ∀ s', Inv X pins σ (upd H dx (exd dx ((f, y) :: fs))) s' → Q () s') : wpAny (model X.prog X.w) A (setAttr (.ref a) f u) Q E s := by
  obtain ⟨nm, q, N, bs, bm, sn, sub, ab, col, dd, k0, k1, k2, k3, k5, hC, hbm, hcl⟩ := cls_of T
  have ho := exoT_at I.hok e
  obtain ⟨mA, hns, rel⟩ := exd_at I.hok ed
  have hw := within_of rel
  obtain ⟨hp, g, d, tk, os⟩ := s
  obtain ⟨oD, _, _, hoD, _, _⟩ := hns.count hw
  refine PySem.W.set_plain I.kIn (ox := eob C (some dx) t) (od := some oD) ⟨ho, rfl, rfl, hoD⟩ T.sa ?_
  refine PySem.OEX.osa_old I.kIn ho hns hw (by rw [List.length_map]; omega) hcl (show PySem.HandSPX.refsVE (.ref C :: bm) = true from hbm) rfl hno (fun h' tk' k hn => ?_)
  obtain ⟨o, _, _, e', _⟩ := id hn
  exact h _ (I.write (t' := tk') (x := dx) (e := dx) (o := exd dx ((f, y) :: fs)) (by rw [ed]; exact True.intro) (.inl rfl) k ⟨o, e'⟩ (exd_ok hn (relO_put ry rel)))
end
def tOst (K : PySem.W.Frag) (f : Str) (to te : TE) : TS := fun D σ H => te σ H fun y H1 => to σ H1 fun x H2 => ∃ a C t : Addr, x = .ref a ∧ OexC K C ∧ PySem.W.findIn K (.ref C) f = some none ∧
  ((H2 a = some (exoT a C none t) ∧ ∀ dx, H2 dx = none → dx ≠ a → D.nx σ (upd (upd H2 dx (exd dx [(f, y)])) a (exoT a C (some dx) t))) ∨
    ∃ (dx : Addr) (fs : List (Str × V)), H2 a = some (exoT a C (some dx) t) ∧ H2 dx = some (exd dx fs) ∧ fs.length ≤ 900 ∧ D.nx σ (upd H2 dx (exd dx ((f, y) :: fs))))
section
variable {X : Cx} {o e : Expr} {es : List Expr} {to te : TE} {ta : TA} {f : Str} {p p' p1 p2 pos : Pos}
theorem ps_ost (ho : PE X o to) (he : PE X e te) (hs : swapsWith e (some (.Attribute o f p')) pos.line X.env = pure false := by rfl) : PS X (.Assign [.Attribute o f p'] e pos) (tOst X.K f to te) := by
  refine ⟨fun pins s σ H D I h => plainObj_wpAny_Assign_Attribute (thn (he.run pins s σ H _ I h) fun v s1 ⟨y, H1, I1, r1, q1⟩ => thn (ho.run pins s1 σ H1 _ I1 q1) fun u s2 ⟨x, H2, I2, r2, a, C, t, ex, T, hno, q⟩ => ?_) hs⟩
  subst ex
  obtain rfl : u = Value.ref a := r2
  rcases q with ⟨ea, q⟩ | ⟨dx, fs, ea, ed, hl, q⟩
  · exact ostT_new T I2 ea hno r1 fun dx s' n ne J => ⟨σ, _, J, q dx n ne⟩
  · exact ostT_old T I2 ea ed hl hno r1 fun s' J => ⟨σ, _, J, q⟩
def tMk (C : Addr) (sp : Sp) (ta : TA) : L2.St → Hp → XK → Prop := fun σ H Q => ta σ H fun vs H1 => vs.length ≤ 1000 ∧ ∀ a t0, H1 a = none → sp (.ref a :: vs) (upd H1 a (exoT a C none t0))
  (fun v H2 => v = .non ∧ ∃ (d t : Addr) (tx : Str) (fs : List (Str × V)), H2 a = some (exoT a C (some d) t) ∧ H2 d = some (exd d fs) ∧ H1 d = none ∧ H2 t = some (.tup [V.str tx]) ∧ TextOf (upd (del H2 a) d (.xd fs)) (some d) tx ∧ Q (.ref C) (some d) (upd (del H2 a) d (.xd fs))) (fun _ _ _ => False)
end
end VX
namespace VX
open PySem PySem.Spec PyProof.Rows L2
theorem un_exo {fs : List Addr} {H1 H2 : Hp} {h1 h2 : Heap} {a C t0 t : Addr} {d : Option Addr} (ea : H2 a = some (exoT a C d t)) (U : Un fs [] (upd H1 a (exoT a C none t0)) H2 h1 h2) : Un fs [] (upd H1 a (exo a C none)) (upd H2 a (exo a C d)) h1 h2 := by
  have e1 : ∀ {b : Addr} {o : HO}, (∀ φ, HO.ext φ ≠ o) → upd H1 a (exo a C none) b = some o → b ≠ a ∧ upd H1 a (exoT a C none t0) b = some o := fun {b o} hn h => by
    have hb : b ≠ a := fun z => by rw [z, upd_same] at h; exact hn _ (Option.some.inj h)
    rw [upd_ne hb] at h
    exact ⟨hb, by rw [upd_ne hb]; exact h⟩
  have e0 : ∀ {b : Addr}, upd H1 a (exo a C none) b = none → b ≠ a ∧ upd H1 a (exoT a C none t0) b = none := fun {b} h => by
    have hb : b ≠ a := fun z => by rw [z, upd_same] at h; cases h
    rw [upd_ne hb] at h
    exact ⟨hb, by rw [upd_ne hb]; exact h⟩
  refine ⟨fun b o q n hf hx => U.keep b o q (e0 n).2 hf hx, fun b o q n hf hx => U.slot b o q (e0 n).2 hf hx, fun b o q n hx => ?_, U.there, fun b xs q => ?_, fun b o v q => ?_, fun b ps q => ?_⟩
  · obtain ⟨hb, n⟩ := e0 n
    rw [upd_ne hb]; exact U.free b o q n hx
  · obtain ⟨hb, q⟩ := e1 (fun φ z => by cases z) q
    rw [upd_ne hb]; exact U.tups b xs q
  · obtain ⟨hb, q⟩ := e1 (fun φ z => by cases z) q
    rw [upd_ne hb]; exact U.frzs b o v q
  · obtain ⟨hb, q⟩ := e1 (fun φ z => by cases z) q
    rw [upd_ne hb]; exact U.tbls b ps q
theorem hok_exo {P : Program} {w : World} {H : Hp} {h : Heap} {a C t : Addr} {d : Option Addr} (hok : HOk P w H h) (ea : H a = some (exoT a C d t)) : HOk P w (upd H a (exo a C d)) h := fun b o q => by
  by_cases hb : b = a
  · subst hb
    rw [upd_same] at q
    cases q
    exact exo_ok (exoT_at hok ea)
  · rw [upd_ne hb] at q
    have ne : ∀ {c : Addr} {o : HO}, (∀ φ, HO.ext φ ≠ o) → H c = some o → c ≠ a := fun {c o} hn hc z => by
      rw [z, ea] at hc; exact hn _ (Option.some.inj hc)
    exact (hok b o q).stay (fun c v hc z => z) (fun c hc => by rw [upd_ne (ne (fun φ z => by cases z) hc)]; exact hc) fun c xs hc => by rw [upd_ne (ne (fun φ z => by cases z) hc)]; exact hc
theorem del_upd {H : Hp} {a : Addr} {o : HO} : del (upd H a o) a = del H a := by
  funext b
  by_cases hb : b = a
  · rw [hb, L2.del_same, L2.del_same]
  · rw [L2.del_ne hb, L2.del_ne hb, upd_ne hb]
section
variable {X : Cx} {e : Expr} {es : List Expr} {ta : TA} {p pos : Pos}
theorem pmk {CX' : CXT} {x : Str} {C fI : Addr} {k : Nat} {fd : FuncData} {ps : List Str} {sp : Sp} (T : OexC X.K C) (iC : PySem.W.findIn X.K (.ref C) "__init__" = some (some (.ref fI))) (tI : PySem.W.typeIn X.K (.ref fI) = some (.type "function"))
    (F1 : FnOk X.prog X.w X.K X.mg X.base CX' k fI fd ps sp) (hr : Room (k + 1) X.A) (hb : Binds X.K fd ps []) (hx : Passes CX' X (fun _ _ _ => False)) (hg : Gl X x) (hm : X.mg x = some (.ref C)) (ha : PA X (e :: es) ta)
    (hdb : (x == ("__debug__" : Str)) = false := by decide) (he : starEach (e :: es) X.env = (false, eval e X.env) :: starEach es X.env := by rfl) (hpl : (backTo pos (starEach es X.env)).any (·.1) = false := by rfl) :
    PMk X (.Call (.Name x p) (e :: es) [] pos) (tMk C sp ta) := by
  intro pins s σ H Q I h
  obtain ⟨nm, q, N, bs, bm, sn, sub, ab, col, dd, k0, k1, k2, k3, k5, hC, hbm, _⟩ := cls_of T
  refine wpAny_Call_Name_kw (ld_glob I hg hm ?_ hdb)
  refine PySem.W.callWith_K (h₀ := X.base) I.ok.mod.kin T.kC (thn (ha.run pos pins s σ H _ I h) fun us s1 ⟨vs, H1, I1, r1, hz, q1⟩ => ⟨I1.kIn, ?_⟩) he hpl
  show wpAny _ _ (call (.ref C) us) _ _ _
  obtain ⟨hp, g, dr, tk, os⟩ := s1
  generalize hA : hp.objs.size + 1 = a
  have ge : hp.objs.size ≤ a := by omega
  generalize hG : (hp.push (PySem.W.kdv_tup us)).push (PySem.HandSPX.excO C hp.objs.size) = hp2
  have keep : ∀ b o, hp.get? b = some o → hp2.get? b = some o := fun b o e => by rw [← hG]; exact Heap.get?_push_of_some _ (Heap.get?_push_of_some _ e)
  have hget : hp2.get? a = some (eob C none hp.objs.size) := by rw [← hG, ← hA]; heap_get
  have hn : H1 a = none := I1.hok.fresh ge
  have hq := q1 a hp.objs.size hn
  have I2 : Inv X pins σ (upd H1 a (exoT a C none hp.objs.size)) ⟨hp2, g, dr, tk, os⟩ := I1.laid (t' := tk) keep ge (exoT_ok hget)
  have r2 : Vals (V.ref a :: vs) (Value.ref a :: us) := .cons rfl r1
  have hl : (Value.ref a :: us).length = ps.length := (r2.length.symm.trans (F1.len _ _ _ _ hq))
  have hus : us.length ≤ sizeLine := by
    rw [← Paired.length r1, sizeLine_eq]
    omega
  subst hA; subst hG
  refine wpAny_call (PySem.HandSPX.call_own F.excBase_ValueError (fun Y => PySem.HandSPX.refsVE_contains Y bm hbm) (I1.kIn _ _ hC) (PySem.W.looks_findIn I1.kIn iC) (fun self => PySem.W.bind_fn I1.kIn self tI) hus
    (codeAny_mono (F1.run _ X.stack _ _ ⟨Value.ref (hp.objs.size + 1) :: us, []⟩ (Value.ref (hp.objs.size + 1) :: us) _ _ (fun _ _ _ => False) (hr.make C us []) (I2.env0.make C us []) (by have z := hb _ (Value.ref (hp.objs.size + 1) :: us) I2.kIn (by rw [List.append_nil]; exact hl); rw [List.append_nil] at z; exact z) r2 hq) fun r s' hq' => ?_))
  cases r with
  | error er => exact hx pins σ _ _ er s' I2 hq'
  | ok fl =>
    cases fl with
    | ret u =>
      obtain ⟨v, H2, os2, bare2, un2, hok2, rv, ev, d, t, tx, fs, ea, ed, hd1, et, ht, q2⟩ := hq'
      subst ev
      obtain ⟨h2, g2, d2, t2, os'⟩ := s'
      have nda : d ≠ hp.objs.size + 1 := fun z => by rw [z, ea] at ed; have ed := Option.some.inj ed; have hh := exoT_at hok2 ea; have hx : ObjOk X.prog X.w H2 h2 d (exd d fs) := hok2 d _ (by rw [z, ea, ed]); obtain ⟨⟨mA, ⟨o, _, _, e1, e2, _⟩, _⟩, _⟩ := hx; rw [z, hh] at e1; cases e1; cases e2
      have nta : t ≠ hp.objs.size + 1 := fun z => by rw [z, ea] at et; exact exoT_tup (Option.some.inj et)
      have ntd : t ≠ d := fun z => by rw [z, ed] at et; exact exd_tup (Option.some.inj et)
      obtain ⟨t1, G, J, kG, g0, hoe, na⟩ := mk_end0 (d2 := d2) (t2 := t2) (H2 := upd H2 (hp.objs.size + 1) (exo (hp.objs.size + 1) C (some d))) (C := C) (d := d) (fs := fs) I1 (Nat.le_succ _) keep (un_exo ea un2) (hok_exo hok2 ea) os2 bare2 upd_same (by rw [upd_ne nda]; exact ed) hd1
      rw [del_upd] at J na
      have e0 : h2.get? (hp.objs.size + 1) = some (eob C (some d) t) := exoT_at hok2 ea
      exact ⟨rv, _, _, _, ⟨G, g2, d2, t2, os'⟩, _, .ref C, some d, t, rfl, J, kG, g0, e0, ⟨rfl, rfl⟩, rfl, rfl, rfl, na, rfl, bare2, raises_own T.exC T.tyC, ⟨tx, by rw [upd_ne ntd, L2.del_ne nta]; exact et, ht⟩, q2⟩
    | next => exact False.elim hq'
    | brk => exact False.elim hq'
    | cont => exact False.elim hq'
end
end VX
namespace VS
open PySem PySem.Spec PyProof.Rows L2
structure Cq where
  G : Glob
  R : Hp
  F0 : Hp
  E : XP
  k : Nat
def excK (C : Cq) : XK := fun cls d H' => ∃ c fs M' F', C.E c fs M' ∧ Ex C.F0 F' ∧ Good C.G C.R F' H' M' ∧ C.G.mg (Str.ofString c) = some cls ∧ (∃ Ca, cls = .ref Ca) ∧
  (match fs, d with | none, none => True | some fs, some da => ∃ xfs, H' da = some (.xd xfs) ∧ RpF C.G F' xfs fs | _, _ => False)
structure Ctx (C : Cq) (X : Cx) : Prop where
  g : CtxG C.G X
  room : Room C.k X.A
  pass : Passes (VX.CX X.prog X.w) X (excK C)
structure SR (C : Cq) (σd : Env) (M : Store) (R F : Hp) (σ : L2.St) (H : Hp) : Prop where
  e : C.E = X0 ∨ R = C.R
  f0 : Ex C.F0 F
  env : EnvR C.G F σd σ
  good : Good C.G R F H M
theorem SR.step {C : Cq} {σd : Env} {M M' : Store} {R F F' : Hp} {σ : L2.St} {H H' : Hp} (s : SR C σd M R F σ H) (e : Ex F F') (g : Good C.G R F' H' M') : SR C σd M' R F' σ H' :=
  ⟨s.e, s.f0.trans e, s.env.mono e, g⟩
def WishN (G : Glob) (R F : Hp) (n : Nat) (Qd : List D → Store → Prop) (Q : List V → Hp → Prop) : Prop := ∀ d M' v F' H', d.length = n → Qd d M' → Ex F F' → Good G R F' H' M' → RpL G F' v d → Q v H'
def PXs.len : PXs → Nat
  | .nil => 0 | .cons _ es => es.len + 1
def rE (C : Cq) (p : PX) : TE := fun σ H Q => ∃ σd M R F Qd, SR C σd M R F σ H ∧ dE C.E p σd M Qd ∧ Wish C.G R F Qd Q
def rEs (C : Cq) (ps : PXs) : TA := fun σ H Q => ∃ σd M R F Qd, SR C σd M R F σ H ∧ dEs C.E ps σd M Qd ∧ WishN C.G R F ps.len Qd Q
def rT (C : Cq) (t : PT) : TT := fun σ H Q => ∃ σd M R F Qd, SR C σd M R F σ H ∧ dT C.E t σd M Qd ∧ WishB C.G R F Qd Q
def rAnd (C : Cq) (p : PXs) : TE := fun σ H Q => ∃ σd M R F Qd, SR C σd M R F σ H ∧ dAnd C.E p σd M Qd ∧ Wish C.G R F Qd Q
def rOr (C : Cq) (p : PXs) : TE := fun σ H Q => ∃ σd M R F Qd, SR C σd M R F σ H ∧ dOr C.E p σd M Qd ∧ Wish C.G R F Qd Q
def rTA (C : Cq) (t : PTs) : TT := fun σ H Q => ∃ σd M R F Qd, SR C σd M R F σ H ∧ dTA C.E t σd M Qd ∧ WishB C.G R F Qd Q
def rTO (C : Cq) (t : PTs) : TT := fun σ H Q => ∃ σd M R F Qd, SR C σd M R F σ H ∧ dTO C.E t σd M Qd ∧ WishB C.G R F Qd Q
def rIf (C : Cq) (t : PIf) : TT := fun σ H Q => ∃ σd M R F Qd, SR C σd M R F σ H ∧ dIf C.E t σd M Qd ∧ WishB C.G R F Qd Q
def Walks (G : Glob) (J : It) (xs : List D) (g : Store → Prop) (F0 : Hp) : Prop := ∀ i R F H M, Ex F0 F → Good G R F H M → g M →
  (∀ x, xs[i]? = some x → J.go i H ∧ ∀ v H', J.yld i H v H' → ∃ F', Ex F F' ∧ Good G R F' H' M ∧ Rp G F' v x) ∧ (xs.length ≤ i → J.stop i H)
def WishI (G : Glob) (R F : Hp) (Qd : List D → (Store → Prop) → Store → Prop) (Q : It → Hp → Prop) : Prop :=
  ∀ xs g M' F' H' J, Qd xs g M' → Ex F F' → Good G R F' H' M' → Walks G J xs g F' → xs.length ≤ line → Q J H'
def rI (C : Cq) (t : PIt) : TI := fun σ H Q => ∃ σd M R F Qd, SR C σd M R F σ H ∧ dIt C.E t σd M Qd ∧ WishI C.G R F Qd Q
abbrev PEs (C : Cq) (X : Cx) (p : PX) : Prop := ∀ e, isX X.N X.env.scope p e = true → PE X e (rE C p)
def AllPE (C : Cq) (X : Cx) : PXs → Prop
  | .nil => True
  | .cons p ps => PEs C X p ∧ AllPE C X ps
structure PrF (G : Glob) (k : Nat) (m : Mr) (w : Spec) (n : Nat) : Prop where
  ok : ∀ {C : Cq} {X : Cx}, Ctx C X → C.G = G → C.k = k → ∀ {es : PXs} {e : Expr} {xs : List Expr}, es.len = n → prB e = true → m X.N X.env.scope e = some xs → isXs X.N X.env.scope es xs = true → AllPE C X es → PE X e (rE C (.pr m w es))
structure PgF (G : Glob) (k : Nat) (m : Mr) (t : Gd) (w : Spec) (n : Nat) : Prop where
  ok : ∀ {C : Cq} {X : Cx}, Ctx C X → C.G = G → C.k = k → ∀ {es : PXs} {e : Expr} {xs : List Expr}, es.len = n → prB e = true → m X.N X.env.scope e = some xs → isXs X.N X.env.scope es xs = true → AllPE C X es → PE X e (rE C (.pg m t w es))
structure PiF (G : Glob) (k : Nat) (m : Mr) (w : WI) (n : Nat) : Prop where
  ok : ∀ {C : Cq} {X : Cx}, Ctx C X → C.G = G → C.k = k → ∀ {es : PXs} {e : Expr} {xs : List Expr}, es.len = n → prB e = true → m X.N X.env.scope e = some xs → isXs X.N X.env.scope es xs = true → AllPE C X es → ∀ tg, PI X tg e (rI C (.pr m w es))
structure PtF (G : Glob) (k : Nat) (m : Mr) (w : WI) (n : Nat) : Prop where
  ok : ∀ {C : Cq} {X : Cx}, Ctx C X → C.G = G → C.k = k → ∀ {es : PXs} {e : Expr} {xs : List Expr}, es.len = n → prB e = true → m X.N X.env.scope e = some xs → isXs X.N X.env.scope es xs = true → AllPE C X es → ∀ elts kk tp, PI X (.Tuple elts kk tp) e (rI C (.prt m w es))
structure FnFor (G : Glob) (k : Nat) (f : String) (n : Nat) (sp : Spec) : Prop where
  ex : ∃ (fa : Addr) (fd : FuncData) (names : List Str), FnOk G.prog G.w G.K G.mg G.base (VX.CX G.prog G.w) k fa fd names (toSp G n sp) ∧ G.mg (Str.ofString f) = some (.ref fa) ∧ PySem.W.keepIn G.K (.ref fa) = true ∧ Binds G.K fd names []
structure MethFor (G : Glob) (k : Nat) (cl m : String) (n : Nat) (sp : Spec) : Prop where
  ex : ∃ (C fa : Addr) (fd : FuncData) (names : List Str), G.mg (Str.ofString cl) = some (.ref C) ∧ Cls G.K C ∧ Meth G.K C (Str.ofString m) fa ∧ FnOk G.prog G.w G.K G.mg G.base (VX.CX G.prog G.w) k fa fd names (toSp G n sp) ∧ Binds G.K fd names []
structure GlobF (G : Glob) (x : String) (d : D) : Prop where
  ex : ∃ v u, G.mg (Str.ofString x) = some u ∧ RelV v u ∧ ∀ F, Rp G F v d
structure AttrF (G : Glob) (cl f : String) : Prop where
  ex : ∃ C, G.mg (Str.ofString cl) = some (.ref C) ∧ Cls G.K C ∧ NoAttr G.K C (Str.ofString f)
def noB (G : Glob) (x : String) : Prop := G.mg (Str.ofString x) = none
def fiveTys : List String := ["list", "tuple", "str", "int", "bool"]
def biB : Bi → Bool
  | .str => false | _ => true
def tvB : PX → Bool
  | .and _ => false | .or _ => false | .not _ => false | .ife _ _ _ => false | _ => true
mutual
def okX (G : Glob) (k : Nat) : PX → Prop
  | .v _ => True | .c _ => True | .g x d => GlobF G x d
  | .bin _ a b => okX G k a ∧ okX G k b | .neg a => okX G k a
  | .cmp _ a b => okX G k a ∧ okX G k b | .cmp2 _ _ a b c => okX G k a ∧ okX G k b ∧ okX G k c
  | .not a => okX G k a | .and es => okXs G k es | .or es => okXs G k es | .ife t a b => okT G k t ∧ okX G k a ∧ okX G k b
  | .tup es => okXs G k es | .lst es => okXs G k es | .mlst es => okXs G k es | .mdic => True
  | .ix a b => okX G k a ∧ okX G k b | .sl a _ _ lo hi => okX G k a ∧ okX G k lo ∧ okX G k hi
  | .call f sp es => FnFor G k f es.len sp ∧ okXs G k es
  | .bi b es => noB G (biName b) ∧ biB b = true ∧ okXs G k es
  | .isi a t => noB G "isinstance" ∧ noB G t ∧ t ∈ fiveTys ∧ okX G k a
  | .isi2 a t u => noB G "isinstance" ∧ noB G t ∧ t ∈ fiveTys ∧ noB G u ∧ u ∈ fiveTys ∧ okX G k a
  | .mth _ a es => okX G k a ∧ okXs G k es
  | .meth cl m sp a es => MethFor G k cl m (es.len + 1) sp ∧ okX G k a ∧ okXs G k es
  | .attr cl a f => AttrF G cl f ∧ okX G k a
  | .lc elt _ tg it cnd => okX G k elt ∧ okIt G k it ∧ okIf G k cnd ∧ tgOk tg it
  | .dc kx vx _ tg it cnd => okX G k kx ∧ okX G k vx ∧ okIt G k it ∧ okIf G k cnd ∧ tgOk tg it
  | .pr m w es => PrF G k m w es.len ∧ okXs G k es
  | .pg m t w es => PgF G k m t w es.len ∧ okXs G k es
def okXs (G : Glob) (k : Nat) : PXs → Prop
  | .nil => True | .cons e es => okX G k e ∧ okXs G k es
def okT (G : Glob) (k : Nat) : PT → Prop
  | .val a => okX G k a ∧ tvB a = true | .and ts => okTs G k ts | .or ts => okTs G k ts | .not a => okT G k a
def okTs (G : Glob) (k : Nat) : PTs → Prop
  | .nil => True | .cons e es => okT G k e ∧ okTs G k es
def okIt (G : Glob) (k : Nat) : PIt → Prop
  | .ex a => okX G k a | .rng1 a => noB G "range" ∧ okX G k a | .rng2 a b => noB G "range" ∧ okX G k a ∧ okX G k b | .rng3 a b c => noB G "range" ∧ okX G k a ∧ okX G k b ∧ okX G k c
  | .enum _ => False | .zip _ _ => False | .rev _ => False | .pr m w es => PiF G k m w es.len ∧ okXs G k es | .prt m w es => PtF G k m w es.len ∧ okXs G k es
def okIf (G : Glob) (k : Nat) : PIf → Prop
  | .nil => True | .one t => okT G k t
end
theorem PE.imp {X : Cx} {e : Expr} {t t' : TE} (h : PE X e t) (i : ∀ σ H Q, t' σ H Q → t σ H Q) : PE X e t' := ⟨fun pins s σ H Q I q => h.run pins s σ H Q I (i σ H Q q)⟩
theorem PT.imp {X : Cx} {e : Expr} {t t' : TT} (h : L2.PT X e t) (i : ∀ σ H Q, t' σ H Q → t σ H Q) : L2.PT X e t' := ⟨fun pins s σ H Q I q => h.run pins s σ H Q I (i σ H Q q)⟩
theorem PTs.imp {X : Cx} {e : List Expr} {t t' : TT} (h : L2.PTs X e t) (i : ∀ σ H Q, t' σ H Q → t σ H Q) : L2.PTs X e t' := ⟨fun pins s σ H Q I q => h.run pins s σ H Q I (i σ H Q q)⟩
theorem PA.imp {X : Cx} {e : List Expr} {t t' : TA} (h : PA X e t) (i : ∀ σ H Q, t' σ H Q → t σ H Q) : PA X e t' := ⟨fun pos pins s σ H Q I q => h.run pos pins s σ H Q I (i σ H Q q)⟩
theorem PI.imp {X : Cx} {tg e : Expr} {t t' : TI} (h : PI X tg e t) (i : ∀ σ H Q, t' σ H Q → t σ H Q) : PI X tg e t' := ⟨fun pins s σ H Q I q => h.run pins s σ H Q I (i σ H Q q)⟩
theorem PS.imp {X : Cx} {e : Stmt} {t t' : TS} (h : PS X e t) (i : ∀ D σ H, t' D σ H → t D σ H) : PS X e t' := ⟨fun pins s σ H D I q => h.run pins s σ H D I (i D σ H q)⟩
section
variable {G : Glob} {F : Hp} {a : Addr} {xs : List D} {g : Store → Prop}
theorem walks_list (h : ∀ R F' H M, Ex F F' → Good G R F' H M → g M → ∃ vs, SqL G.K H a vs ∧ RpL G F' vs xs) : Walks G (Itl G.K a) xs g F := fun i R F' H M e gd gm => by
  obtain ⟨vs, h1, h2⟩ := h R F' H M e gd gm
  refine ⟨fun x hx => ?_, fun hi => ⟨vs, h1, by rw [h2.length]; exact hi⟩⟩
  obtain ⟨v, hv, _⟩ := h2.get hx
  refine ⟨⟨vs, v, h1, hv⟩, fun w H' hy => ?_⟩
  obtain ⟨rfl, hw⟩ := hy
  have e1 := hw vs h1
  rw [hv] at e1
  cases e1
  obtain ⟨v2, hv2, r2⟩ := h2.get hx
  rw [hv] at hv2; cases hv2
  exact ⟨F', Ex.refl F', gd, r2⟩
theorem walks_tup (h : ∀ R F' H M, Ex F F' → Good G R F' H M → g M → ∃ vs, SqT G.K H a vs ∧ RpL G F' vs xs) : Walks G (Itt G.K a) xs g F := fun i R F' H M e gd gm => by
  obtain ⟨vs, h1, h2⟩ := h R F' H M e gd gm
  refine ⟨fun x hx => ?_, fun hi => ⟨vs, h1, by rw [h2.length]; exact hi⟩⟩
  obtain ⟨v, hv, r2⟩ := h2.get hx
  refine ⟨⟨vs, v, h1, hv⟩, fun w H' hy => ?_⟩
  obtain ⟨rfl, hw⟩ := hy
  have e1 := hw vs h1
  rw [hv] at e1
  cases e1
  exact ⟨F', Ex.refl F', gd, r2⟩
theorem rngD_at {lo hi : Int} {i : Nat} {x : D} (h : (rngD lo hi)[i]? = some x) : i < (hi - lo).toNat ∧ x = .int (lo + (i : Int)) := by
  unfold rngD at h
  rw [List.getElem?_map] at h
  cases q : (List.range (hi - lo).toNat)[i]? with
  | none => rw [q] at h; cases h
  | some j =>
    rw [q] at h
    have hl := (List.getElem?_eq_some_iff.mp q).1
    rw [List.length_range] at hl
    rw [List.getElem?_range hl] at q
    cases q
    exact ⟨hl, (Option.some.inj h).symm⟩
theorem rngD_len (lo hi : Int) : (rngD lo hi).length = (hi - lo).toNat := by unfold rngD; rw [List.length_map, List.length_range]
theorem walks_rng (lo hi : Int) : Walks G (Itr lo (hi - lo).toNat) (rngD lo hi) g F := fun i R F' H M e gd gm => by
  refine ⟨fun x hx => ?_, fun hi' => by rw [rngD_len] at hi'; exact hi'⟩
  obtain ⟨h1, rfl⟩ := rngD_at hx
  refine ⟨h1, fun w H' hy => ?_⟩
  obtain ⟨rfl, rfl⟩ := hy
  exact ⟨F', Ex.refl F', gd, .int _⟩
theorem chars_at {s : String} {i : Nat} {x : D} (h : (chars s)[i]? = some x) : ∃ c, s.toList[i]? = some c ∧ x = .str (String.singleton c) := by
  unfold chars at h
  rw [List.getElem?_map] at h
  cases q : s.toList[i]? with
  | none => rw [q] at h; cases h
  | some c => rw [q] at h; exact ⟨c, rfl, (Option.some.inj h).symm⟩
end
theorem single_cps' (a : Char) : Str.ofString (String.singleton a) = ⟨#[a.toNat]⟩ := by
  refine Str.ext' ?_
  rw [ofString_cps]
  simp
theorem walks_str {G : Glob} {F : Hp} {g : Store → Prop} (s : String) : Walks G (Its (Str.ofString s)) (chars s) g F := fun i R F' H M e gd gm => by
  have hsz : (Str.ofString s).cps.size = (chars s).length := by
    have : (Str.ofString s).cps.toList.length = (chars s).length := by rw [ofString_cps, chars, List.length_map, List.length_map]
    simpa using this
  refine ⟨fun x hx => ?_, fun hi => ?_⟩
  · obtain ⟨c, h1, rfl⟩ := chars_at hx
    have h2 : (Str.ofString s).cps[i]? = some c.toNat := by
      rw [← Array.getElem?_toList, ofString_cps, List.getElem?_map, h1]; rfl
    refine ⟨?_, fun w H' hy => ?_⟩
    · have := (List.getElem?_eq_some_iff.mp hx).1
      show i < (Str.ofString s).cps.size
      omega
    · obtain ⟨rfl, c', h3, rfl⟩ := hy
      rw [h2] at h3; cases h3
      refine ⟨F', Ex.refl F', gd, ?_⟩
      rw [← single_cps']
      exact .str _
  · show (Str.ofString s).cps.size ≤ i
    omega
section
variable {G : Glob} {X : Cx} (C : CtxG G X)
include C
theorem iter_D {tg : Expr} {pins : List (Addr × Obj)} {σ : L2.St} {H : Hp} {s : Shared} {R : Hp} {F : Hp} {M : Store} {v : V} {u : Value} {d : D} {Qd : List D → (Store → Prop) → Prop} {Q : It → Hp → Prop}
    (I : Inv X pins σ H s) (rv : RelV v u) (gd : Good G R F H M) (r : Rp G F v d) (h : itD d M Qd) (w : ∀ xs g J, Qd xs g → Walks G J xs g F → xs.length ≤ line → Q J H) :
    wpAny (model X.prog X.w) X.A (pyIter u) (PIE X pins σ tg Q) X.xe s := by
  have list_case : ∀ (a : Addr) (vs : List V) (xs : List D) (g : Store → Prop), v = .ref a → SqL G.K H a vs → RpL G F vs xs → Qd xs g → (∀ R F' H M, Ex F F' → Good G R F' H M → g M → ∃ vs, SqL G.K H a vs ∧ RpL G F' vs xs) →
      wpAny (model X.prog X.w) X.A (pyIter u) (PIE X pins σ tg Q) X.xe s := fun a vs xs g e1 hs rl q hw => by
    subst e1
    cases rv
    have hs' : SqL X.K H a vs := by rw [C.K]; exact hs
    obtain ⟨its, rv, p, hz⟩ := I.list hs'
    refine wpAny_pyIter_list p.isList (pi_one (tk := s.toks) I _ (turn_list a _) ⟨_, Heap.get?_push_size _ rfl, rfl, rfl⟩ ?_)
    rw [C.K]
    exact w xs g _ q (walks_list hw) (by rw [← rl.length, ← line_eq]; exact hz)
  unfold itD at h
  split at h
  · rename_i xs
    cases r with
    | lst ha rl => exact list_case _ _ xs _ rfl (SqL.of (gd.ex _ _ ha)) rl h fun R F' H M e g _ => ⟨_, SqL.of (g.ex _ _ (e _ _ ha)), rl.mono e⟩
  · rename_i xs
    cases r with
    | tup ha rl =>
      rename_i a vs
      cases rv
      have hs' : SqT X.K H a vs := by rw [C.K]; exact gd.ex.t ha
      obtain ⟨its, rv, p, hz⟩ := I.tuple hs'
      refine wpAny_pyIter_tuple (show s.heap.IsTuple a its.toArray from p) (pi_one (tk := s.toks) I _ (turn_tuple a _) ⟨_, Heap.get?_push_size _ rfl, rfl, rfl⟩ ?_)
      rw [C.K]
      exact w xs _ _ h (walks_tup fun R F' H M e g _ => ⟨vs, g.ex.t (e.t ha), rl.mono e⟩) (by rw [← rl.length, ← line_eq]; exact hz)
  · rename_i t
    cases r
    obtain ⟨tk, rfl⟩ := rv
    have hl : (chars t).length ≤ line := by rw [chars, List.length_map, String.length_toList]; exact h.1
    have q := w _ _ _ h.2 (walks_str t) hl
    cases ha : (Str.ofString t).cps.all (· < 128)
    · exact wpAny_pyIter_wide ha (pi_one (tk := s.toks) I _ (turn_str _ _ tk "str_iterator" (.inr rfl)) ⟨_, Heap.get?_push_size _ rfl, rfl, rfl⟩ q)
    · exact wpAny_pyIter_ascii ha (pi_one (tk := s.toks) I _ (turn_str _ _ tk "str_ascii_iterator" (.inl rfl)) ⟨_, Heap.get?_push_size _ rfl, rfl, rfl⟩ q)
  · rename_i lo hi
    obtain ⟨⟨b1, b2, b3, b4⟩, hl, q⟩ := h
    cases r with
    | rng ha =>
      rename_i a
      cases rv
      obtain ⟨t1, t2, t3, ho⟩ := (show ObjOk X.prog X.w H s.heap a (.rng lo hi) from I.hok a _ (gd.ex _ _ ha))
      have hr : IsRange s.heap a lo hi 1 t1 t2 t3 := ho
      refine wpAny_pyIter_range hr (small_one b1 b2 b3 b4) (pi_one (tk := s.toks) I _ (turn_range _ lo (hi - lo).toNat) ?_ (w _ _ _ q (walks_rng lo hi) (by rw [rngD_len]; exact hl)))
      have e1 : lo + ((0 : Nat) : Int) * 1 = lo := by simp
      have e2 : (((hi - lo).toNat : Nat) : Int) - ((0 : Nat) : Int) = Builtin.Range.rangeSize lo hi 1 := by rw [rangeSize_one]; split <;> omega
      show IsRangeIter _ _ (lo + ((0 : Nat) : Int) * 1) ((((hi - lo).toNat : Nat) : Int) - ((0 : Nat) : Int)) 1
      rw [e1, e2]
      exact Heap.get?_push_size _ rfl
  · rename_i p
    split at h
    · rename_i xs e
      cases r
      obtain ⟨_, ho, hh, rm⟩ := gd.mt p _ e
      cases rm with
      | lst rl =>
        refine list_case p _ xs _ rfl (SqL.of hh) rl h fun R F' H M e g hm => ?_
        obtain ⟨_, ho', hh', rm'⟩ := g.mt p _ hm
        cases rm' with
        | lst rl' => exact ⟨_, SqL.of hh', rl'⟩
    · exact h.elim
  · exact h.elim
end
end VS
namespace VS
open PySem PySem.Spec PyProof.Rows L2
theorem bi_shape {sc : Scope} {x : String} {e : Expr} (h : isBi sc x e = true) : ∃ p, e = .Name (Str.ofString x) p ∧ glB sc (Str.ofString x) = true := by
  cases e <;> first | (exact absurd h Bool.false_ne_true) | skip
  rename_i y p
  have h' : (decide (y = Str.ofString x) && glB sc y) = true := h
  simp only [Bool.and_eq_true, decide_eq_true_eq] at h'
  obtain ⟨rfl, h'⟩ := h'
  exact ⟨p, rfl, h'⟩
theorem one_of {α : Type} {f : List α → Bool} (h0 : f [] = false) (h2 : ∀ a b r, f (a :: b :: r) = false) {l : List α} (h : f l = true) : ∃ a, l = [a] := by
  match l, h with
  | [], h => rw [h0] at h; cases h
  | [a], _ => exact ⟨a, rfl⟩
  | a :: b :: r, h => rw [h2] at h; cases h
theorem and_of {a b : Bool} (h : (a && b) = true) : a = true ∧ b = true := by simpa using h
section
variable {N : List Str} {sc : Scope}
theorem cmp_shape {o : COp} {a b : PX} {e : Expr} (h : isX N sc (.cmp o a b) e = true) : ∃ x op y pos, e = .Compare x [op] [y] pos ∧ copB o op = true ∧ isX N sc a x = true ∧ isX N sc b y = true := by
  cases e <;> first | (exact absurd h Bool.false_ne_true) | skip
  rename_i x ops ys pos
  match ops, ys, h with
  | [], _, h => exact absurd h Bool.false_ne_true
  | _ :: _ :: _, _, h => exact absurd h Bool.false_ne_true
  | [_], [], h => exact absurd h Bool.false_ne_true
  | [_], _ :: _ :: _, h => exact absurd h Bool.false_ne_true
  | [op], [y], h =>
    have h' : (copB o op && isX N sc a x && isX N sc b y) = true := h
    obtain ⟨h1, h2⟩ := and_of h'
    obtain ⟨h1, h3⟩ := and_of h1
    exact ⟨x, op, y, pos, rfl, h1, h3, h2⟩
theorem cmp2_shape {o1 o2 : COp} {a b c : PX} {e : Expr} (h : isX N sc (.cmp2 o1 o2 a b c) e = true) : ∃ x p q y z pos, e = .Compare x [p, q] [y, z] pos ∧ copB o1 p = true ∧ copB o2 q = true ∧ isX N sc a x = true ∧ isX N sc b y = true ∧ isX N sc c z = true := by
  cases e <;> first | (exact absurd h Bool.false_ne_true) | skip
  rename_i x ops ys pos
  match ops, ys, h with
  | [], _, h => exact absurd h Bool.false_ne_true
  | [_], _, h => exact absurd h Bool.false_ne_true
  | _ :: _ :: _ :: _, _, h => exact absurd h Bool.false_ne_true
  | [_, _], [], h => exact absurd h Bool.false_ne_true
  | [_, _], [_], h => exact absurd h Bool.false_ne_true
  | [_, _], _ :: _ :: _ :: _, h => exact absurd h Bool.false_ne_true
  | [p, q], [y, z], h =>
    have h' : (copB o1 p && copB o2 q && isX N sc a x && isX N sc b y && isX N sc c z) = true := h
    obtain ⟨h', h5⟩ := and_of h'
    obtain ⟨h', h4⟩ := and_of h'
    obtain ⟨h', h3⟩ := and_of h'
    obtain ⟨h1, h2⟩ := and_of h'
    exact ⟨x, p, q, y, z, pos, rfl, h1, h2, h3, h4, h5⟩
theorem call_shape {f : String} {sp : Spec} {es : PXs} {e : Expr} (h : isX N sc (.call f sp es) e = true) : ∃ p xs pos, e = .Call (.Name (Str.ofString f) p) xs [] pos ∧ glB sc (Str.ofString f) = true ∧ isXs N sc es xs = true := by
  cases e <;> first | (exact absurd h Bool.false_ne_true) | skip
  rename_i fn xs kws pos
  match kws, h with
  | _ :: _, h => exact absurd h Bool.false_ne_true
  | [], h =>
    obtain ⟨h1, h2⟩ := and_of (show (isBi sc f fn && isXs N sc es xs) = true from h)
    obtain ⟨p, rfl, h3⟩ := bi_shape h1
    exact ⟨p, xs, pos, rfl, h3, h2⟩
theorem isi_shape {a : PX} {t : String} {e : Expr} (h : isX N sc (.isi a t) e = true) : ∃ p x z pos, e = .Call (.Name (Str.ofString "isinstance") p) [x, z] [] pos ∧ glB sc (Str.ofString "isinstance") = true ∧ isX N sc a x = true ∧ isBi sc t z = true := by
  cases e <;> first | (exact absurd h Bool.false_ne_true) | skip
  rename_i fn xs kws pos
  match xs, kws, h with
  | [], _, h => exact absurd h Bool.false_ne_true
  | [_], _, h => exact absurd h Bool.false_ne_true
  | _ :: _ :: _ :: _, _, h => exact absurd h Bool.false_ne_true
  | [_, _], _ :: _, h => exact absurd h Bool.false_ne_true
  | [x, z], [], h =>
    obtain ⟨h, h3⟩ := and_of (show (isBi sc "isinstance" fn && isX N sc a x && isBi sc t z) = true from h)
    obtain ⟨h1, h2⟩ := and_of h
    obtain ⟨p, rfl, h4⟩ := bi_shape h1
    exact ⟨p, x, z, pos, rfl, h4, h2, h3⟩
theorem isi2_shape {a : PX} {t u : String} {e : Expr} (h : isX N sc (.isi2 a t u) e = true) : ∃ p x z y j tp pos, e = .Call (.Name (Str.ofString "isinstance") p) [x, .Tuple [z, y] j tp] [] pos ∧ glB sc (Str.ofString "isinstance") = true ∧ isX N sc a x = true ∧ isBi sc t z = true ∧ isBi sc u y = true := by
  cases e <;> first | (exact absurd h Bool.false_ne_true) | skip
  rename_i fn xs kws pos
  match xs, kws, h with
  | [], _, h => exact absurd h Bool.false_ne_true
  | [_], _, h => exact absurd h Bool.false_ne_true
  | [x, z], kws, h =>
    cases z <;> first | (exact absurd h Bool.false_ne_true) | skip
    rename_i es j tp
    match es, kws, h with
    | [], _, h => exact absurd h Bool.false_ne_true
    | [_], _, h => exact absurd h Bool.false_ne_true
    | _ :: _ :: _ :: _, _, h => exact absurd h Bool.false_ne_true
    | [_, _], _ :: _, h => exact absurd h Bool.false_ne_true
    | [z, y], [], h =>
      obtain ⟨h, h5⟩ := and_of (show (isBi sc "isinstance" fn && isX N sc a x && isBi sc t z && isBi sc u y) = true from h)
      obtain ⟨h, h3⟩ := and_of h
      obtain ⟨h1, h2⟩ := and_of h
      obtain ⟨p, rfl, h4⟩ := bi_shape h1
      exact ⟨p, x, z, y, j, tp, pos, rfl, h4, h2, h3, h5⟩
  | x :: z :: w :: r, _, h =>
    cases z <;> first | (exact absurd h Bool.false_ne_true) | skip
    rename_i es j tp
    match es, h with
    | [], h => exact absurd h Bool.false_ne_true
    | [_], h => exact absurd h Bool.false_ne_true
    | _ :: _ :: _ :: _, h => exact absurd h Bool.false_ne_true
    | [_, _], h => exact absurd h Bool.false_ne_true
theorem bi_call_shape {b : Bi} {es : PXs} {e : Expr} (h : isX N sc (.bi b es) e = true) : ∃ p x xs pos, e = .Call (.Name (Str.ofString (biName b)) p) (x :: xs) [] pos ∧ glB sc (Str.ofString (biName b)) = true ∧ isXs N sc es (x :: xs) = true := by
  cases e <;> first | (exact absurd h Bool.false_ne_true) | skip
  rename_i fn xs kws pos
  match kws, xs, h with
  | _ :: _, _, h => exact absurd h Bool.false_ne_true
  | [], [], h =>
    obtain ⟨_, h2⟩ := and_of (show (isBi sc (biName b) fn && isXs N sc es [] && false) = true from h)
    exact absurd h2 Bool.false_ne_true
  | [], x :: xs, h =>
    obtain ⟨h1, _⟩ := and_of (show (isBi sc (biName b) fn && isXs N sc es (x :: xs) && true) = true from h)
    obtain ⟨h1, h2⟩ := and_of h1
    obtain ⟨p, rfl, h3⟩ := bi_shape h1
    exact ⟨p, x, xs, pos, rfl, h3, h2⟩
theorem mth_shape {m : Mt} {a : PX} {es : PXs} {e : Expr} (h : isX N sc (.mth m a es) e = true) : ∃ x apos xs cpos, e = .Call (.Attribute x (Str.ofString (mtName m)) apos) xs [] cpos ∧ (apos.endLine == cpos.line) = true ∧ noSup x = true ∧ isX N sc a x = true ∧ isXs N sc es xs = true ∧ xs.length = mtArgs m := by
  cases e <;> first | (exact absurd h Bool.false_ne_true) | skip
  rename_i fn xs kws pos
  cases fn <;> first | (exact absurd h Bool.false_ne_true) | skip
  rename_i x nm apos
  match kws, h with
  | _ :: _, h => exact absurd h Bool.false_ne_true
  | [], h =>
    obtain ⟨h, h6⟩ := and_of (show ((apos.endLine == pos.line) && noSup x && isX N sc a x && decide (nm = Str.ofString (mtName m)) && isXs N sc es xs && decide (xs.length = mtArgs m)) = true from h)
    obtain ⟨h, h5⟩ := and_of h
    obtain ⟨h, h4⟩ := and_of h
    obtain ⟨h, h3⟩ := and_of h
    obtain ⟨h1, h2⟩ := and_of h
    have e4 := of_decide_eq_true h4
    subst e4
    exact ⟨x, apos, xs, pos, rfl, h1, h2, h3, h5, of_decide_eq_true h6⟩
theorem meth_shape {cl m : String} {sp : Spec} {a : PX} {es : PXs} {e : Expr} (h : isX N sc (.meth cl m sp a es) e = true) : ∃ x apos xs cpos, e = .Call (.Attribute x (Str.ofString m) apos) xs [] cpos ∧ (apos.endLine == cpos.line) = true ∧ xs.length < 28 ∧ noSup x = true ∧ isX N sc a x = true ∧ isXs N sc es xs = true := by
  cases e <;> first | (exact absurd h Bool.false_ne_true) | skip
  rename_i fn xs kws pos
  cases fn <;> first | (exact absurd h Bool.false_ne_true) | skip
  rename_i x nm apos
  match kws, h with
  | _ :: _, h => exact absurd h Bool.false_ne_true
  | [], h =>
    obtain ⟨h, h5⟩ := and_of (show ((apos.endLine == pos.line) && decide (xs.length < 28) && noSup x && isX N sc a x && decide (nm = Str.ofString m) && isXs N sc es xs) = true from h)
    obtain ⟨h, h4⟩ := and_of h
    obtain ⟨h, h3⟩ := and_of h
    obtain ⟨h, h1⟩ := and_of h
    obtain ⟨h6, h7⟩ := and_of h
    have e4 := of_decide_eq_true h4
    subst e4
    exact ⟨x, apos, xs, pos, rfl, h6, of_decide_eq_true h7, h1, h3, h5⟩
theorem attr_shape {cl f : String} {a : PX} {e : Expr} (h : isX N sc (.attr cl a f) e = true) : ∃ x pos, e = .Attribute x (Str.ofString f) pos ∧ noSup x = true ∧ isX N sc a x = true := by
  cases e <;> first | (exact absurd h Bool.false_ne_true) | skip
  rename_i x nm pos
  obtain ⟨h, h4⟩ := and_of (show (noSup x && isX N sc a x && decide (nm = Str.ofString f)) = true from h)
  obtain ⟨h1, h3⟩ := and_of h
  have e4 := of_decide_eq_true h4
  subst e4
  exact ⟨x, pos, rfl, h1, h3⟩
theorem sl_shape {fl fh : Bool} {a lo hi : PX} {e : Expr} (h : isX N sc (.sl a fl fh lo hi) e = true) : ∃ x l u p pos, e = .Subscript x (.Slice l u none p) pos ∧ isX N sc a x = true ∧
    ((fl = true ∧ ∃ y, l = some y ∧ isX N sc lo y = true) ∨ (fl = false ∧ l = none ∧ lo = .c .non)) ∧ ((fh = true ∧ ∃ y, u = some y ∧ isX N sc hi y = true) ∨ (fh = false ∧ u = none ∧ hi = .c .non)) := by
  cases e <;> first | (exact absurd h Bool.false_ne_true) | skip
  rename_i x sl pos
  cases sl <;> first | (exact absurd h Bool.false_ne_true) | skip
  rename_i l u st p
  cases st with
  | some _ => exact absurd h Bool.false_ne_true
  | none =>
    have part : ∀ (f : Bool) (o : Option Expr) (q : PX), partB f o q (isX N sc q) = true →
        ((f = true ∧ ∃ y, o = some y ∧ isX N sc q y = true) ∨ (f = false ∧ o = none ∧ q = .c .non)) := fun f o q hq => by
      cases o with
      | some y =>
        obtain ⟨h1, h2⟩ := and_of (show (f && isX N sc q y) = true from hq)
        exact .inl ⟨h1, y, rfl, h2⟩
      | none =>
        obtain ⟨h1, h2⟩ := and_of (show (!f && nonB q) = true from hq)
        refine .inr ⟨by simpa using h1, rfl, ?_⟩
        unfold nonB at h2
        split at h2
        · rfl
        · cases h2
    obtain ⟨h, h3⟩ := and_of (show (isX N sc a x && partB fl l lo (isX N sc lo) && partB fh u hi (isX N sc hi)) = true from h)
    obtain ⟨h1, h2⟩ := and_of h
    exact ⟨x, l, u, p, pos, rfl, h1, part _ _ _ h2, part _ _ _ h3⟩
end
theorem gl_of {X : Cx} {x : Str} (h : glB X.env.scope x = true) : Gl X x ∧ (x == ("__debug__" : Str)) = false := by
  unfold glB at h
  simp only [Bool.and_eq_true] at h
  obtain ⟨h1, h2⟩ := h
  refine ⟨?_, by simpa using h2⟩
  show X.env.scope.names.lookup x = some .globalImplicit
  split at h1
  · assumption
  · cases h1
def plainB : Expr → Bool
  | .Starred _ _ => false | .Slice _ _ _ _ => false | _ => true
theorem isX_star {N : List Str} {sc : Scope} {p : PX} {a : Expr} {b : Pos} : isX N sc p (.Starred a b) = false := by cases p <;> rfl
theorem isX_slice {N : List Str} {sc : Scope} {p : PX} {a b c : Option Expr} {d : Pos} : isX N sc p (.Slice a b c d) = false := by cases p <;> rfl
theorem isX_plain {N : List Str} {sc : Scope} {p : PX} {e : Expr} (h : isX N sc p e = true) : plainB e = true := by
  cases e <;> first
    | rfl
    | (rw [isX_star] at h; cases h)
    | (rw [isX_slice] at h; cases h)
theorem star_of {e : Expr} {es : List Expr} {env : PySem.Env} (h : plainB e = true) : starEach (e :: es) env = (false, eval e env) :: starEach es env := by
  cases e <;> first | rfl | (cases h; done)
theorem plainIx_of {b : Expr} (h : plainB b = true) : PlainIx b := by
  intro o i
  cases b <;> first | rfl | (cases h; done)
section
variable {C : Cq} {X : Cx} (K : Ctx C X)
abbrev PTt (C : Cq) (X : Cx) (t : PT) : Prop := ∀ e, isT X.N X.env.scope t e = true → L2.PT X e (rT C t)
abbrev PAs (C : Cq) (X : Cx) (ps : PXs) : Prop := ∀ es, isXs X.N X.env.scope ps es = true → PA X es (rEs C ps)
include K
theorem x_v {i : Nat} {e : Expr} (h : isX X.N X.env.scope (.v i) e = true) : PE X e (rE C (.v i)) := by
  cases e <;> first | (exact absurd h Bool.false_ne_true) | skip
  rename_i x pos
  have h : (decide (X.N[i]? = some x) && (match X.env.scope.names.lookup x with | some .local => true | some .cell => true | some .free => true | _ => false) && !(x == ("__debug__" : Str)) && !(x == ("__classdict__" : Str))) = true := h
  simp only [Bool.and_eq_true, decide_eq_true_eq, Bool.not_eq_true'] at h
  obtain ⟨⟨⟨h1, h2⟩, h3⟩, h4⟩ := h
  refine PE.imp (pe_var h1 ?_ h3 h4) fun σ H Q ⟨σd, M, R, F, Qd, s, q, w⟩ => ?_
  · unfold Vis
    split at h2
    · exact .inl (by assumption)
    · exact .inr (.inl (by assumption))
    · exact .inr (.inr (by assumption))
    · cases h2
  · have q' : getS σd i fun d => Qd d M := q
    unfold getS at q'
    split at q'
    · rename_i d e
      obtain ⟨v, e1, r⟩ := s.env.at_ i d e
      exact ⟨v, e1, w.at s.good r q'⟩
    · exact q'.elim
theorem x_c {d : D} {e : Expr} (h : isX X.N X.env.scope (.c d) e = true) : PE X e (rE C (.c d)) := by
  cases e <;> first | (exact absurd h Bool.false_ne_true) | skip
  rename_i k j pos
  have h : cstB d k = true := h
  unfold cstB at h
  split at h
  · exact PE.imp pe_non fun σ H Q ⟨σd, M, R, F, Qd, s, q, w⟩ => w.at s.good .non q
  · have e := beq_iff_eq.mp h
    subst e
    exact PE.imp pe_bl fun σ H Q ⟨σd, M, R, F, Qd, s, q, w⟩ => w.at s.good (.bl _) q
  · have e := of_decide_eq_true h
    subst e
    exact PE.imp pe_int fun σ H Q ⟨σd, M, R, F, Qd, s, q, w⟩ => w.at s.good (.int _) q
  · have e := of_decide_eq_true h
    subst e
    exact PE.imp pe_str fun σ H Q ⟨σd, M, R, F, Qd, s, q, w⟩ => w.at s.good (.str _) q
  · cases h
theorem x_g {x : String} {d : D} {e : Expr} (o : GlobF C.G x d) (h : isX X.N X.env.scope (.g x d) e = true) : PE X e (rE C (.g x d)) := by
  obtain ⟨p, rfl, hg⟩ := bi_shape (show isBi X.env.scope x e = true from h)
  obtain ⟨g1, g2⟩ := gl_of hg
  obtain ⟨v, u, hm, r, hr⟩ := o.ex
  exact PE.imp (pe_glob g1 (by rw [K.g.mg]; exact hm) r g2) fun σ H Q ⟨σd, M, R, F, Qd, s, q, w⟩ => w.at s.good (hr F) q
theorem bop_eq {o : BOp} {op : Operator} (h : bopB o op = true) : op = bopO o := by cases o <;> cases op <;> first | rfl | (cases h; done)
theorem cop_eq {o : COp} {op : CmpOp} (h : copB o op = true) : op = copO o := by cases o <;> cases op <;> first | rfl | (cases h; done)
theorem r_two {a b : PX} {w2 : D → D → Store → DK → Prop} {σ : L2.St} {H : Hp} {Q : VK} (h : ∃ σd M R F Qd, SR C σd M R F σ H ∧ (dE C.E a σd M fun x M1 => dE C.E b σd M1 fun y M2 => w2 x y M2 Qd) ∧ Wish C.G R F Qd Q) :
    tOp (rD C.G w2) (rE C a) (rE C b) σ H Q := by
  obtain ⟨σd, M, R, F, Qd, s, q, w⟩ := h
  refine ⟨σd, M, R, F, _, s, q, fun x M1 v F1 H1 q1 e1 g1 r1 => ?_⟩
  refine ⟨σd, M1, R, F1, _, s.step e1 g1, q1, fun y M2 u F2 H2 q2 e2 g2 r2 => ?_⟩
  exact ⟨x, y, F2, M2, R, Qd, g2, r1.mono e2, r2, q2, w.mono (e1.trans e2)⟩
theorem x_bin {o : BOp} {a b : PX} {e : Expr} (ha : PEs C X a) (hb : PEs C X b) (h : isX X.N X.env.scope (.bin o a b) e = true) : PE X e (rE C (.bin o a b)) := by
  cases e <;> first | (exact absurd h Bool.false_ne_true) | skip
  rename_i x op y pos
  obtain ⟨h, h3⟩ := and_of (show (bopB o op && isX X.N X.env.scope a x && isX X.N X.env.scope b y) = true from h)
  obtain ⟨h1, h2⟩ := and_of h
  have eo := bop_eq K h1
  subst eo
  exact PE.imp (pe_op (op_binD K.g o) (ha _ h2) (hb _ h3)) fun σ H Q q => r_two K q
theorem x_neg {a : PX} {e : Expr} (ha : PEs C X a) (h : isX X.N X.env.scope (.neg a) e = true) : PE X e (rE C (.neg a)) := by
  cases e <;> first | (exact absurd h Bool.false_ne_true) | skip
  rename_i op x pos
  cases op <;> first | (exact absurd h Bool.false_ne_true) | skip
  refine PE.imp (pe_un (un_negD K.g) (ha _ h)) fun σ H Q ⟨σd, M, R, F, Qd, s, q, w⟩ => ?_
  exact ⟨σd, M, R, F, _, s, q, fun x M1 v F1 H1 q1 e1 g1 r1 => ⟨x, F1, M1, R, Qd, g1, r1, q1, w.mono e1⟩⟩
theorem behind_of {o : COp} {b : Expr} {p : PX} (h : isX X.N X.env.scope p b = true) : behindInMarks (copO o) b = false := by
  cases b <;> first
    | rfl
    | (exfalso; cases p <;> exact absurd h Bool.false_ne_true)
theorem x_cmp {o : COp} {a b : PX} {e : Expr} (ha : PEs C X a) (hb : PEs C X b) (h : isX X.N X.env.scope (.cmp o a b) e = true) : PE X e (rE C (.cmp o a b)) := by
  obtain ⟨x, op, y, pos, rfl, h1, h2, h3⟩ := cmp_shape h
  have eo := cop_eq K h1
  subst eo
  exact PE.imp (pe_cmpR (op_cmpD K.g o) (ha _ h2) (hb _ h3) (behind_of K h3)) fun σ H Q q => r_two K q
theorem wEqB_imp {x y : D} {P P' : Bool → Prop} (h : wEqB x y P) (i : ∀ b, P b → P' b) : wEqB x y P' := by
  unfold wEqB at h ⊢
  split at h <;> first | exact i _ h | exact ⟨h.1, h.2.1, i _ h.2.2⟩
theorem wInB_imp {x y : D} {M : Store} {P P' : Bool → Prop} (h : wInB x y M P) (i : ∀ b, P b → P' b) : wInB x y M P' := by
  unfold wInB at h ⊢
  split at h
  · obtain ⟨a, e, h⟩ := h
    exact ⟨a, e, i _ h⟩
  · exact i _ h
  · split at h
    · exact ⟨h.1, h.2.1, i _ h.2.2⟩
    · split at h
      · exact ⟨h.1, i _ h.2⟩
      · split at h
        · obtain ⟨h1, k, h2, h3⟩ := h
          exact ⟨h1, k, h2, i _ h3⟩
        · exact h
theorem wInM_imp {x y : D} {M : Store} {P P' : Bool → Store → Prop} (h : wInM x y M P) (i : ∀ b M', P b M' → P' b M') : wInM x y M P' := by
  unfold wInM at h ⊢
  split at h
  · obtain ⟨k, h1, h2, h3⟩ := h
    exact ⟨k, h1, i _ _ h2, i _ _ h3⟩
  · exact wInB_imp K h fun b => i b M
theorem wCmp_imp {o : COp} {x y : D} {M : Store} {P P' : DK} (h : wCmp o x y M P) (i : ∀ b M', P (.bl b) M' → P' (.bl b) M') : wCmp o x y M P' := by
  cases o
  · exact wEqB_imp K (P := fun b => P (.bl b) M) (P' := fun b => P' (.bl b) M) h fun b => i b M
  · exact wEqB_imp K (P := fun b => P (.bl (!b)) M) (P' := fun b => P' (.bl (!b)) M) h fun b => i _ M
  case in_ => exact wInM_imp K (P := fun b M' => P (.bl b) M') (P' := fun b M' => P' (.bl b) M') h fun b => i b
  case nin => exact wInM_imp K (P := fun b M' => P (.bl (!b)) M') (P' := fun b M' => P' (.bl (!b)) M') h fun b => i _
  all_goals (simp only [wCmp, wCmpI] at h ⊢; split at h <;> first | exact i _ _ h | exact h)
theorem t_cmp {o : COp} {a b : PX} {e : Expr} (ha : PEs C X a) (hb : PEs C X b) (h : isX X.N X.env.scope (.cmp o a b) e = true) : L2.PT X e (rT C (.val (.cmp o a b))) := by
  obtain ⟨x, op, y, pos, rfl, h1, h2, h3⟩ := cmp_shape h
  have eo := cop_eq K h1
  subst eo
  refine PT.imp (pt_cmpR (op_cmpD K.g o) (ha _ h2) (hb _ h3) (behind_of K h3)) fun σ H Q ⟨σd, M, R, F, Qd, s, q, w⟩ => ?_
  show ∃ σd M R F Qd, _
  refine ⟨σd, M, R, F, _, s, q, fun x M1 v F1 H1 q1 e1 g1 r1 => ?_⟩
  refine ⟨σd, M1, R, F1, _, s.step e1 g1, q1, fun y M2 u F2 H2 q2 e2 g2 r2 => ?_⟩
  refine ⟨x, y, F2, M2, R, fun d M' => ∃ b, d = .bl b ∧ Qd b M', g2, r1.mono e2, r2, wCmp_imp K q2 fun b M' q => ⟨b, rfl, q⟩, fun d M' v F' H' q' e' g' r' => ?_⟩
  obtain ⟨b, rfl, q'⟩ := q'
  cases r'
  exact ⟨b, rfl, w b _ F' H' q' ((e1.trans e2).trans e') g'⟩
theorem x_cmp2 {o1 o2 : COp} {a b c : PX} {e : Expr} (ha : PEs C X a) (hb : PEs C X b) (hc : PEs C X c) (h : isX X.N X.env.scope (.cmp2 o1 o2 a b c) e = true) : PE X e (rE C (.cmp2 o1 o2 a b c)) := by
  obtain ⟨x, p, q, y, z, pos, rfl, h1, h2, h3, h4, h5⟩ := cmp2_shape h
  have eo := cop_eq K h1
  subst eo
  have eo := cop_eq K h2
  subst eo
  have hm : lastMarks [copO o1, copO o2] [y, z] = false := behind_of K h5
  refine PE.imp (pe_chain (op_cmpD K.g o1) (op_cmpD K.g o2) (ha _ h3) (hb _ h4) (hc _ h5) (hm := hm)) fun σ H Q ⟨σd, M, R, F, Qd, s, q, w⟩ => ?_
  refine ⟨σd, M, R, F, _, s, q, fun x M1 v F1 H1 q1 e1 g1 r1 => ?_⟩
  refine ⟨σd, M1, R, F1, _, s.step e1 g1, q1, fun y M2 u F2 H2 q2 e2 g2 r2 => ?_⟩
  refine ⟨x, y, F2, M2, R, fun d M' => ∃ b, d = .bl b ∧ (match b with | true => dE C.E c σd M' fun w' M4 => wCmp o2 y w' M4 Qd | false => Qd (.bl false) M'), g2, r1.mono e2, r2, wCmp_imp K q2 fun b M' q => ⟨b, rfl, by cases b <;> exact q⟩, fun d M' v3 F' H' q' e' g' r' => ?_⟩
  obtain ⟨b, rfl, q'⟩ := q'
  cases r'
  refine ⟨b, rfl, ?_⟩
  cases b with
  | false => exact w _ _ _ F' H' q' ((e1.trans e2).trans e') g' (.bl _)
  | true =>
    rw [if_pos rfl]
    refine ⟨σd, _, R, F', _, s.step ((e1.trans e2).trans e') g', q', fun z M4 t F4 H4 q4 e4 g4 r4 => ?_⟩
    exact ⟨y, z, F4, M4, R, Qd, g4, r2.mono (e'.trans e4), r4, q4, w.mono (((e1.trans e2).trans e').trans e4)⟩
theorem t_cmp2 {o1 o2 : COp} {a b c : PX} {e : Expr} (ha : PEs C X a) (hb : PEs C X b) (hc : PEs C X c) (h : isX X.N X.env.scope (.cmp2 o1 o2 a b c) e = true) : L2.PT X e (rT C (.val (.cmp2 o1 o2 a b c))) := by
  obtain ⟨x, p, q, y, z, pos, rfl, h1, h2, h3, h4, h5⟩ := cmp2_shape h
  have eo := cop_eq K h1
  subst eo
  have eo := cop_eq K h2
  subst eo
  have hm : lastMarks [copO o1, copO o2] [y, z] = false := behind_of K h5
  refine PT.imp (pt_chain (op_cmpD K.g o1) (op_cmpD K.g o2) (ha _ h3) (hb _ h4) (hc _ h5) (hm := hm)) fun σ H Q ⟨σd, M, R, F, Qd, s, q, w⟩ => ?_
  show ∃ σd M R F Qd, _
  refine ⟨σd, M, R, F, _, s, q, fun x M1 v F1 H1 q1 e1 g1 r1 => ?_⟩
  refine ⟨σd, M1, R, F1, _, s.step e1 g1, q1, fun y M2 u F2 H2 q2 e2 g2 r2 => ?_⟩
  refine ⟨x, y, F2, M2, R, fun d M' => ∃ b, d = .bl b ∧ (match b with | true => dE C.E c σd M' fun w' M4 => wCmp o2 y w' M4 fun x M1 => wTru x M1 fun b => Qd b M1 | false => Qd false M'), g2, r1.mono e2, r2, wCmp_imp K q2 fun b M' q => ⟨b, rfl, by cases b <;> exact q⟩, fun d M' v3 F' H' q' e' g' r' => ?_⟩
  obtain ⟨b, rfl, q'⟩ := q'
  cases r'
  refine ⟨b, rfl, ?_⟩
  cases b with
  | false => exact ⟨false, rfl, w false _ F' H' q' ((e1.trans e2).trans e') g'⟩
  | true =>
    rw [if_pos rfl]
    refine ⟨σd, _, R, F', _, s.step ((e1.trans e2).trans e') g', q', fun z M4 t F4 H4 q4 e4 g4 r4 => ?_⟩
    refine ⟨y, z, F4, M4, R, fun d M' => ∃ b, d = .bl b ∧ Qd b M', g4, r2.mono (e'.trans e4), r4, wCmp_imp K q4 fun b M' q => ⟨b, rfl, q⟩, fun d M' v' F'' H'' q'' e'' g'' r'' => ?_⟩
    obtain ⟨b2, rfl, q''⟩ := q''
    cases r''
    exact ⟨b2, rfl, w b2 _ F'' H'' q'' ((((e1.trans e2).trans e').trans e4).trans e'') g''⟩
omit K in
theorem pe_notK {a : Expr} {pos : Pos} {ta : TE} (ha : PE X a ta) : PE X (.UnaryOp .Not a pos) (fun σ H Q => ta σ H fun x H1 => ∃ k, (TruV X.K x H1 k ∨ TruK X x H1 k) ∧ Q (.bl (!k)) H1) := by
  refine ⟨fun pins s σ H Q I h => ?_⟩
  refine UnaryOp_ (thn (ha.run pins s σ H _ I h) fun v s1 ⟨x, H1, I1, r1, q1⟩ => ?_)
  obtain ⟨k, e, q1⟩ := q1
  exact not_of (thn (tru_kd pins s1 σ H1 x v (fun c H2 => Q (.bl (!c)) H2) I1 r1 ⟨k, e, q1⟩) fun c s2 ⟨H2, I2, q2⟩ => ⟨.bl (!c), H2, I2, rfl, q2⟩)
theorem x_not {a : PX} {e : Expr} (ha : PEs C X a) (h : isX X.N X.env.scope (.not a) e = true) : PE X e (rE C (.not a)) := by
  cases e <;> first | (exact absurd h Bool.false_ne_true) | skip
  rename_i op x pos
  cases op <;> first | (exact absurd h Bool.false_ne_true) | skip
  refine PE.imp (pe_notK (ha _ h)) fun σ H Q ⟨σd, M, R, F, Qd, s, q, w⟩ => ?_
  refine ⟨σd, M, R, F, _, s, q, fun x M1 v F1 H1 q1 e1 g1 r1 => ?_⟩
  obtain ⟨k, h1, h2⟩ := tru_of K.g g1 r1 q1
  exact ⟨k, by rw [K.g.K]; exact h1, w _ _ _ F1 H1 h2 e1 g1 (.bl _)⟩
theorem x_ife {t : PT} {a b : PX} {e : Expr} (ht : PTt C X t) (ha : PEs C X a) (hb : PEs C X b) (h : isX X.N X.env.scope (.ife t a b) e = true) : PE X e (rE C (.ife t a b)) := by
  cases e <;> first | (exact absurd h Bool.false_ne_true) | skip
  rename_i x y z pos
  obtain ⟨h, h3⟩ := and_of (show (isT X.N X.env.scope t x && isX X.N X.env.scope a y && isX X.N X.env.scope b z) = true from h)
  obtain ⟨h1, h2⟩ := and_of h
  refine PE.imp (pe_ifExp (ht _ h1) (ha _ h2) (hb _ h3)) fun σ H Q ⟨σd, M, R, F, Qd, s, q, w⟩ => ?_
  refine ⟨σd, M, R, F, _, s, q, fun c M1 F1 H1 q1 e1 g1 => ?_⟩
  cases c with
  | true =>
    rw [if_pos rfl]
    exact ⟨σd, M1, R, F1, _, s.step e1 g1, q1, w.mono e1⟩
  | false =>
    rw [if_neg Bool.false_ne_true]
    exact ⟨σd, M1, R, F1, _, s.step e1 g1, q1, w.mono e1⟩
theorem len_of {es : PXs} : ∀ {xs : List Expr}, isXs X.N X.env.scope es xs = true → es.len = xs.length := by
  induction es using PXs.rec (motive_1 := fun _ => True) (motive_3 := fun _ => True) (motive_4 := fun _ => True) (motive_5 := fun _ => True) (motive_6 := fun _ => True) with
  | nil =>
    intro xs h
    cases xs with
    | nil => rfl
    | cons _ _ => exact absurd h Bool.false_ne_true
  | cons e es _ ih =>
    intro xs h
    cases xs with
    | nil => exact absurd h Bool.false_ne_true
    | cons x xs =>
      obtain ⟨_, h2⟩ := and_of (show (isX X.N X.env.scope e x && isXs X.N X.env.scope es xs) = true from h)
      show es.len + 1 = xs.length + 1
      rw [ih h2]
  | _ => trivial
theorem small_line {n : Nat} (h : n ≤ 1000) : n ≤ sizeLine := by rw [line_eq]; exact Nat.le_trans h (by decide)
theorem x_tup {es : PXs} {e : Expr} (ha : PAs C X es) (h : isX X.N X.env.scope (.tup es) e = true) : PE X e (rE C (.tup es)) := by
  cases e <;> first | (exact absurd h Bool.false_ne_true) | skip
  rename_i xs j pos
  obtain ⟨h1, h2⟩ := and_of (show (isXs X.N X.env.scope es xs && decide (xs.length ≤ 1000)) = true from h)
  refine PE.imp (pe_tup (ha _ h1)) fun σ H Q ⟨σd, M, R, F, Qd, s, q, w⟩ => ?_
  refine ⟨σd, M, R, F, _, s, q, fun ds M1 vs F1 H1 hn q1 e1 g1 r1 => ⟨?_, fun p hp => (w.mono e1).new g1 hp (rp_new_tup (g1.fresh hp).2.1 r1) q1⟩⟩
  rw [r1.length, hn, len_of K h1]
  exact small_line K (of_decide_eq_true h2)
theorem x_lst {es : PXs} {e : Expr} (ha : PAs C X es) (h : isX X.N X.env.scope (.lst es) e = true) : PE X e (rE C (.lst es)) := by
  cases e <;> first | (exact absurd h Bool.false_ne_true) | skip
  rename_i xs pos
  obtain ⟨h1, h2⟩ := and_of (show (isXs X.N X.env.scope es xs && decide (xs.length ≤ 1000)) = true from h)
  refine PE.imp (pe_lst (ha _ h1)) fun σ H Q ⟨σd, M, R, F, Qd, s, q, w⟩ => ?_
  refine ⟨σd, M, R, F, _, s, q, fun ds M1 vs F1 H1 hn q1 e1 g1 r1 => ⟨?_, fun p hp => (w.mono e1).new g1 hp (rp_new_lst (g1.fresh hp).2.1 r1) q1⟩⟩
  rw [r1.length, hn, len_of K h1]
  exact small_line K (of_decide_eq_true h2)
theorem x_mlst {es : PXs} {e : Expr} (ha : PAs C X es) (h : isX X.N X.env.scope (.mlst es) e = true) : PE X e (rE C (.mlst es)) := by
  cases e <;> first | (exact absurd h Bool.false_ne_true) | skip
  rename_i xs pos
  obtain ⟨h1, h2⟩ := and_of (show (isXs X.N X.env.scope es xs && decide (xs.length ≤ 1000)) = true from h)
  refine PE.imp (pe_lst (ha _ h1)) fun σ H Q ⟨σd, M, R, F, Qd, s, q, w⟩ => ?_
  refine ⟨σd, M, R, F, _, s, q, fun ds M1 vs F1 H1 hn q1 e1 g1 r1 => ⟨?_, fun p hp => (w.mono e1).newM g1 hp (.lst r1) (q1 p (g1.fresh hp).1)⟩⟩
  rw [r1.length, hn, len_of K h1]
  exact small_line K (of_decide_eq_true h2)
theorem x_mdic {e : Expr} (h : isX X.N X.env.scope .mdic e = true) : PE X e (rE C .mdic) := by
  cases e <;> first | (exact absurd h Bool.false_ne_true) | skip
  rename_i ks vs pos
  match ks, vs, h with
  | _ :: _, _, h => exact absurd h Bool.false_ne_true
  | [], _ :: _, h => exact absurd h Bool.false_ne_true
  | [], [], _ =>
    refine PE.imp pe_dnewK fun σ H Q ⟨σd, M, R, F, Qd, s, q, w⟩ => ?_
    exact fun p hp => w.newM s.good hp (.dic .nil) (q p (s.good.fresh hp).1)
theorem x_ix {a b : PX} {e : Expr} (ha : PEs C X a) (hb : PEs C X b) (h : isX X.N X.env.scope (.ix a b) e = true) : PE X e (rE C (.ix a b)) := by
  cases e <;> first | (exact absurd h Bool.false_ne_true) | skip
  rename_i x y pos
  obtain ⟨h1, h2⟩ := and_of (show (isX X.N X.env.scope a x && isX X.N X.env.scope b y) = true from h)
  exact PE.imp (pe_ix (ix_D K.g) (ha _ h1) (hb _ h2) (plainIx_of (isX_plain h2))) fun σ H Q q => r_two K q
theorem x_sl {a lo hi : PX} {fl fh : Bool} {e : Expr} (ha : PEs C X a) (hl : PEs C X lo) (hh : PEs C X hi) (h : isX X.N X.env.scope (.sl a fl fh lo hi) e = true) : PE X e (rE C (.sl a fl fh lo hi)) := by
  obtain ⟨x, l, u, p, pos, rfl, h1, h2, h3⟩ := sl_shape h
  have part : ∀ (f : Bool) (o : Option Expr) (q : PX), PEs C X q → ((f = true ∧ ∃ y, o = some y ∧ isX X.N X.env.scope q y = true) ∨ (f = false ∧ o = none ∧ q = .c .non)) →
      PO X o (fun σ H Q => ∃ σd M R F Qd, SR C σd M R F σ H ∧ dE C.E q σd M Qd ∧ ∀ d M' F' H', Qd d M' → Ex F F' → Good C.G R F' H' M' → ∃ i, optI f d = some i ∧ Q i H') := fun f o q hq hf => by
    rcases hf with ⟨rfl, y, rfl, hy⟩ | ⟨rfl, rfl, rfl⟩
    · refine ⟨fun pins s σ H Q I hw => (po_some (hq y hy)).run pins s σ H Q I ?_⟩
      obtain ⟨σd, M, R, F, Qd, sr, q1, w⟩ := hw
      refine ⟨σd, M, R, F, _, sr, q1, fun d M' v F' H' q' e' g' r' => ?_⟩
      obtain ⟨i, e1, q2⟩ := w d M' F' H' q' e' g'
      unfold optI at e1
      split at e1
      · cases r'; cases e1
        exact ⟨_, rfl, q2⟩
      · rename_i e2
        cases e2
      · cases e1
    · refine ⟨fun pins s σ H Q I hw => po_none.run pins s σ H Q I ?_⟩
      obtain ⟨σd, M, R, F, Qd, sr, q1, w⟩ := hw
      obtain ⟨i, e1, q2⟩ := w .non M F H q1 (Ex.refl F) sr.good
      cases e1
      exact q2
  refine PE.imp (pe_slice (sl_D K.g) (ha _ h1) (part fl l lo hl h2) (part fh u hi hh h3)) fun σ H Q ⟨σd, M, R, F, Qd, s, q, w⟩ => ?_
  refine ⟨σd, M, R, F, _, s, q, fun x M1 v F1 H1 q1 e1 g1 r1 => ?_⟩
  refine ⟨σd, M1, R, F1, _, s.step e1 g1, q1, fun l' M2 F2 H2 q2 e2 g2 => ?_⟩
  split at q2
  · rename_i lo' el
    refine ⟨lo', el, σd, M2, R, F2, _, (s.step e1 g1).step e2 g2, q2, fun h' M3 F3 H3 q3 e3 g3 => ?_⟩
    split at q3
    · rename_i hi' eh
      exact ⟨hi', eh, x, F3, M3, R, Qd, g3, r1.mono (e2.trans e3), q3, w.mono ((e1.trans e2).trans e3)⟩
    · exact q3.elim
  · exact q2.elim
theorem a_nil : PAs C X .nil := fun es h => by
  cases es with
  | cons _ _ => exact absurd h Bool.false_ne_true
  | nil => exact PA.imp pa_nil fun σ H Q ⟨σd, M, R, F, Qd, s, q, w⟩ => w [] M [] F H rfl q (Ex.refl F) s.good .nil
theorem a_cons {p : PX} {ps : PXs} (hp : PEs C X p) (hs : PAs C X ps) : PAs C X (.cons p ps) := fun es h => by
  cases es with
  | nil => exact absurd h Bool.false_ne_true
  | cons x xs =>
    obtain ⟨h1, h2⟩ := and_of (show (isX X.N X.env.scope p x && isXs X.N X.env.scope ps xs) = true from h)
    refine PA.imp (pa_cons (hp _ h1) (hs _ h2) (star_of (isX_plain h1))) fun σ H Q ⟨σd, M, R, F, Qd, s, q, w⟩ => ?_
    refine ⟨σd, M, R, F, _, s, q, fun d M1 v F1 H1 q1 e1 g1 r1 => ?_⟩
    refine ⟨σd, M1, R, F1, _, s.step e1 g1, q1, fun ds M2 vs F2 H2 hn q2 e2 g2 r2 => ?_⟩
    exact w (d :: ds) M2 (v :: vs) F2 H2 (congrArg (· + 1) hn) q2 (e1.trans e2) g2 (.cons (r1.mono e2) r2)
theorem and_one {p : PX} {pos : Pos} (hp : PEs C X p) : ∀ xs, isXs X.N X.env.scope (.cons p .nil) xs = true → PE X (.BoolOp .And xs pos) (rAnd C (.cons p .nil)) := fun xs h => by
  match xs, h with
  | [], h => exact absurd h Bool.false_ne_true
  | [x], h => exact pe_one (hp _ (and_of (show (isX X.N X.env.scope p x && true) = true from h)).1)
  | x :: y :: r, h => exact absurd (and_of (show (isX X.N X.env.scope p x && false) = true from h)).2 Bool.false_ne_true
theorem and_more {p p2 : PX} {ps : PXs} {pos : Pos} (hp : PEs C X p) (hs : ∀ xs, isXs X.N X.env.scope (.cons p2 ps) xs = true → PE X (.BoolOp .And xs pos) (rAnd C (.cons p2 ps))) :
    ∀ xs, isXs X.N X.env.scope (.cons p (.cons p2 ps)) xs = true → PE X (.BoolOp .And xs pos) (rAnd C (.cons p (.cons p2 ps))) := fun xs h => by
  match xs, h with
  | [], h => exact absurd h Bool.false_ne_true
  | [x], h => exact absurd (and_of (show (isX X.N X.env.scope p x && false) = true from h)).2 Bool.false_ne_true
  | x :: y :: r, h =>
    obtain ⟨h1, h2⟩ := and_of (show (isX X.N X.env.scope p x && isXs X.N X.env.scope (.cons p2 ps) (y :: r)) = true from h)
    refine PE.imp (pe_and (hp _ h1) (hs _ h2)) fun σ H Q ⟨σd, M, R, F, Qd, s, q, w⟩ => ?_
    refine ⟨σd, M, R, F, _, s, q, fun x M1 v F1 H1 q1 e1 g1 r1 => ?_⟩
    split at q1
    · cases r1
      refine ⟨true, rfl, ?_⟩
      rw [if_pos rfl]
      exact ⟨σd, M1, R, F1, _, s.step e1 g1, q1, w.mono e1⟩
    · cases r1
      refine ⟨false, rfl, ?_⟩
      rw [if_neg Bool.false_ne_true]
      exact w _ _ _ F1 H1 q1 e1 g1 (.bl _)
    · exact q1.elim
theorem or_one {p : PX} {pos : Pos} (hp : PEs C X p) : ∀ xs, isXs X.N X.env.scope (.cons p .nil) xs = true → PE X (.BoolOp .Or xs pos) (rOr C (.cons p .nil)) := fun xs h => by
  match xs, h with
  | [], h => exact absurd h Bool.false_ne_true
  | [x], h => exact pe_one (hp _ (and_of (show (isX X.N X.env.scope p x && true) = true from h)).1)
  | x :: y :: r, h => exact absurd (and_of (show (isX X.N X.env.scope p x && false) = true from h)).2 Bool.false_ne_true
theorem or_more {p p2 : PX} {ps : PXs} {pos : Pos} (hp : PEs C X p) (hs : ∀ xs, isXs X.N X.env.scope (.cons p2 ps) xs = true → PE X (.BoolOp .Or xs pos) (rOr C (.cons p2 ps))) :
    ∀ xs, isXs X.N X.env.scope (.cons p (.cons p2 ps)) xs = true → PE X (.BoolOp .Or xs pos) (rOr C (.cons p (.cons p2 ps))) := fun xs h => by
  match xs, h with
  | [], h => exact absurd h Bool.false_ne_true
  | [x], h => exact absurd (and_of (show (isX X.N X.env.scope p x && false) = true from h)).2 Bool.false_ne_true
  | x :: y :: r, h =>
    obtain ⟨h1, h2⟩ := and_of (show (isX X.N X.env.scope p x && isXs X.N X.env.scope (.cons p2 ps) (y :: r)) = true from h)
    refine PE.imp (pe_or (hp _ h1) (hs _ h2)) fun σ H Q ⟨σd, M, R, F, Qd, s, q, w⟩ => ?_
    refine ⟨σd, M, R, F, _, s, q, fun x M1 v F1 H1 q1 e1 g1 r1 => ?_⟩
    split at q1
    · cases r1
      refine ⟨true, rfl, ?_⟩
      rw [if_pos rfl]
      exact w _ _ _ F1 H1 q1 e1 g1 (.bl _)
    · cases r1
      refine ⟨false, rfl, ?_⟩
      rw [if_neg Bool.false_ne_true]
      exact ⟨σd, M1, R, F1, _, s.step e1 g1, q1, w.mono e1⟩
    · exact q1.elim
def isCmp : PX → Bool
  | .cmp _ _ _ => true | .cmp2 _ _ _ _ _ => true | .and _ => true | .or _ => true | .not _ => true | .ife _ _ _ => true | _ => false
def simpleB : Expr → Bool
  | .BoolOp _ _ _ => false | .UnaryOp .Not _ _ => false | .Compare _ _ _ _ => false | .IfExp _ _ _ _ => false | _ => true
theorem simple_true {e : Expr} (h : simpleB e = true) (env : PySem.Env) : ∀ whole, isTrue e env whole = (do let v ← whole; standAt e.pos; holding [v] (truthy v)) := by
  intro whole
  cases e <;> first
    | rfl
    | exact absurd h Bool.false_ne_true
    | (rename_i op x pos
       cases op <;> first | rfl | exact absurd h Bool.false_ne_true)
theorem simple_of {p : PX} {e : Expr} (hp : isCmp p = false) (h : isX X.N X.env.scope p e = true) : simpleB e = true := by
  cases e <;> first
    | rfl
    | (exfalso; cases p <;> first | (exact absurd h Bool.false_ne_true) | (cases hp; done))
    | (rename_i op x pos
       cases op <;> first
         | rfl
         | (exfalso; cases p <;> first | (exact absurd h Bool.false_ne_true) | (cases hp; done)))
theorem t_val {p : PX} {e : Expr} (hp : PEs C X p) (hc : isCmp p = false) (h : isX X.N X.env.scope p e = true) : L2.PT X e (rT C (.val p)) := by
  refine PT.imp (pt_truthR (hp _ h) tru_kd (simple_true K (simple_of K hc h) _)) fun σ H Q ⟨σd, M, R, F, Qd, s, q, w⟩ => ?_
  refine ⟨σd, M, R, F, _, s, q, fun x M1 v F1 H1 q1 e1 g1 r1 => ?_⟩
  obtain ⟨k, h1, h2⟩ := tru_of K.g g1 r1 q1
  exact ⟨k, by rw [K.g.K]; exact h1, w _ _ F1 H1 h2 e1 g1⟩
theorem t_not {t : PT} {e : Expr} (ht : PTt C X t) (h : isT X.N X.env.scope (.not t) e = true) : L2.PT X e (rT C (.not t)) := by
  cases e <;> first | (exact absurd h Bool.false_ne_true) | skip
  rename_i op x pos
  cases op <;> first | (exact absurd h Bool.false_ne_true) | skip
  refine PT.imp (pt_not (ht _ h)) fun σ H Q ⟨σd, M, R, F, Qd, s, q, w⟩ => ?_
  exact ⟨σd, M, R, F, _, s, q, fun c M1 F1 H1 q1 e1 g1 => w _ _ F1 H1 q1 e1 g1⟩
end
end VS
namespace VS
open PySem PySem.Spec PyProof.Rows L2
theorem ext_tup {l b : Addr} {us ws : Array Value} {c c2 : Nat} {od : Option Addr} {osl : Array (Option Value)} (h0 : ¬(!us.isEmpty && Builtin.List.listTooLong (us.size + ws.size)) = true) (h1 : us.size ≤ sizeLine) (h2 : us.size + ws.size ≤ sizeLine + 1) :
    Meets (Builtin.«list.extend» ⟨[.ref l, .ref b], []⟩) (fun _ R s =>
      s.heap.get? l = some { cls := .type "list", dict := none, data := .seq us c, slots := #[] } ∧
      s.heap.get? b = some { cls := .type "tuple", dict := od, data := .seq ws c2, slots := osl } ∧
      R (.ok (.ret Value.none)) { s with heap := s.heap.update l (Obj.mapSeq fun x => x ++ ws), toks := s.toks }) := by
  refine .of_wp fun prog w A R s h => ?_
  obtain ⟨hp, g, d, tk, os⟩ := s
  obtain ⟨hl, hb, h⟩ := h
  have e1 := AutoSeq1.idx_int
  have e2 := AutoSeq1.sub_tuple_tuple
  have e3 := AutoSeq1.sub_list_list
  have e4 := AutoSeq1.sub_tuple_list
  have e5 := AutoSeq1.sub_list_tuple
  have hz : (us ++ ws).size ≤ sizeLine + 1 := by
    rw [Array.size_append]
    exact h2
  wp_walk using (wpAny_updateSeq hl rfl (hz := h1) (_hz' := hz)), AutoSeq1.wpAny_loadPart' hl, AutoSeq1.wpAny_loadPart' hb
  exact ⟨_, rfl, h⟩
theorem mt_extT {X : Cx} : MtM X "list.extend" (fun x vs H Q => ∃ l b xs zs, x = .ref l ∧ vs = [.ref b] ∧ H l = some (.lst xs) ∧ SqT X.K H b zs ∧ xs.length + zs.length ≤ sizeLine ∧ Q .non (upd H l (.lst (xs ++ zs)))) := by
  intro pins s σ H x vs v us Q I rx rv h
  obtain ⟨l, b, xs, zs, rfl, rfl, hl, hb, hz, q⟩ := h
  cases rx
  obtain ⟨u, rfl, ru⟩ := rv.one
  cases ru
  obtain ⟨z, its, n, r, hn, e⟩ := I.lstM hl
  obtain ⟨its2, r2, ⟨⟨oc, od, dt, osl⟩, o1, o2, n2, o3⟩, z2⟩ := I.tuple hb
  simp only at o2 o3
  subst o2 o3
  have l1 := r.length
  have l2 := r2.length
  have hsz : its.toArray.size + its2.toArray.size ≤ sizeLine := by
    rw [List.size_toArray, List.size_toArray]
    omega
  have hlong : ¬ (!its.toArray.isEmpty && Builtin.List.listTooLong (its.toArray.size + its2.toArray.size)) = true := by
    rw [notLongL hsz, Bool.and_false]
    decide
  refine call_meets PySem.F.slot_list_extend ⟨_, e, rfl⟩ PySem.F.entry_list_extend (PySem.F.args_list_extend_2 _ _) (ext_tup hlong (by rw [List.size_toArray]; omega) (by omega)) ⟨e, o1, ?_⟩
  exact ⟨.non, _, I.lset (its' := its ++ its2) hl e (by simp) (r.append r2) (by rw [List.length_append]; omega), rfl, q⟩
theorem base_of {o : Expr} (h : noSup o = true) (attr : Str) (env : PySem.Env) : attributeBase o attr env (eval o env) = eval o env := by
  cases o <;> first
    | rfl
    | (rename_i f xs kws pos
       cases f <;> first
         | rfl
         | (match xs, kws, h with
            | [], [], h => exact absurd h Bool.false_ne_true
            | _ :: _, _, _ => rfl
            | [], _ :: _, _ => rfl))
theorem lookF_rp {G : Glob} {F : Hp} (f : String) : ∀ {vs : List (Str × V)} {fs : List (String × D)}, RpF G F vs fs →
    (∃ v d, vs.lookup (Str.ofString f) = some v ∧ lookF f fs = some d ∧ Rp G F v d) ∨ (vs.lookup (Str.ofString f) = none ∧ lookF f fs = none)
  | _, _, .nil => .inr ⟨rfl, rfl⟩
  | _, _, .cons (f := g) hr r => by
    unfold lookF
    by_cases e : g = f
    · subst e
      rw [if_pos rfl]
      exact .inl ⟨_, _, by rw [List.lookup_cons]; simp, rfl, hr⟩
    · rw [if_neg e]
      have e2 : (Str.ofString f == Str.ofString g) = false := by
        rw [beq_eq_false_iff_ne]
        exact fun z => e (ofString_inj.mp z).symm
      rw [List.lookup_cons, e2]
      exact lookF_rp f r
theorem boot_five {t : String} (h : t ∈ fiveTys) : bootBuiltins (Str.ofString t) = some (.type t) ∧ (Str.ofString t) ≠ "__name__" := by
  have : t = "list" ∨ t = "tuple" ∨ t = "str" ∨ t = "int" ∨ t = "bool" := by simpa [fiveTys] using h
  rcases this with rfl | rfl | rfl | rfl | rfl
  all_goals exact ⟨by decide +kernel, by decide +kernel⟩
theorem kit_of_ty {k t : String} {b : Bool} (hk : k ∈ ["NoneType", "bool", "int", "str", "tuple", "list"]) (h : isTyK k t = some b) : kitB k t = some b := by
  have hk : k = "NoneType" ∨ k = "bool" ∨ k = "int" ∨ k = "str" ∨ k = "tuple" ∨ k = "list" := by simpa using hk
  unfold isTyK at h
  split at h
  · rename_i e; subst e; cases h
    rcases hk with rfl | rfl | rfl | rfl | rfl | rfl <;> decide +kernel
  split at h
  · rename_i e; subst e; cases h
    rcases hk with rfl | rfl | rfl | rfl | rfl | rfl <;> decide +kernel
  split at h
  · rename_i e; subst e; cases h
    rcases hk with rfl | rfl | rfl | rfl | rfl | rfl <;> decide +kernel
  split at h
  · rename_i e; subst e; cases h
    rcases hk with rfl | rfl | rfl | rfl | rfl | rfl <;> decide +kernel
  split at h
  · rename_i e; subst e; cases h
    rcases hk with rfl | rfl | rfl | rfl | rfl | rfl <;> decide +kernel
  · cases h
def kindD (M : Store) : D → String
  | .non => "NoneType" | .bl _ => "bool" | .int _ => "int" | .str _ => "str" | .tup _ => "tuple" | .lst _ => "list"
  | .ptr p => (match M p with | some (.lst _) => "list" | _ => "") | _ => ""
def MtD (X : Cx) (G : Glob) (id : String) (w : D → List D → Store → DK → Prop) : Prop :=
  MtR X id fun x vs H Q => ∃ dx ds F M R Qd, Good G R F H M ∧ Rp G F x dx ∧ RpL G F vs ds ∧ w dx ds M Qd ∧ Wish G R F Qd Q
section
variable {G : Glob} {X : Cx} (C : CtxG G X)
include C
theorem asPtr {M : Store} {R F H : Hp} {p : Addr} {xs : List D} (g : Good G R F H M) (e : M p = some (.lst xs)) : ∃ vs, H p = some (.lst vs) ∧ RpL G F vs xs := by
  obtain ⟨_, ho, hh, rm⟩ := g.mt p _ e
  cases rm with
  | lst rl => exact ⟨_, hh, rl⟩
theorem m_append : MtD X G "list.append" (fun x ds M Q => wMt .append x ds M Q) := by
  intro pins s σ H x vs v us Q I rx rv h
  obtain ⟨dx, ds, F, M, R, Qd, g, r1, rl, hw, w⟩ := h
  match ds, rl, hw with
  | [y], rl, hw =>
    replace hw : wAppend dx y M Qd := hw
    unfold wAppend at hw
    split at hw
    · rename_i p _
      split at hw
      · rename_i xs e
        cases r1
        obtain ⟨ws, hh, rw'⟩ := asPtr C g e
        cases rl with
        | cons ry rn =>
          cases rn
          refine mt_append pins s σ H _ _ v us Q I rx rv ⟨p, ws, _, rfl, rfl, hh, by rw [rw'.length, line_eq]; exact hw.1, ?_⟩
          exact w _ _ _ F _ hw.2 (Ex.refl F) (g.write e (.lst (rw'.append (.cons ry .nil)))) .non
      · exact hw.elim
    · exact hw.elim
  | [], _, hw => exact hw.elim
  | [_, _], _, hw => exact hw.elim
  | _ :: _ :: _ :: _, _, hw => exact hw.elim
theorem m_extend : MtD X G "list.extend" (fun x ds M Q => wMt .extend x ds M Q) := by
  intro pins s σ H x vs v us Q I rx rv h
  obtain ⟨dx, ds, F, M, R, Qd, g, r1, rl, hw, w⟩ := h
  match ds, rl, hw with
  | [y], rl, hw =>
    replace hw : wExtend dx y M Qd := hw
    unfold wExtend at hw
    split at hw
    · rename_i p _
      split at hw
      · rename_i xs e
        split at hw
        · rename_i ys e2
          cases r1
          obtain ⟨ws, hh, rw'⟩ := asPtr C g e
          cases rl with
          | cons ry rn =>
            cases rn
            have key : (∃ zs, y = .tup zs) ∨ asL M y = some ys := by
              cases y <;> first | exact .inl ⟨_, rfl⟩ | exact .inr e2
            rcases key with ⟨zs, rfl⟩ | e3
            · cases e2
              cases ry with
              | tup hb rz =>
                refine mt_extT pins s σ H _ _ v us Q I rx rv ⟨p, _, ws, _, rfl, rfl, hh, by rw [C.K]; exact g.ex.t hb, by rw [rw'.length, rz.length, line_eq]; exact hw.1, ?_⟩
                exact w _ _ _ F _ hw.2 (Ex.refl F) (g.write e (.lst (rw'.append rz))) .non
            · obtain ⟨b, zs, rfl, hb, rz⟩ := asL_rp g ry e3
              refine mt_extend pins s σ H _ _ v us Q I rx rv ⟨p, b, ws, zs, rfl, rfl, hh, hb, by rw [rw'.length, rz.length, line_eq]; exact hw.1, ?_⟩
              exact w _ _ _ F _ hw.2 (Ex.refl F) (g.write e (.lst (rw'.append rz))) .non
        · exact hw.elim
      · exact hw.elim
    · exact hw.elim
  | [], _, hw => exact hw.elim
  | [_, _], _, hw => exact hw.elim
  | _ :: _ :: _ :: _, _, hw => exact hw.elim
theorem m_pop : MtD X G "list.pop" (fun x ds M Q => wMt .pop x ds M Q) := by
  intro pins s σ H x vs v us Q I rx rv h
  obtain ⟨dx, ds, F, M, R, Qd, g, r1, rl, hw, w⟩ := h
  match ds, rl, hw with
  | [], rl, hw =>
    replace hw : wPop dx M Qd := hw
    unfold wPop at hw
    split at hw
    · rename_i p _
      split at hw
      · rename_i xs e
        split at hw
        · rename_i d e2
          cases r1
          obtain ⟨ws, hh, rw'⟩ := asPtr C g e
          cases rl
          obtain ⟨z, e3, rz⟩ := rw'.get e2
          refine mt_pop pins s σ H _ _ v us Q I rx rv ⟨p, ws, z, rfl, rfl, hh, by rw [rw'.length]; exact e3, ?_⟩
          exact w _ _ _ F _ hw (Ex.refl F) (g.write e (.lst rw'.dropLast)) rz
        · exact hw.elim
      · exact hw.elim
    · exact hw.elim
  | [_], _, hw => exact hw.elim
  | [_, _], _, hw => exact hw.elim
  | _ :: _ :: _ :: _, _, hw => exact hw.elim
theorem m_index : MtD X G "list.index" (fun x ds M Q => wMt .index x ds M Q) := by
  intro pins s σ H x vs v us Q I rx rv h
  obtain ⟨dx, ds, F, M, R, Qd, g, r1, rl, hw, w⟩ := h
  match ds, rl, hw with
  | [y], rl, hw =>
    replace hw : wIndex dx y M Qd := hw
    unfold wIndex at hw
    split at hw
    · rename_i xs e
      obtain ⟨s1, s2, j, z, e1, e2, e3, q⟩ := hw
      obtain ⟨a, ws, rfl, hh, rw'⟩ := asL_rp g r1 e
      cases rl with
      | cons ry rn =>
        cases rn
        have dl : DpAll X.K H ws (pyL xs) := by
          rw [C.K]
          refine dpL_of (rw'.mono g.ex) ?_
          have := SeqAt.canLay_of_shaped s2
          simpa [PyData.canLay0] using this
        have d1 := dp_at g ry s1
        rw [← C.K] at d1
        refine mt_indexD C.un pins s σ H _ _ v us Q I rx rv ⟨a, _, py y, pyL xs, j, py z, rfl, rfl, .lst (SqL.of hh) dl, d1, s2, s1, ?_, e2, fun m z' hm hz => ?_, w.at g (.int _) q⟩
        · rw [pyL_map, List.getElem?_map, e1]; rfl
        · rw [pyL_map, List.getElem?_map] at hz
          cases q2 : xs[m]? with
          | none => rw [q2] at hz; cases hz
          | some z2 =>
            rw [q2] at hz
            cases hz
            exact e3 m z2 hm q2
    · exact hw.elim
  | [], _, hw => exact hw.elim
  | [_, _], _, hw => exact hw.elim
  | _ :: _ :: _ :: _, _, hw => exact hw.elim
theorem m_get1 : MtD X G "dict.get" (fun x ds M Q => wMt .get1 x ds M Q) := by
  intro pins s σ H x vs v us Q I rx rv h
  obtain ⟨dx, ds, F, M, R, Qd, g, r1, rl, hw, w⟩ := h
  match ds, rl, hw with
  | [y], rl, hw =>
    replace hw : wGet1 dx y M Qd := hw
    unfold wGet1 at hw
    split at hw
    · rename_i kvs e
      obtain ⟨hk, q⟩ := hw
      obtain ⟨k, hk⟩ := Option.isSome_iff_exists.mp hk
      obtain ⟨a, ws, rfl, hh, rd⟩ := asD_rp g r1 e
      cases rl with
      | cons ry rn =>
        cases rn
        have ey := keyOf_rp C ry hk
        subst ey
        cases rx
        cases rv with
        | cons rk rn =>
          cases rn
          have hu : X.A.units + 1 < cLine := Nat.lt_of_le_of_lt (Nat.add_le_add_left (by decide) _) C.un
          refine d_get1 hu I (DGet.k (k := k) hh) rk fun w' s' I' rw' => ⟨_, H, I', rw', ?_⟩
          rcases valV_rp C hk rd with ⟨v', d', e3, e4, rv'⟩ | ⟨e3, e4⟩
          · rw [e3]; rw [e4] at q
            exact w.at g rv' q
          · rw [e3]; rw [e4] at q
            exact w.at g .non q
    · exact hw.elim
  | [], _, hw => exact hw.elim
  | [_, _], _, hw => exact hw.elim
  | _ :: _ :: _ :: _, _, hw => exact hw.elim
theorem m_get2 : MtD X G "dict.get" (fun x ds M Q => wMt .get2 x ds M Q) := by
  intro pins s σ H x vs v us Q I rx rv h
  obtain ⟨dx, ds, F, M, R, Qd, g, r1, rl, hw, w⟩ := h
  match ds, rl, hw with
  | [y, z], rl, hw =>
    replace hw : wGet2 dx y z M Qd := hw
    unfold wGet2 at hw
    split at hw
    · rename_i kvs e
      obtain ⟨hk, q⟩ := hw
      obtain ⟨k, hk⟩ := Option.isSome_iff_exists.mp hk
      obtain ⟨a, ws, rfl, hh, rd⟩ := asD_rp g r1 e
      cases rl with
      | cons ry rn =>
        cases rn with
        | cons rz rn =>
          cases rn
          have ey := keyOf_rp C ry hk
          subst ey
          cases rx
          cases rv with
          | cons rk rn =>
            cases rn with
            | cons rk2 rn =>
              cases rn
              have hu : X.A.units + 1 < cLine := Nat.lt_of_le_of_lt (Nat.add_le_add_left (by decide) _) C.un
              refine d_get2 hu I (DGet.k (k := k) hh) rk rk2 fun w' s' I' rw' => ⟨_, H, I', rw', ?_⟩
              rcases valV_rp C hk rd with ⟨v', d', e3, e4, rv'⟩ | ⟨e3, e4⟩
              · rw [e3]; rw [e4] at q
                exact w.at g rv' q
              · rw [e3]; rw [e4] at q
                exact w.at g rz q
    · exact hw.elim
  | [], _, hw => exact hw.elim
  | [_], _, hw => exact hw.elim
  | _ :: _ :: _ :: _, _, hw => exact hw.elim
theorem ty_kind {d : D} {M : Store} {R F H : Hp} {v : V} {t : String} {b : Bool} (g : Good G R F H M) (r : Rp G F v d) (h : isTyD M d t = some b) : kitB (kindD M d) t = some b ∧ TyX X.K H v (.type (kindD M d)) := by
  cases d with
  | non => cases r; exact ⟨kit_of_ty (by simp [kindD]) h, .base .non⟩
  | bl _ => cases r; exact ⟨kit_of_ty (by simp [kindD]) h, .base (.bl _)⟩
  | int _ => cases r; exact ⟨kit_of_ty (by simp [kindD]) h, .base (.int _)⟩
  | str _ => cases r; exact ⟨kit_of_ty (by simp [kindD]) h, .base (.str _)⟩
  | tup xs =>
    refine ⟨kit_of_ty (by simp [kindD]) h, ?_⟩
    cases r with
    | tup ha _ =>
      rcases g.ex.t ha with (h1 | ⟨o, h1⟩) | ⟨o, its, n, h1, h2, _⟩
      · exact .base (.tup h1)
      · exact .fTuple h1
      · exact .kTuple (by rw [C.K]; exact h1) h2
  | lst xs =>
    refine ⟨kit_of_ty (by simp [kindD]) h, ?_⟩
    cases r with
    | lst ha _ => exact .base (.lst (g.ex _ _ ha))
  | ptr p =>
    have h' : (match M p with | some (.lst _) => isTyK "list" t | _ => none) = some b := h
    split at h'
    · rename_i xs e
      have ek : kindD M (.ptr p) = "list" := by simp [kindD, e]
      rw [ek]
      obtain ⟨_, ho, hh, rm⟩ := g.mt p _ e
      cases r
      cases rm with
      | lst _ => exact ⟨kit_of_ty (by simp) h', .base (.lst hh)⟩
    · cases h'
  | _ => cases h
theorem ty_list {d : D} {M : Store} {R F H : Hp} {v : V} (g : Good G R F H M) (r : Rp G F v d) (h : (asL M d).isSome = true) : tyV X.K "list" v H := by
  obtain ⟨xs, e⟩ := Option.isSome_iff_exists.mp h
  obtain ⟨a, vs, rfl, ha, _⟩ := asL_rp g r e
  exact .inl ⟨rfl, _, SqL.of ha⟩
theorem ty_dict {d : D} {M : Store} {R F H : Hp} {v : V} (g : Good G R F H M) (r : Rp G F v d) (h : (asD M d).isSome = true) : tyV X.K "dict" v H := by
  obtain ⟨xs, e⟩ := Option.isSome_iff_exists.mp h
  obtain ⟨a, vs, rfl, ha, _⟩ := asD_rp g r e
  exact .inr (.inr (.inl ⟨rfl, .inl ⟨_, ha⟩⟩))
end
section
variable {C : Cq} {X : Cx} (K : Ctx C X)
include K
theorem any_false {es : List Expr} {ps : PXs} {pos : Pos} : isXs X.N X.env.scope ps es = true → (backTo pos (starEach es X.env)).any (·.1) = false := by
  induction ps using PXs.rec (motive_1 := fun _ => True) (motive_3 := fun _ => True) (motive_4 := fun _ => True) (motive_5 := fun _ => True) (motive_6 := fun _ => True) generalizing es with
  | nil =>
    intro h
    cases es with
    | nil => rfl
    | cons _ _ => exact absurd h Bool.false_ne_true
  | cons p ps _ ih =>
    intro h
    cases es with
    | nil => exact absurd h Bool.false_ne_true
    | cons x xs =>
      obtain ⟨h1, h2⟩ := and_of (show (isX X.N X.env.scope p x && isXs X.N X.env.scope ps xs) = true from h)
      have e := ih h2
      rw [star_of (isX_plain h1)]
      unfold backTo at e ⊢
      rw [List.map_cons, List.any_cons, e]
      rfl
  | _ => trivial
theorem all_plain {es : List Expr} {ps : PXs} {pos : Pos} : isXs X.N X.env.scope ps es = true → (backTo pos (starEach es X.env)).all (fun x => !x.1) = true := fun h => by
  have e := any_false K (pos := pos) h
  rw [List.any_eq_false] at e
  rw [List.all_eq_true]
  intro x hx
  simpa using e x hx
theorem wishX_of {σd : Env} {M : Store} {R F : Hp} {σ : L2.St} {H : Hp} (s : SR C σd M R F σ H) : WishX C.G R F C.E (excK C) := by
  intro c fs M' F' H' Ca h e g hm
  have gR : Good C.G C.R F' H' M' := by
    rcases s.e with z | z
    · rw [z] at h; exact h.elim
    · rw [← z]; exact g
  cases fs with
  | none => exact ⟨c, none, M', F', h, s.f0.trans e, gR, hm, ⟨Ca, rfl⟩, trivial⟩
  | some fs => exact fun d xfs hd hr => ⟨c, some fs, M', F', h, s.f0.trans e, gR, hm, ⟨Ca, rfl⟩, xfs, hd, hr⟩
theorem x_call {f : String} {sp : Spec} {es : PXs} {e : Expr} (o : FnFor C.G C.k f es.len sp) (ha : PAs C X es) (h : isX X.N X.env.scope (.call f sp es) e = true) : PE X e (rE C (.call f sp es)) := by
  obtain ⟨p, xs, pos, rfl, hg, h2⟩ := call_shape h
  obtain ⟨g1, g2⟩ := gl_of hg
  obtain ⟨fa, fd, names, F0, hm, hk, hb⟩ := o.ex
  have F1 : FnOk X.prog X.w X.K X.mg X.base (VX.CX X.prog X.w) C.k fa fd names (toSp C.G es.len sp) := by
    rw [K.g.prog, K.g.w, K.g.K, K.g.mg, K.g.base]; exact F0
  have go : ∀ σ H Q, rE C (.call f sp es) σ H Q → tCall (toSp C.G es.len sp) [] (excK C) (rEs C es) σ H Q := fun σ H Q ⟨σd, M, R, F, Qd, s, q, w⟩ => by
    refine ⟨σd, M, R, F, _, s, q, fun ds M1 vs F1 H1 hn q1 e1 g1 r1 => ?_⟩
    show toSp C.G es.len sp (vs ++ []) H1 Q (excK C)
    rw [List.append_nil]
    exact ⟨ds, F1, M1, R, Qd, C.E, hn, g1, r1, q1, w.mono e1, wishX_of K (s.step e1 g1)⟩
  match xs, h2 with
  | [], h2 =>
    have hes : es = .nil := by
      cases es with
      | nil => rfl
      | cons _ _ => exact absurd h2 Bool.false_ne_true
    subst hes
    refine PE.imp (pe_call0 F1 K.room g1 (by rw [K.g.mg]; exact hm) (by rw [K.g.K]; exact hk) (by rw [K.g.K]; exact hb) .nil K.pass g2) fun σ H Q ⟨σd, M, R, F, Qd, s, q, w⟩ => ?_
    show toSp C.G 0 sp ([] ++ []) H Q (excK C)
    exact ⟨[], F, M, R, Qd, C.E, rfl, s.good, .nil, q, w, wishX_of K s⟩
  | x :: xs, h2 =>
    have h3 : plainB x = true := by
      cases es with
      | nil => exact absurd h2 Bool.false_ne_true
      | cons q qs => exact isX_plain (and_of (show (isX X.N X.env.scope q x && isXs X.N X.env.scope qs xs) = true from h2)).1
    have h4 : (backTo pos (starEach xs X.env)).any (·.1) = false := by
      cases es with
      | nil => exact absurd h2 Bool.false_ne_true
      | cons q qs => exact any_false K (and_of (show (isX X.N X.env.scope q x && isXs X.N X.env.scope qs xs) = true from h2)).2
    exact PE.imp (pe_call F1 K.room g1 (by rw [K.g.mg]; exact hm) (by rw [K.g.K]; exact hk) (by rw [K.g.K]; exact hb) .nil K.pass (ha _ h2) g2 (star_of h3) h4) go
theorem call_form {o : Expr} {m : Str} {apos pos : Pos} {xs : List Expr} (hs : noSup o = true) (hl : (apos.endLine == pos.line) = true) (hn : xs.length < 28) (hp : (backTo pos (starEach xs X.env)).all (fun x => !x.1) = true) :
    eval (.Call (.Attribute o m apos) xs [] pos) X.env = (do
      let ov ← eval o X.env
      standAt apos.atName
      let (f, first) ← holding [ov] (getMethod ov m (do return (← importBound o X.env).getD true))
      callWith pos f first (backTo pos (starEach xs X.env)) (backToKw pos (keywordEach [] X.env))) := by
  have e1 : eval (.Call (.Attribute o m apos) xs [] pos) X.env = (do
      let ov ← attributeBase o m X.env (eval o X.env)
      standAt apos.atName
      methodCall o m apos pos X.env ov (xs.length + ([] : List Keyword).length) (backTo pos (starEach xs X.env)) (backToKw pos (keywordEach [] X.env))) := rfl
  rw [e1, base_of hs]
  have hf : methodCallForm (xs.length + ([] : List Keyword).length) (backTo pos (starEach xs X.env)) (backToKw pos (keywordEach [] X.env)) = true := by
    unfold methodCallForm
    rw [hp]
    show (true && true && decide (xs.length + 0 + (if ([] : List (Option Str × Sem Value)).isEmpty = true then 0 else 1) < 30)) = true
    simp
    omega
  have hq : methodCallPos true o X.env apos pos = pure pos := by
    unfold methodCallPos
    rw [hl]
    rfl
  congr 1
  funext ov
  congr 1
  funext _
  unfold methodCall
  rw [hf, hq]
  simp only [pure_bind]
  rfl
theorem x_meth {cl m : String} {sp : Spec} {a : PX} {es : PXs} {e : Expr} (o : MethFor C.G C.k cl m (es.len + 1) sp) (ho : PEs C X a) (ha : PAs C X es) (h : isX X.N X.env.scope (.meth cl m sp a es) e = true) : PE X e (rE C (.meth cl m sp a es)) := by
  obtain ⟨x, apos, xs, pos, rfl, hl, hn, h1, h2, h3⟩ := meth_shape h
  obtain ⟨Ca, fa, fd, names, hm, cl', me, F0, hb⟩ := o.ex
  have F1 : FnOk X.prog X.w X.K X.mg X.base (VX.CX X.prog X.w) C.k fa fd names (toSp C.G (es.len + 1) sp) := by
    rw [K.g.prog, K.g.w, K.g.K, K.g.mg, K.g.base]; exact F0
  have cl2 : Cls X.K Ca := by rw [K.g.K]; exact cl'
  have me2 : Meth X.K Ca (Str.ofString m) fa := by rw [K.g.K]; exact me
  have hb2 : Binds X.K fd names [] := by rw [K.g.K]; exact hb
  have look : ∀ {F : Hp} {vs : List (Str × V)} {fs : List (String × D)}, RpF C.G F vs fs → lookF m fs = none → vs.lookup (Str.ofString m) = none := fun {F vs fs} r hl => by
    rcases lookF_rp m r with ⟨v, d, _, e2, _⟩ | ⟨e1, _⟩
    · rw [hl] at e2; cases e2
    · exact e1
  have go : ∀ σ H Q, rE C (.meth cl m sp a es) σ H Q → tMeth Ca (Str.ofString m) (toSp C.G (es.len + 1) sp) [] (excK C) (rE C a) (rEs C es) σ H Q := fun σ H Q ⟨σd, M, R, F, Qd, s, q, w⟩ => by
    refine ⟨σd, M, R, F, _, s, q, fun d M1 v F1 H1 q1 e1 g1 r1 => ?_⟩
    split at q1
    · rename_i c fs ei
      obtain ⟨rfl, hl, q1⟩ := q1
      obtain ⟨b, C', dx, vs, rfl, hH, hc, rf⟩ := asI_rp g1 r1 ei
      rw [hm] at hc
      cases hc
      refine ⟨b, dx, vs, rfl, hH, look rf hl, σd, M1, R, F1, _, s.step e1 g1, q1, fun ds M2 us F2 H2 hn q2 e2 g2 r2 => ?_⟩
      show toSp C.G (es.len + 1) sp (V.ref b :: (us ++ [])) H2 Q (excK C)
      rw [List.append_nil]
      exact ⟨d :: ds, F2, M2, R, Qd, C.E, congrArg (· + 1) hn, g2, .cons (r1.mono e2) r2, q2, w.mono (e1.trans e2), wishX_of K ((s.step e1 g1).step e2 g2)⟩
    · exact q1.elim
  match xs, h3 with
  | [], h3 =>
    have hes : es = .nil := by
      cases es with
      | nil => rfl
      | cons _ _ => exact absurd h3 Bool.false_ne_true
    subst hes
    refine PE.imp (pe_meth0 (ho _ h2) cl2 me2 F1 K.room hb2 .nil K.pass (call_form K h1 hl hn rfl)) fun σ H Q q => ?_
    obtain ⟨σd, M, R, F, Qd, s, q, w⟩ := go σ H Q q
    refine ⟨σd, M, R, F, Qd, s, q, fun d M1 v F1 H1 q1 e1 g1 r1 => ?_⟩
    obtain ⟨b, dx, vs, e2, e3, e4, σd', M', R', F', Qd', s', q', w'⟩ := w d M1 v F1 H1 q1 e1 g1 r1
    exact ⟨b, dx, vs, e2, e3, e4, w' [] M' [] F' H1 rfl q' (Ex.refl F') s'.good .nil⟩
  | x :: xs, h3 =>
    have h4 : plainB x = true ∧ (backTo pos (starEach xs X.env)).any (·.1) = false := by
      cases es with
      | nil => exact absurd h3 Bool.false_ne_true
      | cons q qs =>
        obtain ⟨h3, h4⟩ := and_of (show (isX X.N X.env.scope q x && isXs X.N X.env.scope qs xs) = true from h3)
        exact ⟨isX_plain h3, any_false K h4⟩
    exact PE.imp (pe_meth (ho _ h2) cl2 me2 F1 K.room hb2 .nil K.pass (ha _ h3) (star_of h4.1) h4.2 (call_form K h1 hl hn (all_plain K h3))) go
theorem x_attr {cl f : String} {a : PX} {e : Expr} (o : AttrF C.G cl f) (ho : PEs C X a) (h : isX X.N X.env.scope (.attr cl a f) e = true) : PE X e (rE C (.attr cl a f)) := by
  obtain ⟨x, pos, rfl, h1, h2⟩ := attr_shape h
  obtain ⟨Ca, hm, cl', na⟩ := o.ex
  have look : ∀ {F : Hp} {vs : List (Str × V)} {fs : List (String × D)} {d : D}, RpF C.G F vs fs → lookF f fs = some d → ∃ v, vs.lookup (Str.ofString f) = some v ∧ Rp C.G F v d := fun {F vs fs d} r hl => by
    rcases lookF_rp f r with ⟨v, d', e1, e2, e3⟩ | ⟨_, e2⟩
    · rw [hl] at e2; cases e2; exact ⟨v, e1, e3⟩
    · rw [hl] at e2; cases e2
  refine PE.imp (pe_fld (ho _ h2) (base_of h1 _ _)) fun σ H Q ⟨σd, M, R, F, Qd, s, q, w⟩ => ?_
  refine ⟨σd, M, R, F, _, s, q, fun d M1 v F1 H1 q1 e1 g1 r1 => ?_⟩
  split at q1
  · rename_i c fs ei
    obtain ⟨rfl, q1⟩ := q1
    obtain ⟨b, C', dx, vs, rfl, hH, hc, rf⟩ := asI_rp g1 r1 ei
    rw [hm] at hc
    cases hc
    split at q1
    · rename_i d2 el
      obtain ⟨v2, e3, r3⟩ := look rf el
      exact ⟨b, Ca, dx, vs, v2, rfl, hH, by rw [K.g.K]; exact cl', by rw [K.g.K]; exact na, e3, w _ _ _ F1 H1 q1 e1 g1 r3⟩
    · exact q1.elim
  · exact q1.elim
theorem x_bi {b : Bi} {es : PXs} {e : Expr} (ok : biB b = true) (o : noB C.G (biName b)) (ha : PAs C X es) (h : isX X.N X.env.scope (.bi b es) e = true) : PE X e (rE C (.bi b es)) := by
  obtain ⟨p, x, xs, pos, rfl, hg, h2⟩ := bi_call_shape h
  obtain ⟨g1, g2⟩ := gl_of hg
  have hm : X.mg (Str.ofString (biName b)) = none := by rw [K.g.mg]; exact o
  have h3 : plainB x = true ∧ (backTo pos (starEach xs X.env)).any (·.1) = false := by
    cases es with
    | nil => exact absurd h2 Bool.false_ne_true
    | cons q qs =>
      obtain ⟨h3, h4⟩ := and_of (show (isX X.N X.env.scope q x && isXs X.N X.env.scope qs xs) = true from h2)
      exact ⟨isX_plain h3, any_false K h4⟩
  have go1 : ∀ (w1 : D → Store → DK → Prop), (∀ d M Q, wB1 b d M Q → w1 d M Q) → (∀ d e M Q, ¬ wB2 b d e M Q) → ∀ σ H Q, rE C (.bi b es) σ H Q → tCB (r1D C.G w1) (rEs C es) σ H Q := fun w1 i1 i2 σ H Q ⟨σd, M, R, F, Qd, s, q, w⟩ => by
    refine ⟨σd, M, R, F, _, s, q, fun ds M1 vs F1 H1 hn q1 e1 g1 r1 => ?_⟩
    match ds, r1, q1 with
    | [d], r1, q1 =>
      cases r1 with
      | cons r rn =>
        cases rn
        exact ⟨_, d, F1, M1, R, Qd, rfl, g1, r, i1 _ _ _ q1, w.mono e1⟩
    | [d, d2], _, q1 => exact absurd q1 (i2 _ _ _ _)
    | [], _, q1 => exact q1.elim
    | _ :: _ :: _ :: _, _, q1 => exact q1.elim
  have go2 : ∀ (w1 : D → D → Store → DK → Prop), (∀ d e M Q, wB2 b d e M Q → w1 d e M Q) → (∀ d M Q, ¬ wB1 b d M Q) → ∀ σ H Q, rE C (.bi b es) σ H Q → tCB (r2D C.G w1) (rEs C es) σ H Q := fun w1 i1 i2 σ H Q ⟨σd, M, R, F, Qd, s, q, w⟩ => by
    refine ⟨σd, M, R, F, _, s, q, fun ds M1 vs F1 H1 hn q1 e1 g1 r1 => ?_⟩
    match ds, r1, q1 with
    | [d], _, q1 => exact absurd q1 (i2 _ _ _)
    | [d, d2], r1, q1 =>
      cases r1 with
      | cons r rn =>
        cases rn with
        | cons r' rn =>
          cases rn
          exact ⟨_, _, d, d2, F1, M1, R, Qd, rfl, g1, r, r', i1 _ _ _ _ q1, w.mono e1⟩
    | [], _, q1 => exact q1.elim
    | _ :: _ :: _ :: _, _, q1 => exact q1.elim
  have A := ha _ h2
  have S := star_of (es := xs) (env := X.env) h3.1
  cases b
  case len => exact PE.imp (pe_callB (b_len K.g) g1 hm PySem.boot_len A (by decide) g2 S h3.2) (go1 _ (fun _ _ _ h => h) fun _ _ _ _ h => h)
  case abs => exact PE.imp (pe_callB (b_abs K.g) g1 hm boot_abs A (by decide) g2 S h3.2) (go1 _ (fun _ _ _ h => h) fun _ _ _ _ h => h)
  case min2 => exact PE.imp (pe_callB (b_min2 K.g) g1 hm (by decide +kernel) A (by decide) g2 S h3.2) (go2 _ (fun _ _ _ _ h => h) fun _ _ _ h => h)
  case max2 => exact PE.imp (pe_callB (b_max2 K.g) g1 hm (by decide +kernel) A (by decide) g2 S h3.2) (go2 _ (fun _ _ _ _ h => h) fun _ _ _ h => h)
  case int => exact PE.imp (pe_callTy (b_int K.g) g1 hm (by decide +kernel) A (by decide) g2 S h3.2) (go1 _ (fun _ _ _ h => h) fun _ _ _ _ h => h)
  case list => exact PE.imp (pe_callTy (b_list K.g) g1 hm (by decide +kernel) A (by decide) g2 S h3.2) (go1 _ (fun _ _ _ h => h) fun _ _ _ _ h => h)
  case tuple => exact PE.imp (pe_callTy (b_tuple K.g) g1 hm (by decide +kernel) A (by decide) g2 S h3.2) (go1 _ (fun _ _ _ h => h) fun _ _ _ _ h => h)
  case range1 => exact PE.imp (pe_callTy (b_range1 K.g) g1 hm (by decide +kernel) A (by decide) g2 S h3.2) (go1 _ (fun _ _ _ h => h) fun _ _ _ _ h => h)
  case range2 => exact PE.imp (pe_callTy (b_range2 K.g) g1 hm (by decide +kernel) A (by decide) g2 S h3.2) (go2 _ (fun _ _ _ _ h => h) fun _ _ _ h => h)
  case sum => exact PE.imp (pe_callB (b_sum K.g) g1 hm (by decide +kernel) A (by decide) g2 S h3.2) (go1 _ (fun _ _ _ h => h) fun _ _ _ _ h => h)
  case any => exact PE.imp (pe_callB (b_any K.g) g1 hm (by decide +kernel) A (by decide) g2 S h3.2) (go1 _ (fun _ _ _ h => h) fun _ _ _ _ h => h)
  case all => exact PE.imp (pe_callB (b_all K.g) g1 hm (by decide +kernel) A (by decide) g2 S h3.2) (go1 _ (fun _ _ _ h => h) fun _ _ _ _ h => h)
  case min1 => exact PE.imp (pe_callB (b_min1 K.g) g1 hm (by decide +kernel) A (by decide) g2 S h3.2) (go1 _ (fun _ _ _ h => h) fun _ _ _ _ h => h)
  case max1 => exact PE.imp (pe_callB (b_max1 K.g) g1 hm (by decide +kernel) A (by decide) g2 S h3.2) (go1 _ (fun _ _ _ h => h) fun _ _ _ _ h => h)
  case sorted => exact PE.imp (pe_callB (b_sorted K.g) g1 hm (by decide +kernel) A (by decide) g2 S h3.2) (go1 _ (fun _ _ _ h => h) fun _ _ _ _ h => h)
  case listD => exact PE.imp (pe_callTy (b_listD K.g) g1 hm (by decide +kernel) A (by decide) g2 S h3.2) (go1 _ (fun _ _ _ h => h) fun _ _ _ _ h => h)
  all_goals exact absurd ok Bool.false_ne_true
theorem one_arg {es : PXs} {xs : List Expr} {x : Expr} (h : isXs X.N X.env.scope es (x :: xs) = true) : plainB x = true ∧ ∀ pos, (backTo pos (starEach xs X.env)).any (·.1) = false := by
  cases es with
  | nil => exact absurd h Bool.false_ne_true
  | cons q qs =>
    obtain ⟨h3, h4⟩ := and_of (show (isX X.N X.env.scope q x && isXs X.N X.env.scope qs xs) = true from h)
    exact ⟨isX_plain h3, fun pos => any_false K h4⟩
theorem few_of {es : PXs} {xs : List Expr} {pos : Pos} (h : isXs X.N X.env.scope es xs = true) (hn : xs.length < 28) :
    ((backTo pos (starEach xs X.env)).all (fun x => !x.1) && (backToKw pos (keywordEach [] X.env)).all (fun x => x.1.isSome)
      && decide (xs.length + ([] : List Keyword).length + (if ([] : List Keyword).isEmpty then 0 else 1) < 30)) = true := by
  rw [all_plain K h]
  show (true && true && decide (xs.length + 0 + (if ([] : List Keyword).isEmpty = true then 0 else 1) < 30)) = true
  simp
  omega
theorem x_mth {m : Mt} {a : PX} {es : PXs} {e : Expr} (ho : PEs C X a) (ha : PAs C X es) (h : isX X.N X.env.scope (.mth m a es) e = true) : PE X e (rE C (.mth m a es)) := by
  obtain ⟨x, apos, xs, pos, rfl, hl, h1, h2, h3, h4⟩ := mth_shape h
  have go : ∀ T, (∀ (d : D) (M : Store) (R F H : Hp) (v : V), Good C.G R F H M → Rp C.G F v d → mtTy m d M = true → tyV X.K T v H) →
      ∀ σ H Q, rE C (.mth m a es) σ H Q → tBM X.K T (fun x vs H Q => ∃ dx ds F M R Qd, Good C.G R F H M ∧ Rp C.G F x dx ∧ RpL C.G F vs ds ∧ wMt m dx ds M Qd ∧ Wish C.G R F Qd Q) (rE C a) (rEs C es) σ H Q :=
    fun T ty σ H Q ⟨σd, M, R, F, Qd, s, q, w⟩ => by
      refine ⟨σd, M, R, F, _, s, q, fun d M1 v F1 H1 q1 e1 g1 r1 => ⟨ty d M1 R F1 H1 v g1 r1 q1.1, σd, M1, R, F1, _, s.step e1 g1, q1.2, fun ds M2 us F2 H2 hn q2 e2 g2 r2 => ?_⟩⟩
      exact ⟨d, ds, F2, M2, R, Qd, g2, r1.mono e2, r2, q2, w.mono (e1.trans e2)⟩
  have tl : ∀ (d : D) (M : Store) (R F H : Hp) (v : V), Good C.G R F H M → Rp C.G F v d → (asL M d).isSome = true → tyV X.K "list" v H := fun d M R F H v g r h => ty_list K.g g r h
  have td : ∀ (d : D) (M : Store) (R F H : Hp) (v : V), Good C.G R F H M → Rp C.G F v d → (asD M d).isSome = true → tyV X.K "dict" v H := fun d M R F H v g r h => ty_dict K.g g r h
  cases m
  case append =>
    match xs, h4, h3 with
    | [y], _, h3 =>
      obtain ⟨p1, p2⟩ := one_arg K h3
      exact PE.imp (pe_bm PySem.F.plainAttrs_list PySem.F.slot_list_append PySem.F.type_list_append (m_append K.g) (ho _ h2) (ha _ h3) (base_of h1 _ _) (few_of K h3 (by simp)) hl (star_of p1) (p2 _)) (go "list" tl)
  case extend =>
    match xs, h4, h3 with
    | [y], _, h3 =>
      obtain ⟨p1, p2⟩ := one_arg K h3
      exact PE.imp (pe_bm PySem.F.plainAttrs_list PySem.F.slot_list_extend PySem.F.type_list_extend (m_extend K.g) (ho _ h2) (ha _ h3) (base_of h1 _ _) (few_of K h3 (by simp)) hl (star_of p1) (p2 _)) (go "list" tl)
  case index =>
    match xs, h4, h3 with
    | [y], _, h3 =>
      obtain ⟨p1, p2⟩ := one_arg K h3
      exact PE.imp (pe_bm PySem.F.plainAttrs_list PySem.F.slot_list_index PySem.F.type_list_index (m_index K.g) (ho _ h2) (ha _ h3) (base_of h1 _ _) (few_of K h3 (by simp)) hl (star_of p1) (p2 _)) (go "list" tl)
  case get1 =>
    match xs, h4, h3 with
    | [y], _, h3 =>
      obtain ⟨p1, p2⟩ := one_arg K h3
      exact PE.imp (pe_bm PySem.F.plainAttrs_dict PySem.F.slot_dict_get PySem.F.type_dict_get (m_get1 K.g) (ho _ h2) (ha _ h3) (base_of h1 _ _) (few_of K h3 (by simp)) hl (star_of p1) (p2 _)) (go "dict" td)
  case get2 =>
    match xs, h4, h3 with
    | [y, z], _, h3 =>
      obtain ⟨p1, p2⟩ := one_arg K h3
      exact PE.imp (pe_bm PySem.F.plainAttrs_dict PySem.F.slot_dict_get PySem.F.type_dict_get (m_get2 K.g) (ho _ h2) (ha _ h3) (base_of h1 _ _) (few_of K h3 (by simp)) hl (star_of p1) (p2 _)) (go "dict" td)
  case pop =>
    match xs, h4, h3 with
    | [], _, h3 =>
      have hes : es = .nil := by
        cases es with
        | nil => rfl
        | cons _ _ => exact absurd h3 Bool.false_ne_true
      subst hes
      refine PE.imp (pe_bm0 PySem.F.plainAttrs_list PySem.F.slot_list_pop PySem.F.type_list_pop (m_pop K.g) (ho _ h2) (base_of h1 _ _) hl) fun σ H Q q => ?_
      obtain ⟨σd, M, R, F, Qd, s, q, w⟩ := go "list" tl σ H Q q
      refine ⟨σd, M, R, F, Qd, s, q, fun d M1 v F1 H1 q1 e1 g1 r1 => ?_⟩
      obtain ⟨t1, σd', M', R', F', Qd', s', q', w'⟩ := w d M1 v F1 H1 q1 e1 g1 r1
      exact ⟨t1, w' [] M' [] F' H1 rfl q' (Ex.refl F') s'.good .nil⟩
theorem cls_pe {y : String} {z : Expr} (o1 : noB C.G y) (o2 : y ∈ fiveTys) (hz : isBi X.env.scope y z = true) : PE X z (tC (.ty y)) ∧ plainB z = true := by
  obtain ⟨p, rfl, hg⟩ := bi_shape hz
  obtain ⟨g1, g2⟩ := gl_of hg
  exact ⟨pe_bltn g1 (by rw [K.g.mg]; exact o1) (boot_five o2).1 rfl (boot_five o2).2 g2, rfl⟩
theorem x_isi {a : PX} {t : String} {e : Expr} (o : noB C.G "isinstance") (o1 : noB C.G t) (o2 : t ∈ fiveTys) (ho : PEs C X a) (h : isX X.N X.env.scope (.isi a t) e = true) : PE X e (rE C (.isi a t)) := by
  obtain ⟨p, x, z, pos, rfl, hg, h1, h2⟩ := isi_shape h
  obtain ⟨g1, g2⟩ := gl_of hg
  have hm : X.mg (Str.ofString "isinstance") = none := by rw [K.g.mg]; exact o
  obtain ⟨c1, c2⟩ := cls_pe K o1 o2 h2
  have S2 : starEach [z] X.env = (false, eval z X.env) :: starEach [] X.env := star_of c2
  refine PE.imp (pe_callB call_isi g1 hm boot_isinstance (pa_cons (ho _ h1) (pa_cons c1 pa_nil S2) (star_of (isX_plain h1))) (by decide) g2 (star_of (isX_plain h1)) (by rw [S2]; rfl)) fun σ H Q ⟨σd, M, R, F, Qd, s, q, w⟩ => ?_
  refine ⟨σd, M, R, F, _, s, q, fun d M1 v F1 H1 q1 e1 g1 r1 => ?_⟩
  split at q1
  · rename_i b eb
    obtain ⟨hk, ty⟩ := ty_kind K.g g1 r1 eb
    exact ⟨v, .ty t, _, _, b, rfl, .ty t, ty, kit_ty hk, w _ _ _ F1 H1 q1 e1 g1 (.bl _)⟩
  · exact q1.elim
theorem x_isi2 {a : PX} {t u : String} {e : Expr} (o : noB C.G "isinstance") (o1 : noB C.G t) (o2 : t ∈ fiveTys) (o3 : noB C.G u) (o4 : u ∈ fiveTys) (ho : PEs C X a) (h : isX X.N X.env.scope (.isi2 a t u) e = true) : PE X e (rE C (.isi2 a t u)) := by
  obtain ⟨p, x, z, y, j, tp, pos, rfl, hg, h1, h2, h3⟩ := isi2_shape h
  obtain ⟨g1, g2⟩ := gl_of hg
  have hm : X.mg (Str.ofString "isinstance") = none := by rw [K.g.mg]; exact o
  obtain ⟨c1, c2⟩ := cls_pe K o1 o2 h2
  obtain ⟨c3, c4⟩ := cls_pe K o3 o4 h3
  have S4 : starEach [y] X.env = (false, eval y X.env) :: starEach [] X.env := star_of c4
  refine PE.imp (pe_callB call_isiT g1 hm boot_isinstance (pa_cons (ho _ h1) (pa_cons (pe_tup (pa_cons c1 (pa_cons c3 pa_nil S4) (star_of c2))) pa_nil rfl) (star_of (isX_plain h1))) (by decide) g2 (star_of (isX_plain h1)) rfl) fun σ H Q ⟨σd, M, R, F, Qd, s, q, w⟩ => ?_
  refine ⟨σd, M, R, F, _, s, q, fun d M1 v F1 H1 q1 e1 g1 r1 => ?_⟩
  split at q1
  · rename_i b b' eb eb'
    refine ⟨by show 2 ≤ sizeLine; rw [line_eq]; decide, fun p hp => ?_⟩
    obtain ⟨g2, e2⟩ := g1.new (o := .tup [.ty t, .ty u]) hp
    have r2 := r1.mono e2
    obtain ⟨hk, ty⟩ := ty_kind K.g g2 r2 eb
    obtain ⟨hk', _⟩ := ty_kind K.g g2 r2 eb'
    refine ⟨v, p, [.ty t, .ty u], _, [.type t, .type u], b || b', rfl, upd_same, .cons (.ty t) (.cons (.ty u) .nil), ty, ?_, w _ _ _ _ _ q1 (e1.trans e2) g2 (.bl _)⟩
    refine kitAny_cons (kit_ty hk) (fun hb => ?_) (fun hb => by rw [hb]; rfl)
    rw [hb]
    exact kitAny_cons (kit_ty hk') (fun hb' => by rw [hb']; exact kitAny_nil) (fun hb' => by rw [hb']; rfl)
  · exact q1.elim
end
end VS
namespace VS
open PySem PySem.Spec PyProof.Rows L2
theorem any_rd0 {G : Glob} {F : Hp} {kd : D} {k : Key} (hk : keyOf kd = some k) : ∀ {vs : List (Key × V)} {ds : List (D × D)}, RpD G F vs ds → (vs.any fun kv => decide (kv.1 = k)) = ds.any fun e => decide (keyOf e.1 = keyOf kd)
  | _, _, .nil => rfl
  | _, _, .cons h1 _ rs => by
    rw [List.any_cons, List.any_cons, any_rd0 hk rs, h1, hk]
    congr 1
    exact decide_eq_decide.mpr ⟨fun e => congrArg some e, fun e => Option.some.inj e⟩
theorem app_rd0 {G : Glob} {F : Hp} {kd d : D} {k : Key} {v : V} (hk : keyOf kd = some k) (r : Rp G F v d) : ∀ {vs : List (Key × V)} {ds : List (D × D)}, RpD G F vs ds → RpD G F (vs ++ [(k, v)]) (ds ++ [(kd, d)])
  | _, _, .nil => .cons hk r .nil
  | _, _, .cons h1 r1 rs => .cons h1 r1 (app_rd0 hk r rs)
theorem map_rd0 {G : Glob} {F : Hp} {kd d : D} {k : Key} {v : V} (hk : keyOf kd = some k) (r : Rp G F v d) : ∀ {vs : List (Key × V)} {ds : List (D × D)}, RpD G F vs ds → RpD G F (vs.map fun kv => if kv.1 = k then (kv.1, v) else kv) (ds.map fun e => if keyOf e.1 = keyOf kd then (e.1, d) else e)
  | _, _, .nil => .nil
  | _, _, .cons (k := k') (kd := kd') h1 r1 rs => by
    rw [List.map_cons, List.map_cons]
    by_cases e : k' = k
    · have e2 : keyOf kd' = keyOf kd := by rw [h1, hk, e]
      rw [if_pos (show (k', _).1 = k from e), if_pos (show keyOf (kd', _).1 = keyOf kd from e2)]
      exact .cons h1 r (map_rd0 hk r rs)
    · have e2 : ¬ keyOf kd' = keyOf kd := by rw [h1, hk]; exact fun z => e (Option.some.inj z)
      rw [if_neg (show ¬ (k', _).1 = k from e), if_neg (show ¬ keyOf (kd', _).1 = keyOf kd from e2)]
      exact .cons h1 r1 (map_rd0 hk r rs)
theorem put_rd0 {G : Glob} {F : Hp} {kd d : D} {k : Key} {v : V} (hk : keyOf kd = some k) (r : Rp G F v d) {vs : List (Key × V)} {ds : List (D × D)} (rd : RpD G F vs ds) : RpD G F (putK vs k v) (putD kd d ds) := by
  unfold putK putD
  rw [any_rd0 hk rd]
  split
  · exact map_rd0 hk r rd
  · exact app_rd0 hk r rd
def Tgs.len : Tgs → Nat
  | .nil => 0 | .cons _ ts => ts.len + 1
mutual
def tgRd (K : PySem.W.Frag) : Tg → TG
  | .nm i => gName i
  | .tp ts => gTup K ts.len (tgsRd K ts)
def tgsRd (K : PySem.W.Frag) : Tgs → TGs
  | .nil => gNil
  | .cons t ts => gCons (tgRd K t) (tgsRd K ts)
end
theorem wipe_set {σ : L2.St} {i : Nat} {x : V} : ∀ {vs : List Nat}, i ∈ vs → L2.wipe (σ.set i (some x)) vs = L2.wipe σ vs
  | v :: vs, h => by
    unfold L2.wipe
    by_cases e : i ∈ vs
    · rw [wipe_set e]
    · have ev : i = v := by
        rcases List.mem_cons.mp h with z | z
        · exact z
        · exact absurd z e
      subst ev
      have : ∀ (us : List Nat), i ∉ us → L2.wipe (σ.set i (some x)) us = (L2.wipe σ us).set i (some x) := fun us hu => by
        induction us with
        | nil => rfl
        | cons u us ih =>
          simp only [List.mem_cons, not_or] at hu
          unfold L2.wipe
          rw [ih hu.2, List.set_comm _ _ hu.1]
      rw [this vs e, List.set_set]
theorem rl_cons {G : Glob} {F : Hp} {vs : List V} {d : D} {ds : List D} (r : RpL G F vs (d :: ds)) : ∃ u us, vs = u :: us ∧ Rp G F u d ∧ RpL G F us ds := by
  cases r with
  | cons r rl => exact ⟨_, _, rfl, r, rl⟩
theorem wipe_wipe (σ : L2.St) : ∀ vs : List Nat, L2.wipe (L2.wipe σ vs) vs = L2.wipe σ vs := fun vs => by
  have key : ∀ (us : List Nat) (τ : L2.St), (∀ u ∈ us, u < τ.length → τ[u]? = some none) → L2.wipe τ us = τ := fun us τ h => by
    induction us with
    | nil => rfl
    | cons u us ih =>
      unfold L2.wipe
      rw [ih fun w hw => h w (List.mem_cons_of_mem _ hw)]
      by_cases hu : u < τ.length
      · have e := h u List.mem_cons_self hu
        have e2 : τ[u] = none := by
          rw [List.getElem?_eq_getElem hu] at e
          exact Option.some.inj e
        rw [← e2, List.set_getElem_self]
      · exact List.set_eq_of_length_le (by omega)
  refine key vs _ fun u hu hl => ?_
  cases q : (L2.wipe σ vs)[u]? with
  | none =>
    rw [List.getElem?_eq_getElem hl] at q
    cases q
  | some o =>
    cases o with
    | none => rfl
    | some x => exact absurd hu (wipe_some q).2
mutual
theorem gTg_ex : ∀ (t : Tg) {d : D} {σ : Env} {P : Env → Prop}, gTg t d σ P → ∃ σ', P σ'
  | .nm i, d, σ, P, h => ⟨_, h⟩
  | .tp ts, d, σ, P, h => by
    cases d with
    | tup ds => exact gTgs_ex ts (show gTgs ts ds σ P from h)
    | _ => exact (show False from h).elim
theorem gTgs_ex : ∀ (t : Tgs) {d : List D} {σ : Env} {P : Env → Prop}, gTgs t d σ P → ∃ σ', P σ'
  | .nil, d, σ, P, h => by
    cases d with
    | nil => exact ⟨σ, h⟩
    | cons _ _ => exact (show False from h).elim
  | .cons t ts, d, σ, P, h => by
    cases d with
    | nil => exact (show False from h).elim
    | cons d ds =>
      obtain ⟨σ', h'⟩ := gTg_ex t (show gTg t d σ (fun σ' => gTgs ts ds σ' P) from h)
      exact gTgs_ex ts h'
end
theorem gTgs_len : ∀ (t : Tgs) {d : List D} {σd : Env} {Q : Env → Prop}, gTgs t d σd Q → d.length = t.len
  | .nil, d, σ, P, h => by
    cases d with
    | nil => rfl
    | cons _ _ => exact (show False from h).elim
  | .cons t ts, d, σ, P, h => by
    cases d with
    | nil => exact (show False from h).elim
    | cons d ds =>
      obtain ⟨σ', h'⟩ := gTg_ex t (show gTg t d σ (fun σ' => gTgs ts ds σ' P) from h)
      exact congrArg (· + 1) (gTgs_len ts h')
mutual
theorem tg_mono {K : PySem.W.Frag} : ∀ (t : Tg) {v : V} {σ : L2.St} {H : Hp} {Q Q' : L2.St → Hp → Prop}, tgRd K t v σ H Q → (∀ σ H, Q σ H → Q' σ H) → tgRd K t v σ H Q'
  | .nm i, v, σ, H, Q, Q', h, i' => i' _ _ h
  | .tp ts, v, σ, H, Q, Q', h, i' => by
    obtain ⟨a, xs, e1, e2, e3, e4⟩ := h
    exact ⟨a, xs, e1, e2, e3, tgs_mono ts e4 i'⟩
theorem tgs_mono {K : PySem.W.Frag} : ∀ (t : Tgs) {v : List V} {σ : L2.St} {H : Hp} {Q Q' : L2.St → Hp → Prop}, tgsRd K t v σ H Q → (∀ σ H, Q σ H → Q' σ H) → tgsRd K t v σ H Q'
  | .nil, v, σ, H, Q, Q', h, i' => ⟨h.1, i' _ _ h.2⟩
  | .cons t ts, v, σ, H, Q, Q', h, i' => by
    obtain ⟨x, r, e1, e2⟩ := h
    exact ⟨x, r, e1, tg_mono t e2 fun σ H q => tgs_mono ts q i'⟩
end
mutual
theorem tg_sem {G : Glob} {R F H : Hp} {M : Store} {K : PySem.W.Frag} (hK : K = G.K) (g : Good G R F H M) : ∀ (t : Tg) {d : D} {v : V} {σd : Env} {σ : L2.St} {Q : Env → Prop}, Rp G F v d → EnvR G F σd σ → gTg t d σd Q →
    tgRd K t v σ H (fun σ' H' => H' = H ∧ (∀ vs, tgIn vs t = true → L2.wipe σ' vs = L2.wipe σ vs) ∧ ∃ σd', EnvR G F σd' σ' ∧ Q σd')
  | .nm i, d, v, σd, σ, Q, r, e, h => ⟨rfl, fun vs hv => wipe_set (of_decide_eq_true hv), _, e.set i r, h⟩
  | .tp ts, d, v, σd, σ, Q, r, e, h => by
    cases d with
    | tup ds =>
      obtain ⟨a, vs, rfl, ha, rl⟩ := rp_tup r
      have h' : gTgs ts ds σd Q := h
      refine ⟨a, vs, rfl, by rw [hK]; exact g.ex.t ha, ?_, tgs_sem hK g ts rl e h'⟩
      rw [rl.length]
      exact gTgs_len ts h'
    | _ => exact (show False from h).elim
theorem tgs_sem {G : Glob} {R F H : Hp} {M : Store} {K : PySem.W.Frag} (hK : K = G.K) (g : Good G R F H M) : ∀ (t : Tgs) {d : List D} {v : List V} {σd : Env} {σ : L2.St} {Q : Env → Prop}, RpL G F v d → EnvR G F σd σ → gTgs t d σd Q →
    tgsRd K t v σ H (fun σ' H' => H' = H ∧ (∀ vs, tgsIn vs t = true → L2.wipe σ' vs = L2.wipe σ vs) ∧ ∃ σd', EnvR G F σd' σ' ∧ Q σd')
  | .nil, d, v, σd, σ, Q, r, e, h => by
    cases d with
    | nil =>
      cases r
      exact ⟨rfl, rfl, fun _ _ => rfl, σd, e, h⟩
    | cons _ _ => exact (show False from h).elim
  | .cons t ts, d, v, σd, σ, Q, r, e, h => by
    cases d with
    | nil => exact (show False from h).elim
    | cons d ds =>
      obtain ⟨v, vs, rfl, r, rl⟩ := rl_cons r
      · refine ⟨v, vs, rfl, ?_⟩
        have h' : gTg t d σd (fun σ' => gTgs ts ds σ' Q) := h
        have k := tg_sem hK g t (v := v) r e h'
        refine tg_mono t k ?_
        intro σ' H' ⟨e1, e2, σd', e3, e4⟩
        subst e1
        refine tgs_mono ts (tgs_sem hK g ts rl e3 e4) ?_
        intro σ2 H2 ⟨f1, f2, σd2, f3, f4⟩
        refine ⟨f1, fun us hu => ?_, σd2, f3, f4⟩
        obtain ⟨u1, u2⟩ := and_of (show (tgIn us t && tgsIn us ts) = true from hu)
        rw [f2 us u2, e2 us u1]
end
section
variable {X : Cx}
theorem assign_star {N : List Str} {sc : Scope} {fnb : Str → Bool} {t : Tg} {e : Expr} (h : isTg N sc fnb t e = true) (es : List Expr) (env : PySem.Env) : assignEach (e :: es) env = (false, assign e env) :: assignEach es env := by
  cases e <;> first
    | rfl
    | (exfalso; cases t <;> exact absurd h Bool.false_ne_true)
theorem assign_all {N : List Str} {sc : Scope} {fnb : Str → Bool} : ∀ {ts : Tgs} {es : List Expr}, isTgs N sc fnb ts es = true → ∀ env, (assignEach es env).length = ts.len ∧ (assignEach es env).findIdx? (·.1) = none
  | .nil, es, h, env => by
    cases es with
    | nil => exact ⟨rfl, rfl⟩
    | cons _ _ => exact absurd h Bool.false_ne_true
  | .cons t ts, es, h, env => by
    cases es with
    | nil => exact absurd h Bool.false_ne_true
    | cons e es =>
      obtain ⟨h1, h2⟩ := and_of (show (isTg N sc fnb t e && isTgs N sc fnb ts es) = true from h)
      obtain ⟨i1, i2⟩ := assign_all h2 env
      rw [assign_star h1]
      refine ⟨congrArg (· + 1) i1, ?_⟩
      rw [List.findIdx?_cons, i2]
      rfl
mutual
theorem tg_pg (hc : X.calm = true) (hN : X.N.Nodup) {fnb : Str → Bool} (hf : ∀ x, fnb x = true → X.fn x = true) : ∀ (t : Tg) {e : Expr}, isTg X.N X.env.scope fnb t e = true → PG X e (tgRd X.K t)
  | .nm i, e, h => by
    cases e <;> first | (exact absurd h Bool.false_ne_true) | skip
    rename_i x pos
    obtain ⟨h1, h2⟩ := and_of (show (decide (X.N[i]? = some x) && (match X.env.scope.names.lookup x with | some .local => true | some .cell => fnb x | _ => false)) = true from h)
    have h1 := of_decide_eq_true h1
    split at h2
    · rename_i e1
      exact pg_name hN h1 (.inl e1) (.inr e1)
    · rename_i e1
      exact pg_name hN h1 (.inr e1) (.inl (hf x h2))
    · cases h2
  | .tp ts, e, h => by
    cases e <;> first | (exact absurd h Bool.false_ne_true) | skip
    rename_i es k pos
    have h' : isTgs X.N X.env.scope fnb ts es = true := h
    obtain ⟨a1, a2⟩ := assign_all h' X.env
    exact pg_tup hc (tgs_pg hc hN hf ts h') a1 a2
theorem tgs_pg (hc : X.calm = true) (hN : X.N.Nodup) {fnb : Str → Bool} (hf : ∀ x, fnb x = true → X.fn x = true) : ∀ (t : Tgs) {e : List Expr}, isTgs X.N X.env.scope fnb t e = true → PGs X e (tgsRd X.K t)
  | .nil, es, h => by
    cases es with
    | nil => exact pgs_nil
    | cons _ _ => exact absurd h Bool.false_ne_true
  | .cons t ts, es, h => by
    cases es with
    | nil => exact absurd h Bool.false_ne_true
    | cons e es =>
      obtain ⟨h1, h2⟩ := and_of (show (isTg X.N X.env.scope fnb t e && isTgs X.N X.env.scope fnb ts es) = true from h)
      exact pgs_cons (tg_pg hc hN hf t h1) (tgs_pg hc hN hf ts h2) (by rw [assign_star h1]; rfl)
end
end
section
variable {C : Cq} {X : Cx} (K : Ctx C X)
include K
abbrev PIs (C : Cq) (X : Cx) (t : PIt) : Prop := ∀ tg e, (ntB t = true → tupE tg) → isIt X.N X.env.scope t e = true → PI X tg e (rI C t)
theorem i_ex {a : PX} (ha : PEs C X a) : PIs C X (.ex a) := fun tg e _ h => by
  refine ⟨fun pins s σ H Q I hw => ?_⟩
  obtain ⟨σd, M, R, F, Qd, sr, q, w⟩ := hw
  refine thn ((ha e h).run pins s σ H (fun v H1 => ∃ d M1 F1, Ex F F1 ∧ Good C.G R F1 H1 M1 ∧ Rp C.G F1 v d ∧ itD d M1 fun xs g => Qd xs g M1) I ⟨σd, M, R, F, _, sr, q, fun d M1 v F1 H1 q1 e1 g1 r1 => ⟨d, M1, F1, e1, g1, r1, q1⟩⟩) fun u s1 ⟨v, H1, I1, rv, d, M1, F1, e1, g1, r1, q1⟩ => ?_
  exact iter_D K.g I1 rv g1 r1 q1 fun xs g J q2 wk hl => w xs g M1 F1 H1 J q2 e1 g1 wk hl
theorem fold_of {t : PIt} {e : Expr} (h : isIt X.N X.env.scope t e = true) (env : PySem.Env) : ∀ x, foldedSetIterable e env x = pure x := by
  intro x
  cases e <;> first
    | rfl
    | (exfalso
       cases t <;> first
         | (exact absurd h Bool.false_ne_true)
         | (rename_i p; cases p <;> exact absurd h Bool.false_ne_true))
theorem i_rng1 {a : PX} (o : noB C.G "range") (ha : PEs C X a) : PIs C X (.rng1 a) := fun tg e _ h => by
  cases e <;> first | (exact absurd h Bool.false_ne_true) | skip
  rename_i fn xs kws pos
  match xs, kws, h with
  | [], _, h => exact absurd h Bool.false_ne_true
  | _ :: _ :: _, _, h => exact absurd h Bool.false_ne_true
  | [_], _ :: _, h => exact absurd h Bool.false_ne_true
  | [x], [], h =>
    obtain ⟨h1, h2⟩ := and_of (show (isBi X.env.scope "range" fn && isX X.N X.env.scope a x) = true from h)
    obtain ⟨p, rfl, hg⟩ := bi_shape h1
    obtain ⟨g1, _⟩ := gl_of hg
    have S : starEach [x] X.env = [(false, eval x X.env)] := star_of (es := []) (isX_plain h2)
    refine PI.imp (pi_range1 g1 (by rw [K.g.mg]; exact o) (pa_cons (ha _ h2) pa_nil S) S) fun σ H Q ⟨σd, M, R, F, Qd, s, q, w⟩ => ?_
    refine ⟨σd, M, R, F, _, s, q, fun d M1 v F1 H1 q1 e1 g1 r1 => ?_⟩
    cases d <;> first | exact (show False from q1).elim | skip
    rename_i j
    obtain ⟨⟨b1, b2⟩, b3, q1⟩ := q1
    cases r1
    refine ⟨j, rfl, b1, b2, ?_⟩
    have wk := walks_rng (G := C.G) (F := F1) (g := fun _ => True) 0 j
    rw [Int.sub_zero] at wk
    exact w _ _ _ F1 H1 _ q1 e1 g1 wk (by rw [rngD_len, Int.sub_zero]; exact b3)
theorem i_rng2 {a b : PX} (o : noB C.G "range") (ha : PEs C X a) (hb : PEs C X b) : PIs C X (.rng2 a b) := fun tg e _ h => by
  cases e <;> first | (exact absurd h Bool.false_ne_true) | skip
  rename_i fn xs kws pos
  match xs, kws, h with
  | [], _, h => exact absurd h Bool.false_ne_true
  | [_], _, h => exact absurd h Bool.false_ne_true
  | _ :: _ :: _ :: _, _, h => exact absurd h Bool.false_ne_true
  | [_, _], _ :: _, h => exact absurd h Bool.false_ne_true
  | [x, y], [], h =>
    obtain ⟨h, h3⟩ := and_of (show (isBi X.env.scope "range" fn && isX X.N X.env.scope a x && isX X.N X.env.scope b y) = true from h)
    obtain ⟨h1, h2⟩ := and_of h
    obtain ⟨p, rfl, hg⟩ := bi_shape h1
    obtain ⟨g1, _⟩ := gl_of hg
    have S2 : starEach [y] X.env = [(false, eval y X.env)] := star_of (es := []) (isX_plain h3)
    have S : starEach [x, y] X.env = [(false, eval x X.env), (false, eval y X.env)] := by rw [star_of (isX_plain h2), S2]
    refine PI.imp (pi_range2 g1 (by rw [K.g.mg]; exact o) (pa_cons (ha _ h2) (pa_cons (hb _ h3) pa_nil S2) (by rw [S, S2])) S S2) fun σ H Q ⟨σd, M, R, F, Qd, s, q, w⟩ => ?_
    refine ⟨σd, M, R, F, _, s, q, fun d M1 v F1 H1 q1 e1 g1 r1 => ?_⟩
    refine ⟨σd, M1, R, F1, _, s.step e1 g1, q1, fun d2 M2 v2 F2 H2 q2 e2 g2 r2 => ?_⟩
    cases d <;> first | exact (show False from q2).elim | skip
    cases d2 <;> first | exact (show False from q2).elim | skip
    rename_i i j
    obtain ⟨bb, b3, q2⟩ := q2
    cases r1; cases r2
    exact ⟨i, j, rfl, bb, w _ _ _ F2 H2 _ q2 (e1.trans e2) g2 (walks_rng i j) (by rw [rngD_len]; exact b3)⟩
theorem walks_rngc {G : Glob} {F : Hp} {g : Store → Prop} (lo c : Int) (n : Nat) : Walks G (Itc lo c n) ((List.range n).map fun (t : Nat) => D.int (lo + (t : Int) * c)) g F := fun i R F' H M e gd gm => by
  refine ⟨fun x hx => ?_, fun hi => by rw [List.length_map, List.length_range] at hi; exact hi⟩
  rw [List.getElem?_map] at hx
  cases q : (List.range n)[i]? with
  | none => rw [q] at hx; cases hx
  | some j =>
    rw [q] at hx
    have hl := (List.getElem?_eq_some_iff.mp q).1
    rw [List.length_range] at hl
    rw [List.getElem?_range hl] at q
    cases q
    cases hx
    refine ⟨hl, fun w H' hy => ?_⟩
    obtain ⟨rfl, rfl⟩ := hy
    exact ⟨F', Ex.refl F', gd, .int _⟩
theorem i_rng3 {a b c : PX} (o : noB C.G "range") (ha : PEs C X a) (hb : PEs C X b) (hc : PEs C X c) : PIs C X (.rng3 a b c) := fun tg e _ h => by
  cases e <;> first | (exact absurd h Bool.false_ne_true) | skip
  rename_i fn xs kws pos
  match xs, kws, h with
  | [], _, h => exact absurd h Bool.false_ne_true
  | [_], _, h => exact absurd h Bool.false_ne_true
  | [_, _], _, h => exact absurd h Bool.false_ne_true
  | _ :: _ :: _ :: _ :: _, _, h => exact absurd h Bool.false_ne_true
  | [_, _, _], _ :: _, h => exact absurd h Bool.false_ne_true
  | [x, y, z], [], h =>
    obtain ⟨h, h4⟩ := and_of (show (isBi X.env.scope "range" fn && isX X.N X.env.scope a x && isX X.N X.env.scope b y && isX X.N X.env.scope c z) = true from h)
    obtain ⟨h, h3⟩ := and_of h
    obtain ⟨h1, h2⟩ := and_of h
    obtain ⟨p, rfl, hg⟩ := bi_shape h1
    obtain ⟨g1, _⟩ := gl_of hg
    have S1 := star_of (es := [y, z]) (env := X.env) (isX_plain h2)
    have S2 := star_of (es := [z]) (env := X.env) (isX_plain h3)
    have S3 := star_of (es := []) (env := X.env) (isX_plain h4)
    refine PI.imp (pi_range3 g1 (by rw [K.g.mg]; exact o) (pa_cons (ha _ h2) (pa_cons (hb _ h3) (pa_cons (hc _ h4) pa_nil S3) S2) S1) S1 (by rw [S2, S3]; rfl)) fun σ H Q ⟨σd, M, R, F, Qd, s, q, w⟩ => ?_
    refine ⟨σd, M, R, F, _, s, q, fun d M1 v F1 H1 q1 e1 g1 r1 => ?_⟩
    refine ⟨σd, M1, R, F1, _, s.step e1 g1, q1, fun d2 M2 v2 F2 H2 q2 e2 g2 r2 => ?_⟩
    refine ⟨σd, M2, R, F2, _, (s.step e1 g1).step e2 g2, q2, fun d3 M3 v3 F3 H3 q3 e3 g3 r3 => ?_⟩
    cases d <;> first | exact (show False from q3).elim | skip
    cases d2 <;> first | exact (show False from q3).elim | skip
    cases d3 <;> first | exact (show False from q3).elim | skip
    rename_i i j k
    obtain ⟨n, rg, hn, q3⟩ := q3
    cases r1; cases r2; cases r3
    exact ⟨i, j, k, n, rfl, rg, w _ _ _ F3 H3 _ q3 ((e1.trans e2).trans e3) g3 (walks_rngc K i k n) (by rw [List.length_map, List.length_range]; exact hn)⟩
abbrev PFs (C : Cq) (X : Cx) (t : PIf) : Prop := ∀ es, isIf X.N X.env.scope t es = true → L2.PTs X es (rIf C t)
theorem f_nil : PFs C X .nil := fun es h => by
  cases es with
  | cons _ _ => exact absurd h Bool.false_ne_true
  | nil => exact PTs.imp pts_nil fun σ H Q ⟨σd, M, R, F, Qd, s, q, w⟩ => w true M F H q (Ex.refl F) s.good
theorem f_one {t : PT} (ht : PTt C X t) : PFs C X (.one t) := fun es h => by
  match es, h with
  | [], h => exact absurd h Bool.false_ne_true
  | _ :: _ :: _, h => exact absurd h Bool.false_ne_true
  | [e], h => exact pts_one (ht e h)
theorem blk_ctx (s : Shared) (H : Hp) (scope : Scope) (cl : List (Str × Addr)) (Ca : Addr) (fp : List Addr) : Ctx { C with E := X0 } (X.blk s H scope (compEnvC scope cl Ca X.env) fp) where
  g := ⟨K.g.prog, K.g.w, K.g.K, K.g.mg, K.g.base, K.g.calm, K.g.nd, K.g.un⟩
  room := K.room
  pass := fun _ _ _ _ _ _ _ h => by
    obtain ⟨_, _, _, _, _, _, _, _, _, _, _, _, _, _, _, z⟩ := h
    obtain ⟨_, _, _, _, z, _⟩ := z
    exact z.elim
theorem lcGo_mem {g : Store → Prop} {f : D → Store → (Option D → Store → Prop) → Prop} {xs acc : List D} {M : Store} {Q : DK} (h : lcGo g f xs acc M Q) : g M := by
  cases xs with
  | nil => exact h.1
  | cons _ _ => exact h.1
theorem lc_imp {elt : PX} {own : List (String × Nat)} {tg : Tg} {it : PIt} {cnd : PIf} (h2 : tgIn (own.map (·.2)) tg = true) (σ : L2.St) (H : Hp) (Q : VK) (hh : rE C (.lc elt own tg it cnd) σ H Q) :
    tLc (rI C it) (tgRd X.K tg) (rIf { C with E := X0 } cnd) (rE { C with E := X0 } elt) (own.map (·.2)) σ H Q := by
  obtain ⟨σd, M, R, F, Qd, s, q, w⟩ := hh
  refine ⟨σd, M, R, F, _, s, q, fun xs g M1 F1 H1 J q1 e1 g1 wk hl => ?_⟩
  intro Da hD
  obtain ⟨fm, ff, fr⟩ := g1.fresh hD
  have s1 := s.step e1 g1
  refine ⟨fun i m H' => m = xs.length - i ∧ i ≤ xs.length ∧ ∃ M' F' acc vs, Ex F1 F' ∧ Good C.G (upd R Da (.lst vs)) F' H' M' ∧ RpL C.G F' vs acc ∧ acc.length ≤ i ∧
    lcGo g (fun x M k => gTg tg x (wipeD σd (own.map (·.2))) fun σ' => dIf X0 cnd σ' M fun b M' => match b with | true => dE X0 elt σ' M' fun y M'' => k (some y) M'' | false => k none M') (xs.drop i) acc M' Qd,
    ⟨xs.length, by simp, Nat.zero_le _, M1, F1, [], [], Ex.refl F1, g1.aside hD, .nil, Nat.le_refl _, q1⟩, ?_⟩
  rintro j m H' ⟨rfl, hj, M', F', acc, vs, ex, gd, rl, ha, go⟩
  have gm := lcGo_mem K go
  obtain ⟨w1, w2⟩ := wk j _ F' H' M' ex gd gm
  by_cases hjl : j < xs.length
  · right
    obtain ⟨y, hy⟩ : ∃ y, xs[j]? = some y := ⟨xs[j], List.getElem?_eq_getElem hjl⟩
    have hd : xs.drop j = y :: xs.drop (j + 1) := by
      rw [List.drop_eq_getElem_cons hjl]
      have := (List.getElem?_eq_some_iff.mp hy).2
      rw [this]
    rw [hd] at go
    obtain ⟨w3, w4⟩ := w1 y hy
    refine ⟨w3, fun H2 => ∃ M' F' acc vs, Ex F1 F' ∧ Good C.G (upd R Da (.lst vs)) F' H2 M' ∧ RpL C.G F' vs acc ∧ acc.length ≤ j + 1 ∧
      lcGo g (fun x M k => gTg tg x (wipeD σd (own.map (·.2))) fun σ' => dIf X0 cnd σ' M fun b M' => match b with | true => dE X0 elt σ' M' fun y M'' => k (some y) M'' | false => k none M') (xs.drop (j + 1)) acc M' Qd,
      fun H2 n => ⟨xs.length - (j + 1), by omega, rfl, by omega, n⟩, fun v H2 hyl => ?_⟩
    obtain ⟨F2, ex2, gd2, r2⟩ := w4 v H2 hyl
    have env2 : EnvR C.G F2 (wipeD σd (own.map (·.2))) (L2.wipe σ (own.map (·.2))) := (s1.env.mono (ex.trans ex2)).wipe _
    refine tg_mono tg (tg_sem K.g.K gd2 tg r2 env2 go.2) ?_
    intro σ2 H3 ⟨e3, wp, σd2, env3, q3⟩
    subst e3
    refine ⟨(wp _ h2).trans (wipe_wipe _ _), ?_⟩
    have sr : SR { C with E := X0 } σd2 M' (upd R Da (.lst vs)) F2 σ2 H3 := ⟨.inl rfl, s1.f0.trans (ex.trans ex2), env3, gd2⟩
    refine ⟨σd2, M', _, F2, _, sr, q3, fun b M4 F4 H4 q4 e4 g4 => ?_⟩
    cases b with
    | false =>
      rw [if_neg Bool.false_ne_true]
      exact ⟨M4, F4, acc, vs, (ex.trans ex2).trans e4, g4, (rl.mono (ex2.trans e4)), by omega, q4⟩
    | true =>
      rw [if_pos rfl]
      refine ⟨σd2, M4, _, F4, _, sr.step e4 g4, q4, fun z M5 v5 F5 H5 q5 e5 g5 r5 => ?_⟩
      have rl5 := rl.mono ((ex2.trans e4).trans e5)
      refine ⟨vs, (g5.rs Da _ upd_same).2.2, by rw [rl5.length, line_eq]; omega, M5, F5, acc ++ [z], vs ++ [v5], ((ex.trans ex2).trans e4).trans e5, ?_, rl5.append (.cons r5 .nil), by rw [List.length_append]; show acc.length + 1 ≤ j + 1; omega, q5⟩
      have := g5.aside2 (u := .lst (vs ++ [v5]))
      exact this
  · left
    have hj2 : j = xs.length := by omega
    have hd : xs.drop j = [] := List.drop_eq_nil_of_le (by omega)
    rw [hd] at go
    refine ⟨w2 (by omega), ?_⟩
    rcases go.2 with hq | hq
    · obtain ⟨g3, e3⟩ := gd.back fr
      exact w _ M' _ _ H' hq ((e1.trans ex).trans e3) g3 (.lst upd_same (rl.mono e3))
    · obtain ⟨g3, hn⟩ := gd.backM fr (.lst rl)
      exact w _ _ _ _ H' (hq Da hn) (e1.trans ex) g3 (.ptr Da)
theorem x_lc {elt : PX} {own : List (String × Nat)} {tg : Tg} {it : PIt} {cnd : PIf} {e : Expr} (hi : PIs C X it) (ht : tgOk tg it)
    (he : ∀ X', Ctx { C with E := X0 } X' → PEs { C with E := X0 } X' elt) (hf : ∀ X', Ctx { C with E := X0 } X' → PFs { C with E := X0 } X' cnd)
    (h : isX X.N X.env.scope (.lc elt own tg it cnd) e = true) : PE X e (rE C (.lc elt own tg it cnd)) := by
  cases e <;> first | (exact absurd h Bool.false_ne_true) | skip
  rename_i x gens scope pos
  match gens, h with
  | [], h => exact absurd h Bool.false_ne_true
  | ⟨_, _, _, .negSucc _⟩ :: _ :: _, h => exact absurd h Bool.false_ne_true
  | ⟨_, _, _, .ofNat 0⟩ :: _ :: _, h => exact absurd h Bool.false_ne_true
  | ⟨_, _, _, .ofNat (_ + 1)⟩ :: _ :: _, h => exact absurd h Bool.false_ne_true
  | [⟨t, i, ifs, .negSucc _⟩], h => exact absurd h Bool.false_ne_true
  | [⟨t, i, ifs, .ofNat (_ + 1)⟩], h => exact absurd h Bool.false_ne_true
  | [⟨t, i, ifs, .ofNat 0⟩], h =>
    obtain ⟨h, h6⟩ := and_of (show (blkB X.N X.env.scope scope own && tgIn (own.map (·.2)) tg && isIt X.N X.env.scope it i && isTg X.N (relS scope X.env.scope) (fun x => scope.names.lookup x == some .cell) tg t && isIf X.N (relS scope X.env.scope) cnd ifs && isX X.N (relS scope X.env.scope) elt x) = true from h)
    obtain ⟨h, h5⟩ := and_of h
    obtain ⟨h, h4⟩ := and_of h
    obtain ⟨h, h3⟩ := and_of h
    obtain ⟨h1, h2⟩ := and_of h
    have ok : BlkOk X.N X.env.scope scope (own.map fun p => (Str.ofString p.1, p.2)) := blkOk_by h1
    have eo : (own.map fun p => (Str.ofString p.1, p.2)).map (·.2) = own.map (·.2) := by rw [List.map_map]; rfl
    refine PE.imp (pe_lc (g := tgRd X.K tg) K.g.calm K.g.nd (hi t i (tup_of ht h4) h3) ok
      (fun s H Ca cl fp => tg_pg (X := X.blk s H scope (compEnvC scope cl Ca X.env) fp) K.g.calm K.g.nd (fnb := fun x => scope.names.lookup x == some .cell) (fun _ z => z) tg h4)
      (fun s H Ca cl fp => hf _ (blk_ctx K s H scope cl Ca fp) ifs h5)
      (fun s H Ca cl fp => he _ (blk_ctx K s H scope cl Ca fp) x h6) (fold_of K h3 _)) fun σ H Q q => ?_
    rw [eo]
    exact lc_imp K h2 σ H Q q
theorem dcGo_mem {g : Store → Prop} {f : D → Store → (Option (D × D) → Store → Prop) → Prop} {xs : List D} {acc : List (D × D)} {M : Store} {Q : DK} (h : dcGo g f xs acc M Q) : g M := by
  cases xs with
  | nil => exact h.1
  | cons _ _ => exact h.1
theorem dc_imp {kx vx : PX} {own : List (String × Nat)} {tg : Tg} {it : PIt} {cnd : PIf} (h2 : tgIn (own.map (·.2)) tg = true) (σ : L2.St) (H : Hp) (Q : VK) (hh : rE C (.dc kx vx own tg it cnd) σ H Q) :
    tDc (rI C it) (tgRd X.K tg) (rIf { C with E := X0 } cnd) (rE { C with E := X0 } kx) (rE { C with E := X0 } vx) (own.map (·.2)) σ H Q := by
  obtain ⟨σd, M, R, F, Qd, s, q, w⟩ := hh
  refine ⟨σd, M, R, F, _, s, q, fun xs g M1 F1 H1 J q1 e1 g1 wk hl => ?_⟩
  intro Da hD
  obtain ⟨fm, ff, fr⟩ := g1.fresh hD
  have s1 := s.step e1 g1
  refine ⟨fun i m H' => m = xs.length - i ∧ i ≤ xs.length ∧ ∃ M' F' acc vs, Ex F1 F' ∧ Good C.G (upd R Da (.dK vs)) F' H' M' ∧ RpD C.G F' vs acc ∧
    dcGo g (fun x M k => gTg tg x (wipeD σd (own.map (·.2))) fun σ' => dIf X0 cnd σ' M fun b M' => match b with | true => dE X0 kx σ' M' fun y M2 => dE X0 vx σ' M2 fun z M3 => k (some (y, z)) M3 | false => k none M') (xs.drop i) acc M' Qd,
    ⟨xs.length, by simp, Nat.zero_le _, M1, F1, [], [], Ex.refl F1, g1.aside hD, .nil, q1⟩, ?_⟩
  rintro j m H' ⟨rfl, hj, M', F', acc, vs, ex, gd, rl, go⟩
  have gm := dcGo_mem K go
  obtain ⟨w1, w2⟩ := wk j _ F' H' M' ex gd gm
  by_cases hjl : j < xs.length
  · right
    obtain ⟨y, hy⟩ : ∃ y, xs[j]? = some y := ⟨xs[j], List.getElem?_eq_getElem hjl⟩
    have hd : xs.drop j = y :: xs.drop (j + 1) := by
      rw [List.drop_eq_getElem_cons hjl]
      have := (List.getElem?_eq_some_iff.mp hy).2
      rw [this]
    rw [hd] at go
    obtain ⟨w3, w4⟩ := w1 y hy
    refine ⟨w3, fun H2 => ∃ M' F' acc vs, Ex F1 F' ∧ Good C.G (upd R Da (.dK vs)) F' H2 M' ∧ RpD C.G F' vs acc ∧
      dcGo g (fun x M k => gTg tg x (wipeD σd (own.map (·.2))) fun σ' => dIf X0 cnd σ' M fun b M' => match b with | true => dE X0 kx σ' M' fun y M2 => dE X0 vx σ' M2 fun z M3 => k (some (y, z)) M3 | false => k none M') (xs.drop (j + 1)) acc M' Qd,
      fun H2 n => ⟨xs.length - (j + 1), by omega, rfl, by omega, n⟩, fun v H2 hyl => ?_⟩
    obtain ⟨F2, ex2, gd2, r2⟩ := w4 v H2 hyl
    have env2 : EnvR C.G F2 (wipeD σd (own.map (·.2))) (L2.wipe σ (own.map (·.2))) := (s1.env.mono (ex.trans ex2)).wipe _
    refine tg_mono tg (tg_sem K.g.K gd2 tg r2 env2 go.2) ?_
    intro σ2 H3 ⟨e3, wp, σd2, env3, q3⟩
    subst e3
    refine ⟨(wp _ h2).trans (wipe_wipe _ _), ?_⟩
    have sr : SR { C with E := X0 } σd2 M' (upd R Da (.dK vs)) F2 σ2 H3 := ⟨.inl rfl, s1.f0.trans (ex.trans ex2), env3, gd2⟩
    refine ⟨σd2, M', _, F2, _, sr, q3, fun b M4 F4 H4 q4 e4 g4 => ?_⟩
    cases b with
    | false =>
      rw [if_neg Bool.false_ne_true]
      exact ⟨M4, F4, acc, vs, (ex.trans ex2).trans e4, g4, (rl.mono (ex2.trans e4)), q4⟩
    | true =>
      rw [if_pos rfl]
      have sr4 := sr.step e4 g4
      refine ⟨σd2, M4, _, F4, _, sr4, q4, fun ky M5 v5 F5 H5 q5 e5 g5 r5 => ?_⟩
      have sr5 := sr4.step e5 g5
      refine ⟨σd2, M5, _, F5, _, sr5, q5, fun z M6 v6 F6 H6 q6 e6 g6 r6 => ?_⟩
      obtain ⟨hk, hlen, q6⟩ := q6
      obtain ⟨k, hk⟩ := Option.isSome_iff_exists.mp hk
      have rl6 := rl.mono (((ex2.trans e4).trans e5).trans e6)
      refine ⟨vs, k, keyOf_rp K.g r5 hk, (g6.rs Da _ upd_same).2.2, by rw [rl6.length, line_eq]; exact hlen, M6, F6, putD ky z acc, putK vs k v6, (((ex.trans ex2).trans e4).trans e5).trans e6, ?_, put_rd0 hk r6 rl6, q6⟩
      have := g6.aside2 (u := .dK (putK vs k v6))
      exact this
  · left
    have hj2 : j = xs.length := by omega
    have hd : xs.drop j = [] := List.drop_eq_nil_of_le (by omega)
    rw [hd] at go
    refine ⟨w2 (by omega), ?_⟩
    rcases go.2 with hq | hq
    · obtain ⟨g3, e3⟩ := gd.back fr
      exact w _ M' _ _ H' hq ((e1.trans ex).trans e3) g3 (.dic upd_same (rl.mono e3))
    · obtain ⟨g3, hn⟩ := gd.backM fr (.dic rl)
      exact w _ _ _ _ H' (hq Da hn) (e1.trans ex) g3 (.ptr Da)
theorem x_dc {kx vx : PX} {own : List (String × Nat)} {tg : Tg} {it : PIt} {cnd : PIf} {e : Expr} (hi : PIs C X it) (ht : tgOk tg it)
    (hk : ∀ X', Ctx { C with E := X0 } X' → PEs { C with E := X0 } X' kx) (he : ∀ X', Ctx { C with E := X0 } X' → PEs { C with E := X0 } X' vx) (hf : ∀ X', Ctx { C with E := X0 } X' → PFs { C with E := X0 } X' cnd)
    (h : isX X.N X.env.scope (.dc kx vx own tg it cnd) e = true) : PE X e (rE C (.dc kx vx own tg it cnd)) := by
  cases e <;> first | (exact absurd h Bool.false_ne_true) | skip
  rename_i x y gens scope pos
  match gens, h with
  | [], h => exact absurd h Bool.false_ne_true
  | ⟨_, _, _, .negSucc _⟩ :: _ :: _, h => exact absurd h Bool.false_ne_true
  | ⟨_, _, _, .ofNat 0⟩ :: _ :: _, h => exact absurd h Bool.false_ne_true
  | ⟨_, _, _, .ofNat (_ + 1)⟩ :: _ :: _, h => exact absurd h Bool.false_ne_true
  | [⟨t, i, ifs, .negSucc _⟩], h => exact absurd h Bool.false_ne_true
  | [⟨t, i, ifs, .ofNat (_ + 1)⟩], h => exact absurd h Bool.false_ne_true
  | [⟨t, i, ifs, .ofNat 0⟩], h =>
    obtain ⟨h, h7⟩ := and_of (show (blkB X.N X.env.scope scope own && tgIn (own.map (·.2)) tg && isIt X.N X.env.scope it i && isTg X.N (relS scope X.env.scope) (fun x => scope.names.lookup x == some .cell) tg t && isIf X.N (relS scope X.env.scope) cnd ifs && isX X.N (relS scope X.env.scope) kx x && isX X.N (relS scope X.env.scope) vx y) = true from h)
    obtain ⟨h, h6⟩ := and_of h
    obtain ⟨h, h5⟩ := and_of h
    obtain ⟨h, h4⟩ := and_of h
    obtain ⟨h, h3⟩ := and_of h
    obtain ⟨h1, h2⟩ := and_of h
    have ok : BlkOk X.N X.env.scope scope (own.map fun p => (Str.ofString p.1, p.2)) := blkOk_by h1
    have eo : (own.map fun p => (Str.ofString p.1, p.2)).map (·.2) = own.map (·.2) := by rw [List.map_map]; rfl
    refine PE.imp (pe_dc (g := tgRd X.K tg) K.g.calm K.g.nd (hi t i (tup_of ht h4) h3) ok
      (fun s H Ca cl fp => tg_pg (X := X.blk s H scope (compEnvC scope cl Ca X.env) fp) K.g.calm K.g.nd (fnb := fun x => scope.names.lookup x == some .cell) (fun _ z => z) tg h4)
      (fun s H Ca cl fp => hf _ (blk_ctx K s H scope cl Ca fp) ifs h5)
      (fun s H Ca cl fp => hk _ (blk_ctx K s H scope cl Ca fp) x h6)
      (fun s H Ca cl fp => he _ (blk_ctx K s H scope cl Ca fp) y h7) (fold_of K h3 _)) fun σ H Q q => ?_
    rw [eo]
    exact dc_imp K h2 σ H Q q
end
end VS
namespace VS
open PySem PySem.Spec PyProof.Rows L2
section
variable {C : Cq} {X : Cx} (K : Ctx C X)
include K
theorem ta_one {p : PT} {pos : Pos} (hp : PTt C X p) : ∀ xs, isTs X.N X.env.scope (.cons p .nil) xs = true → PW X (.BoolOp .And xs pos) (rTA C (.cons p .nil)) := fun xs h => by
  match xs, h with
  | [], h => exact absurd h Bool.false_ne_true
  | [x], h => exact pw_and1 (hp _ (and_of (show (isT X.N X.env.scope p x && true) = true from h)).1)
  | x :: y :: r, h => exact absurd (and_of (show (isT X.N X.env.scope p x && false) = true from h)).2 Bool.false_ne_true
theorem PW.imp {X : Cx} {e : Expr} {t t' : TT} (h : PW X e t) (i : ∀ σ H Q, t' σ H Q → t σ H Q) : PW X e t' := ⟨fun wh pins s σ H Q I q => h.run wh pins s σ H Q I (i σ H Q q)⟩
theorem ta_more {p p2 : PT} {ps : PTs} {pos : Pos} (hp : PTt C X p) (hs : ∀ xs, isTs X.N X.env.scope (.cons p2 ps) xs = true → PW X (.BoolOp .And xs pos) (rTA C (.cons p2 ps))) :
    ∀ xs, isTs X.N X.env.scope (.cons p (.cons p2 ps)) xs = true → PW X (.BoolOp .And xs pos) (rTA C (.cons p (.cons p2 ps))) := fun xs h => by
  match xs, h with
  | [], h => exact absurd h Bool.false_ne_true
  | [x], h => exact absurd (and_of (show (isT X.N X.env.scope p x && false) = true from h)).2 Bool.false_ne_true
  | x :: y :: r, h =>
    obtain ⟨h1, h2⟩ := and_of (show (isT X.N X.env.scope p x && isTs X.N X.env.scope (.cons p2 ps) (y :: r)) = true from h)
    refine PW.imp K (pw_and (hp _ h1) (hs _ h2)) fun σ H Q ⟨σd, M, R, F, Qd, s, q, w⟩ => ?_
    refine ⟨σd, M, R, F, _, s, q, fun c M1 F1 H1 q1 e1 g1 => ?_⟩
    cases c with
    | true =>
      rw [if_pos rfl]
      exact ⟨σd, M1, R, F1, _, s.step e1 g1, q1, fun d M' F' H' q' e' g' => w d M' F' H' q' (e1.trans e') g'⟩
    | false =>
      rw [if_neg Bool.false_ne_true]
      exact w _ _ F1 H1 q1 e1 g1
theorem to_one {p : PT} {pos : Pos} (hp : PTt C X p) : ∀ xs, isTs X.N X.env.scope (.cons p .nil) xs = true → PW X (.BoolOp .Or xs pos) (rTO C (.cons p .nil)) := fun xs h => by
  match xs, h with
  | [], h => exact absurd h Bool.false_ne_true
  | [x], h => exact pw_or1 (hp _ (and_of (show (isT X.N X.env.scope p x && true) = true from h)).1)
  | x :: y :: r, h => exact absurd (and_of (show (isT X.N X.env.scope p x && false) = true from h)).2 Bool.false_ne_true
theorem to_more {p p2 : PT} {ps : PTs} {pos : Pos} (hp : PTt C X p) (hs : ∀ xs, isTs X.N X.env.scope (.cons p2 ps) xs = true → PW X (.BoolOp .Or xs pos) (rTO C (.cons p2 ps))) :
    ∀ xs, isTs X.N X.env.scope (.cons p (.cons p2 ps)) xs = true → PW X (.BoolOp .Or xs pos) (rTO C (.cons p (.cons p2 ps))) := fun xs h => by
  match xs, h with
  | [], h => exact absurd h Bool.false_ne_true
  | [x], h => exact absurd (and_of (show (isT X.N X.env.scope p x && false) = true from h)).2 Bool.false_ne_true
  | x :: y :: r, h =>
    obtain ⟨h1, h2⟩ := and_of (show (isT X.N X.env.scope p x && isTs X.N X.env.scope (.cons p2 ps) (y :: r)) = true from h)
    refine PW.imp K (pw_or (hp _ h1) (hs _ h2)) fun σ H Q ⟨σd, M, R, F, Qd, s, q, w⟩ => ?_
    refine ⟨σd, M, R, F, _, s, q, fun c M1 F1 H1 q1 e1 g1 => ?_⟩
    cases c with
    | true =>
      rw [if_pos rfl]
      exact w _ _ F1 H1 q1 e1 g1
    | false =>
      rw [if_neg Bool.false_ne_true]
      exact ⟨σd, M1, R, F1, _, s.step e1 g1, q1, fun d M' F' H' q' e' g' => w d M' F' H' q' (e1.trans e') g'⟩
theorem and_shape {es : PXs} {e : Expr} (h : isX X.N X.env.scope (.and es) e = true) : ∃ xs pos, e = .BoolOp .And xs pos ∧ isXs X.N X.env.scope es xs = true := by
  cases e <;> first | (exact absurd h Bool.false_ne_true) | skip
  rename_i op xs pos
  cases op with
  | Or => exact absurd h Bool.false_ne_true
  | And =>
    match xs, h with
    | [], h => exact absurd h Bool.false_ne_true
    | x :: xs, h => exact ⟨_, _, rfl, h⟩
theorem or_shape {es : PXs} {e : Expr} (h : isX X.N X.env.scope (.or es) e = true) : ∃ xs pos, e = .BoolOp .Or xs pos ∧ isXs X.N X.env.scope es xs = true := by
  cases e <;> first | (exact absurd h Bool.false_ne_true) | skip
  rename_i op xs pos
  cases op with
  | And => exact absurd h Bool.false_ne_true
  | Or =>
    match xs, h with
    | [], h => exact absurd h Bool.false_ne_true
    | x :: xs, h => exact ⟨_, _, rfl, h⟩
theorem tand_shape {es : PTs} {e : Expr} (h : isT X.N X.env.scope (.and es) e = true) : ∃ xs pos, e = .BoolOp .And xs pos ∧ isTs X.N X.env.scope es xs = true := by
  cases e <;> first | (exact absurd h Bool.false_ne_true) | skip
  rename_i op xs pos
  cases op with
  | Or => exact absurd h Bool.false_ne_true
  | And =>
    match xs, h with
    | [], h => exact absurd h Bool.false_ne_true
    | x :: xs, h => exact ⟨_, _, rfl, h⟩
theorem tor_shape {es : PTs} {e : Expr} (h : isT X.N X.env.scope (.or es) e = true) : ∃ xs pos, e = .BoolOp .Or xs pos ∧ isTs X.N X.env.scope es xs = true := by
  cases e <;> first | (exact absurd h Bool.false_ne_true) | skip
  rename_i op xs pos
  cases op with
  | And => exact absurd h Bool.false_ne_true
  | Or =>
    match xs, h with
    | [], h => exact absurd h Bool.false_ne_true
    | x :: xs, h => exact ⟨_, _, rfl, h⟩
end
mutual
theorem sX : ∀ (p : PX) {C : Cq} {X : Cx}, Ctx C X → okX C.G C.k p → PEs C X p
  | .v _, _, _, K, _ => fun _ h => x_v K h
  | .c _, _, _, K, _ => fun _ h => x_c K h
  | .g _ _, _, _, K, o => fun _ h => x_g K o h
  | .bin _ a b, _, _, K, o => fun _ h => x_bin K (sX a K o.1) (sX b K o.2) h
  | .neg a, _, _, K, o => fun _ h => x_neg K (sX a K o) h
  | .cmp _ a b, _, _, K, o => fun _ h => x_cmp K (sX a K o.1) (sX b K o.2) h
  | .cmp2 _ _ a b c, _, _, K, o => fun _ h => x_cmp2 K (sX a K o.1) (sX b K o.2.1) (sX c K o.2.2) h
  | .not a, _, _, K, o => fun _ h => x_not K (sX a K o) h
  | .and es, _, _, K, o => fun _ h => by
    obtain ⟨xs, pos, rfl, h'⟩ := and_shape K h
    exact sAnd es K o xs pos h'
  | .or es, _, _, K, o => fun _ h => by
    obtain ⟨xs, pos, rfl, h'⟩ := or_shape K h
    exact sOr es K o xs pos h'
  | .ife t a b, _, _, K, o => fun _ h => x_ife K (sT t K o.1) (sX a K o.2.1) (sX b K o.2.2) h
  | .tup es, _, _, K, o => fun _ h => x_tup K (sXs es K o) h
  | .lst es, _, _, K, o => fun _ h => x_lst K (sXs es K o) h
  | .mlst es, _, _, K, o => fun _ h => x_mlst K (sXs es K o) h
  | .mdic, _, _, K, _ => fun _ h => x_mdic K h
  | .ix a b, _, _, K, o => fun _ h => x_ix K (sX a K o.1) (sX b K o.2) h
  | .sl a _ _ lo hi, _, _, K, o => fun _ h => x_sl K (sX a K o.1) (sX lo K o.2.1) (sX hi K o.2.2) h
  | .call _ _ es, _, _, K, o => fun _ h => x_call K o.1 (sXs es K o.2) h
  | .bi _ es, _, _, K, o => fun _ h => x_bi K o.2.1 o.1 (sXs es K o.2.2) h
  | .isi a _, _, _, K, o => fun _ h => x_isi K o.1 o.2.1 o.2.2.1 (sX a K o.2.2.2) h
  | .isi2 a _ _, _, _, K, o => fun _ h => x_isi2 K o.1 o.2.1 o.2.2.1 o.2.2.2.1 o.2.2.2.2.1 (sX a K o.2.2.2.2.2) h
  | .mth _ a es, _, _, K, o => fun _ h => x_mth K (sX a K o.1) (sXs es K o.2) h
  | .meth _ _ _ a es, _, _, K, o => fun _ h => x_meth K o.1 (sX a K o.2.1) (sXs es K o.2.2) h
  | .attr _ a _, _, _, K, o => fun _ h => x_attr K o.1 (sX a K o.2) h
  | .lc elt _ _ it cnd, _, _, K, o => fun _ h => x_lc K (sIt it K o.2.1) o.2.2.2 (fun _ K' => sX elt K' o.1) (fun _ K' => sIf cnd K' o.2.2.1) h
  | .dc kx vx _ _ it cnd, _, _, K, o => fun _ h => x_dc K (sIt it K o.2.2.1) o.2.2.2.2 (fun _ K' => sX kx K' o.1) (fun _ K' => sX vx K' o.2.1) (fun _ K' => sIf cnd K' o.2.2.2.1) h
  | .pr m w es, _, _, K, o => fun e h => by
    obtain ⟨h1, h2⟩ := and_of (show (prB e && (match m _ _ e with | some xs => isXs _ _ es xs | none => false)) = true from h)
    split at h2
    · rename_i xs hx
      exact o.1.ok K rfl rfl rfl h1 hx h2 (sAll es K o.2)
    · cases h2
  | .pg m t w es, _, _, K, o => fun e h => by
    obtain ⟨h1, h2⟩ := and_of (show (prB e && (match m _ _ e with | some xs => isXs _ _ es xs | none => false)) = true from h)
    split at h2
    · rename_i xs hx
      exact o.1.ok K rfl rfl rfl h1 hx h2 (sAll es K o.2)
    · cases h2
theorem sAll : ∀ (p : PXs) {C : Cq} {X : Cx}, Ctx C X → okXs C.G C.k p → AllPE C X p
  | .nil, _, _, K, _ => trivial
  | .cons p ps, _, _, K, o => ⟨sX p K o.1, sAll ps K o.2⟩
theorem sXs : ∀ (p : PXs) {C : Cq} {X : Cx}, Ctx C X → okXs C.G C.k p → PAs C X p
  | .nil, _, _, K, _ => a_nil K
  | .cons p ps, _, _, K, o => a_cons K (sX p K o.1) (sXs ps K o.2)
theorem sAnd : ∀ (es : PXs) {C : Cq} {X : Cx}, Ctx C X → okXs C.G C.k es → ∀ xs pos, isXs X.N X.env.scope es xs = true → PE X (.BoolOp .And xs pos) (rAnd C es)
  | .nil, _, _, _, _ => fun _ _ _ => ⟨fun _ _ _ _ _ _ ⟨_, _, _, _, _, _, q, _⟩ => q.elim⟩
  | .cons p .nil, _, _, K, o => fun xs _ h => and_one K (sX p K o.1) xs h
  | .cons p (.cons p2 ps), _, _, K, o => fun xs pos h => and_more K (sX p K o.1) (fun xs h => sAnd (.cons p2 ps) K o.2 xs pos h) xs h
theorem sOr : ∀ (es : PXs) {C : Cq} {X : Cx}, Ctx C X → okXs C.G C.k es → ∀ xs pos, isXs X.N X.env.scope es xs = true → PE X (.BoolOp .Or xs pos) (rOr C es)
  | .nil, _, _, _, _ => fun _ _ _ => ⟨fun _ _ _ _ _ _ ⟨_, _, _, _, _, _, q, _⟩ => q.elim⟩
  | .cons p .nil, _, _, K, o => fun xs _ h => or_one K (sX p K o.1) xs h
  | .cons p (.cons p2 ps), _, _, K, o => fun xs pos h => or_more K (sX p K o.1) (fun xs h => sOr (.cons p2 ps) K o.2 xs pos h) xs h
theorem sT : ∀ (t : PT) {C : Cq} {X : Cx}, Ctx C X → okT C.G C.k t → PTt C X t
  | .val (.cmp _ a b), _, _, K, o => fun _ h => t_cmp K (sX a K o.1.1) (sX b K o.1.2) h
  | .val (.v i), _, _, K, o => fun _ h => t_val K (sX (.v i) K o.1) rfl h
  | .val (.c d), _, _, K, o => fun _ h => t_val K (sX (.c d) K o.1) rfl h
  | .val (.g x d), _, _, K, o => fun _ h => t_val K (sX (.g x d) K o.1) rfl h
  | .val (.bin p a b), _, _, K, o => fun _ h => t_val K (sX (.bin p a b) K o.1) rfl h
  | .val (.neg a), _, _, K, o => fun _ h => t_val K (sX (.neg a) K o.1) rfl h
  | .val (.cmp2 _ _ a b c), _, _, K, o => fun _ h => t_cmp2 K (sX a K o.1.1) (sX b K o.1.2.1) (sX c K o.1.2.2) h
  | .val (.not _), _, _, _, o => absurd o.2 Bool.false_ne_true
  | .val (.and _), _, _, _, o => absurd o.2 Bool.false_ne_true
  | .val (.or _), _, _, _, o => absurd o.2 Bool.false_ne_true
  | .val (.ife _ _ _), _, _, _, o => absurd o.2 Bool.false_ne_true
  | .val (.tup a), _, _, K, o => fun _ h => t_val K (sX (.tup a) K o.1) rfl h
  | .val (.lst a), _, _, K, o => fun _ h => t_val K (sX (.lst a) K o.1) rfl h
  | .val (.mlst a), _, _, K, o => fun _ h => t_val K (sX (.mlst a) K o.1) rfl h
  | .val .mdic, _, _, K, o => fun _ h => t_val K (sX .mdic K o.1) rfl h
  | .val (.ix a b), _, _, K, o => fun _ h => t_val K (sX (.ix a b) K o.1) rfl h
  | .val (.sl a b c d e), _, _, K, o => fun _ h => t_val K (sX (.sl a b c d e) K o.1) rfl h
  | .val (.call a b c), _, _, K, o => fun _ h => t_val K (sX (.call a b c) K o.1) rfl h
  | .val (.bi a b), _, _, K, o => fun _ h => t_val K (sX (.bi a b) K o.1) rfl h
  | .val (.isi a b), _, _, K, o => fun _ h => t_val K (sX (.isi a b) K o.1) rfl h
  | .val (.isi2 a b c), _, _, K, o => fun _ h => t_val K (sX (.isi2 a b c) K o.1) rfl h
  | .val (.mth a b c), _, _, K, o => fun _ h => t_val K (sX (.mth a b c) K o.1) rfl h
  | .val (.meth a b c d e), _, _, K, o => fun _ h => t_val K (sX (.meth a b c d e) K o.1) rfl h
  | .val (.attr a b c), _, _, K, o => fun _ h => t_val K (sX (.attr a b c) K o.1) rfl h
  | .val (.lc a b c d e), _, _, K, o => fun _ h => t_val K (sX (.lc a b c d e) K o.1) rfl h
  | .val (.dc a b c d e f), _, _, K, o => fun _ h => t_val K (sX (.dc a b c d e f) K o.1) rfl h
  | .val (.pr a b c), _, _, K, o => fun _ h => t_val K (sX (.pr a b c) K o.1) rfl h
  | .val (.pg a b c d), _, _, K, o => fun _ h => t_val K (sX (.pg a b c d) K o.1) rfl h
  | .and ts, _, _, K, o => fun _ h => by
    obtain ⟨xs, pos, rfl, h'⟩ := tand_shape K h
    exact (sTA ts K o xs pos h').pt
  | .or ts, _, _, K, o => fun _ h => by
    obtain ⟨xs, pos, rfl, h'⟩ := tor_shape K h
    exact (sTO ts K o xs pos h').pt
  | .not a, _, _, K, o => fun _ h => t_not K (sT a K o) h
theorem sTA : ∀ (es : PTs) {C : Cq} {X : Cx}, Ctx C X → okTs C.G C.k es → ∀ xs pos, isTs X.N X.env.scope es xs = true → PW X (.BoolOp .And xs pos) (rTA C es)
  | .nil, _, _, _, _ => fun _ _ _ => ⟨fun _ _ _ _ _ _ _ ⟨_, _, _, _, _, _, q, _⟩ => q.elim⟩
  | .cons p .nil, _, _, K, o => fun xs _ h => ta_one K (sT p K o.1) xs h
  | .cons p (.cons p2 ps), _, _, K, o => fun xs pos h => ta_more K (sT p K o.1) (fun xs h => sTA (.cons p2 ps) K o.2 xs pos h) xs h
theorem sTO : ∀ (es : PTs) {C : Cq} {X : Cx}, Ctx C X → okTs C.G C.k es → ∀ xs pos, isTs X.N X.env.scope es xs = true → PW X (.BoolOp .Or xs pos) (rTO C es)
  | .nil, _, _, _, _ => fun _ _ _ => ⟨fun _ _ _ _ _ _ _ ⟨_, _, _, _, _, _, q, _⟩ => q.elim⟩
  | .cons p .nil, _, _, K, o => fun xs _ h => to_one K (sT p K o.1) xs h
  | .cons p (.cons p2 ps), _, _, K, o => fun xs pos h => to_more K (sT p K o.1) (fun xs h => sTO (.cons p2 ps) K o.2 xs pos h) xs h
theorem sIt : ∀ (t : PIt) {C : Cq} {X : Cx}, Ctx C X → okIt C.G C.k t → PIs C X t
  | .ex a, _, _, K, o => i_ex K (sX a K o)
  | .rng1 a, _, _, K, o => i_rng1 K o.1 (sX a K o.2)
  | .rng2 a b, _, _, K, o => i_rng2 K o.1 (sX a K o.2.1) (sX b K o.2.2)
  | .rng3 a b c, _, _, K, o => i_rng3 K o.1 (sX a K o.2.1) (sX b K o.2.2.1) (sX c K o.2.2.2)
  | .enum _, _, _, _, o => o.elim
  | .zip _ _, _, _, _, o => o.elim
  | .rev _, _, _, _, o => o.elim
  | .pr m w es, _, _, K, o => fun tg e _ h => by
    obtain ⟨h1, h2⟩ := and_of (show (prB e && (match m _ _ e with | some xs => isXs _ _ es xs | none => false)) = true from h)
    split at h2
    · rename_i xs hx
      exact o.1.ok K rfl rfl rfl h1 hx h2 (sAll es K o.2) tg
    · cases h2
  | .prt m w es, _, _, K, o => fun tg e ht h => by
    obtain ⟨h1, h2⟩ := and_of (show (prB e && (match m _ _ e with | some xs => isXs _ _ es xs | none => false)) = true from h)
    obtain ⟨elts, kk, tp, rfl⟩ := ht rfl
    split at h2
    · rename_i xs hx
      exact o.1.ok K rfl rfl rfl h1 hx h2 (sAll es K o.2) elts kk tp
    · cases h2
theorem sIf : ∀ (t : PIf) {C : Cq} {X : Cx}, Ctx C X → okIf C.G C.k t → PFs C X t
  | .nil, _, _, K, _ => f_nil K
  | .one t, _, _, K, o => f_one K (sT t K o)
end
end VS
namespace VS
open PySem PySem.Spec PyProof.Rows L2
abbrev Ghost := Env → Store → Env → Store → Prop
structure EndsD where
  nx : Env → Store → Prop
  rt : DK
  bk : Env → Store → Prop := fun _ _ => False
  ct : Env → Store → Prop := fun _ _ => False
abbrev Ms := List Str → Scope → Stmt → Option (List Expr)
abbrev WS := List D → EndsD → Env → Store → XP → Prop
mutual
inductive St'
  | asg (i : Nat) (p : PX) | asgT (t : Tg) (p : PX) | sto (a b p : PX) | fld (cl : String) (a : PX) (f : String) (p : PX)
  | aug (o : BOp) (i : Nat) (p : PX) | augF (cl : String) (a : PX) (f : String) (p : PX)
  | ex (p : PX) | ret (p : PX) | retN | iff (t : PT) (a b : Sts) | whl (t : PT) (b : Sts) | for_ (t : Tg) (it : PIt) (b : Sts)
  | brk | cnt | pas | never | pr (m : Ms) (w : WS) (es : PXs)
inductive Sts | nil | cons (s : St') (ss : Sts) | gh (R : Ghost) (ss : Sts) | pin (R : Ghost) (ss : Sts)
end
def compB : Expr → Bool
  | .ListComp _ _ _ _ => true | .SetComp _ _ _ _ => true | .DictComp _ _ _ _ _ => true | _ => false
def swB (sc : Scope) (x : Str) (p : Pos) : Expr → Bool
  | .ListComp _ _ scope pos => (match sc.names.lookup x with | some .local => true | _ => false) && (p.line == pos.line) && !(scope.names.any fun (n, k) => n == x && (k == .local || k == .cell))
  | _ => false
def isLcB : Expr → Bool
  | .ListComp _ _ _ _ => true | _ => false
def lcB : PX → Bool
  | .lc _ _ _ _ _ => true | _ => false
def tupB : Expr → Bool
  | .Tuple _ _ _ => true | _ => false
def augB : BOp → Operator → Bool
  | .add, .Add => true | .sub, .Sub => true | _, _ => false
mutual
def isS (N : List Str) (sc : Scope) : St' → Stmt → Bool
  | .asg i p, s => match s with
    | .Assign [.Name x pos'] e _ => locB N sc (fun _ => true) i x && isX N sc p e && (!compB e || isLcB e) | _ => false
  | .asgT t p, s => match s with | .Assign [.Tuple es k pos'] e _ => isTg N sc (fun _ => true) t (.Tuple es k pos') && isX N sc p e && !compB e && !tupB e | _ => false
  | .sto a b p, s => match s with | .Assign [.Subscript x y _] e _ => isX N sc a x && isX N sc b y && isX N sc p e && !compB e | _ => false
  | .fld _ a f p, s => match s with | .Assign [.Attribute x nm _] e _ => isX N sc a x && decide (nm = Str.ofString f) && isX N sc p e | _ => false
  | .aug o i p, s => match s with | .AugAssign (.Name x _) op e _ => augB o op && locB N sc (fun _ => true) i x && isX N sc p e | _ => false
  | .augF _ a f p, s => match s with | .AugAssign (.Attribute x nm _) .Add e _ => isX N sc a x && decide (nm = Str.ofString f) && isX N sc p e | _ => false
  | .ex p, s => match s with | .Expr e _ => isX N sc p e && !compB e | _ => false
  | .ret p, s => match s with | .Return (some e) _ => isX N sc p e | _ => false
  | .retN, s => match s with | .Return none _ => true | _ => false
  | .iff t a b, s => match s with | .If e x y _ => isT N sc t e && isSs N sc a x && isSs N sc b y | _ => false
  | .whl t b, s => match s with | .While e x [] _ => isT N sc t e && isSs N sc b x | _ => false
  | .for_ t it b, s => match s with | .For tg e x [] _ => isTg N sc (fun _ => true) t tg && isIt N sc it e && isSs N sc b x | _ => false
  | .brk, s => match s with | .Break _ => true | _ => false
  | .cnt, s => match s with | .Continue _ => true | _ => false
  | .pas, s => match s with | .Pass _ => true | _ => false
  | .never, _ => true
  | .pr m _ es, s => match m N sc s with | some xs => isXs N sc es xs | none => false
def isSs (N : List Str) (sc : Scope) : Sts → List Stmt → Bool
  | .nil, ss => match ss with | [] => true | _ => false
  | .cons s ss, xs => match xs with | x :: xs => isS N sc s x && isSs N sc ss xs | [] => false
  | .gh _ ss, xs => isSs N sc ss xs
  | .pin _ ss, xs => isSs N sc ss xs
end
def wIp (o : BOp) (x y : D) (M : Store) (Q : DK) : Prop :=
  match o, x, y with
  | .add, .int i, .int j => Q (.int (i + j)) M
  | .add, .str s, .str t => s.length + t.length ≤ line ∧ Q (.str (s ++ t)) M
  | .sub, .int i, .int j => Q (.int (i - j)) M
  | _, _, _ => False
def wFld (cl : String) (x : D) (f : String) (d : D) (M : Store) (Q : Store → Prop) : Prop :=
  match x with
  | .ptr q => (match M q with | some (.inst c fs) => c = cl ∧ fs.length < 1000 ∧ Q (M.put q (.inst c (putFd f d fs))) | _ => False)
  | _ => False
def forGo (g : Store → Prop) (f : D → Env → Store → (Env → Store → Prop) → Prop) : List D → Env → Store → (Env → Store → Prop) → Prop
  | [], σ, M, nx => g M ∧ nx σ M
  | x :: xs, σ, M, nx => g M ∧ f x σ M fun σ' M' => forGo g f xs σ' M' nx
mutual
def dS (E : XP) : St' → EndsD → Env → Store → Prop
  | .asg i p, K, σ, M => dE E p σ M fun d M1 => K.nx (σ.set i (some d)) M1
  | .asgT t p, K, σ, M => dE E p σ M fun d M1 => gTg t d σ fun σ' => K.nx σ' M1
  | .sto a b p, K, σ, M => dE E p σ M fun d M1 => dE E a σ M1 fun x M2 => dE E b σ M2 fun k M3 => wSto x k d M3 fun M4 => K.nx σ M4
  | .fld cl a f p, K, σ, M => dE E p σ M fun d M1 => dE E a σ M1 fun x M2 => wFld cl x f d M2 fun M3 => K.nx σ M3
  | .aug o i p, K, σ, M => getS σ i fun x => dE E p σ M fun y M1 => wIp o x y M1 fun z M2 => K.nx (σ.set i (some z)) M2
  | .augF cl a f p, K, σ, M => dE E a σ M fun x M1 => (match asI M1 x with
    | some (c, fs) => c = cl ∧ (match lookF f fs with
      | some v => dE E p σ M1 fun y M2 => wIp .add v y M2 fun z M3 => wFld cl x f z M3 fun M4 => K.nx σ M4
      | none => False)
    | none => False)
  | .ex p, K, σ, M => dE E p σ M fun _ M1 => K.nx σ M1
  | .ret p, K, σ, M => dE E p σ M K.rt
  | .retN, K, _, M => K.rt .non M
  | .iff t a b, K, σ, M => dT E t σ M fun c M1 => match c with | true => dSs E a K σ M1 | false => dSs E b K σ M1
  | .whl t b, K, σ, M => ∃ W : Nat → Env → Store → Prop, (∃ m, W m σ M) ∧ ∀ m σ M, W m σ M → dT E t σ M fun c M1 => match c with
    | true => dSs E b { nx := fun σ' M' => ∃ m', m' < m ∧ W m' σ' M', rt := K.rt, bk := K.nx, ct := fun σ' M' => ∃ m', m' < m ∧ W m' σ' M' } σ M1
    | false => K.nx σ M1
  | .for_ t it b, K, σ, M => dIt E it σ M fun xs g M1 => forGo g (fun x σ M nx => gTg t x σ fun σ' => dSs E b { nx := nx, rt := K.rt, bk := K.nx, ct := nx } σ' M) xs σ M1 K.nx
  | .brk, K, σ, M => K.bk σ M
  | .cnt, K, σ, M => K.ct σ M
  | .pas, K, σ, M => K.nx σ M
  | .never, _, _, _ => False
  | .pr _ w es, K, σ, M => dEs E es σ M fun ds M1 => w ds K σ M1 E
def dSs (E : XP) : Sts → EndsD → Env → Store → Prop
  | .nil, K, σ, M => K.nx σ M
  | .cons s ss, K, σ, M => dS E s { nx := fun σ' M' => dSs E ss K σ' M', rt := K.rt, bk := K.bk, ct := K.ct } σ M
  | .gh R ss, K, σ, M => ∃ σ' M', R σ M σ' M' ∧ dSs E ss K σ' M'
  | .pin R ss, K, σ, M => ∃ σ' M', R σ M σ' M' ∧ dSs E ss K σ' M'
end
def GhOk (G : Glob) (R : Ghost) : Prop := ∀ σd M σd' M' Rs F σ H, R σd M σd' M' → EnvR G F σd σ → Good G Rs F H M → ∃ F', Ex F F' ∧ EnvR G F' σd' σ ∧ Good G Rs F' H M'
def PinOk (G : Glob) (R : Ghost) : Prop := ∀ (X : Cx) (pins : List (Addr × Obj)) (s : Shared) σd M σd' M' Rs F σ H, X.prog = G.prog → X.w = G.w → R σd M σd' M' → Inv X pins σ H s → EnvR G F σd σ → Good G Rs F H M → ∃ F' H', Inv X pins σ H' s ∧ Ex F F' ∧ EnvR G F' σd' σ ∧ Good G Rs F' H' M'
structure CtxS (C : Cq) (X : Cx) : Prop extends Ctx C X where
  kind : X.env.scope.kind = .function
  own : PassesOwn (model X.prog X.w) X.A X.env X.xe
  fn : ∀ x, X.fn x = true
  tk : VX.Takes X (fun cls d _ H => excK C cls d H)
  stk : X.stack = X.env :: X.outer
  frm : X.env.frame = some X.env.locals
structure WK (C : Cq) (R F : Hp) (K : EndsD) (D : Ends) : Prop where
  nx : ∀ σd M F' σ H, K.nx σd M → Ex F F' → SR C σd M R F' σ H → D.nx σ H
  rt : ∀ d M v F' H, K.rt d M → Ex F F' → Good C.G R F' H M → Rp C.G F' v d → D.rt v H
  bk : ∀ σd M F' σ H, K.bk σd M → Ex F F' → SR C σd M R F' σ H → D.bk σ H
  ct : ∀ σd M F' σ H, K.ct σd M → Ex F F' → SR C σd M R F' σ H → D.ct σ H
theorem WK.mono {C : Cq} {R F F' : Hp} {K : EndsD} {D : Ends} (w : WK C R F K D) (e : Ex F F') : WK C R F' K D :=
  ⟨fun a b c d f g h i => w.nx a b c d f g (e.trans h) i, fun a b c d f g h i j => w.rt a b c d f g (e.trans h) i j, fun a b c d f g h i => w.bk a b c d f g (e.trans h) i, fun a b c d f g h i => w.ct a b c d f g (e.trans h) i⟩
def rS (C : Cq) (s : St') : TS := fun D σ H => ∃ σd M R F K, SR C σd M R F σ H ∧ dS C.E s K σd M ∧ WK C R F K D
def rSs (C : Cq) (s : Sts) : TS := fun D σ H => ∃ σd M R F K, SR C σd M R F σ H ∧ dSs C.E s K σd M ∧ WK C R F K D
structure PsF (G : Glob) (k : Nat) (m : Ms) (w : WS) (n : Nat) : Prop where
  ok : ∀ {C : Cq} {X : Cx}, CtxS C X → C.G = G → C.k = k → ∀ {es : PXs} {e : Stmt} {xs : List Expr}, es.len = n → m X.N X.env.scope e = some xs → isXs X.N X.env.scope es xs = true → AllPE C X es → PS X e (rS C (.pr m w es))
mutual
def okS (G : Glob) (k : Nat) : St' → Prop
  | .asg _ p => okX G k p | .asgT _ p => okX G k p | .sto a b p => okX G k a ∧ okX G k b ∧ okX G k p
  | .fld cl a f p => AttrF G cl f ∧ okX G k a ∧ okX G k p | .aug _ _ p => okX G k p | .augF cl a f p => AttrF G cl f ∧ okX G k a ∧ okX G k p
  | .ex p => okX G k p | .ret p => okX G k p | .retN => True | .iff t a b => okT G k t ∧ okSs G k a ∧ okSs G k b
  | .whl t b => okT G k t ∧ okSs G k b | .for_ t it b => okIt G k it ∧ okSs G k b ∧ tgOk t it
  | .brk => True | .cnt => True | .pas => True | .never => True | .pr m w es => PsF G k m w es.len ∧ okXs G k es
def okSs (G : Glob) (k : Nat) : Sts → Prop
  | .nil => True | .cons s ss => okS G k s ∧ okSs G k ss | .gh R ss => GhOk G R ∧ okSs G k ss | .pin R ss => PinOk G R ∧ okSs G k ss
end
theorem PSs.imp {X : Cx} {e : List Stmt} {t t' : TS} (h : L2.PSs X e t) (i : ∀ D σ H, t' D σ H → t D σ H) : L2.PSs X e t' := ⟨fun pins s σ H D I q => h.run pins s σ H D I (i D σ H q)⟩
end VS
namespace VS
open PySem PySem.Spec PyProof.Rows L2
section
variable {C : Cq} {X : Cx} (K : CtxS C X)
abbrev PSt (C : Cq) (X : Cx) (s : St') : Prop := ∀ e, isS X.N X.env.scope s e = true → PS X e (rS C s)
abbrev PSst (C : Cq) (X : Cx) (s : Sts) : Prop := ∀ e, isSs X.N X.env.scope s e = true → L2.PSs X e (rSs C s)
include K
theorem loc_of {i : Nat} {x : Str} (h : locB X.N X.env.scope (fun _ => true) i x = true) : X.N[i]? = some x ∧ Loc X.env.scope x ∧ (X.fn x = true ∨ X.env.scope.names.lookup x = some .local) := by
  obtain ⟨h1, h2⟩ := and_of (show (decide (X.N[i]? = some x) && (match X.env.scope.names.lookup x with | some .local => true | some .cell => true | _ => false)) = true from h)
  have h1 := of_decide_eq_true h1
  split at h2
  · rename_i e1; exact ⟨h1, .inl e1, .inr e1⟩
  · rename_i e1; exact ⟨h1, .inr e1, .inl (K.fn x)⟩
  · cases h2
theorem not_t {b : Bool} (h : (!b) = true) : b = false := by cases b <;> first | rfl | cases h
theorem swaps_no {e : Expr} (h : compB e = false) (t : Option Expr) (l : Nat) (env : PySem.Env) : swapsWith e t l env = pure false := by
  cases e <;> first | rfl | (cases h; done)
theorem swaps_lc {elt : Expr} {gs : List Comprehension} {scope : Scope} {pos py : Pos} {y : Str} {l : Nat} (h : swB X.env.scope y py (.ListComp elt gs scope pos) = false) : swapsWith (.ListComp elt gs scope pos) (some (.Name y py)) l X.env = pure false := by
  have h' : ((match X.env.scope.names.lookup y with | some .local => true | _ => false) && (py.line == pos.line) && !(scope.names.any fun (n, k) => n == y && (k == .local || k == .cell))) = false := h
  unfold swapsWith
  show (pure _ : Sem Bool) = pure false
  congr 1
  have hk : (X.env.kindOf y == some .local) = (match X.env.scope.names.lookup y with | some .local => true | _ => false) := by
    show (X.env.scope.names.lookup y == some .local) = _
    split
    · rename_i e; rw [e]; rfl
    · rename_i e
      rw [beq_eq_false_iff_ne]
      exact e
  rw [Bool.and_assoc, Bool.and_assoc, hk]
  rw [Bool.and_assoc] at h'
  show (_ && (_ && ((py.line == pos.line) && _))) = false
  rw [h', Bool.and_false]
theorem lc_only {N : List Str} {sc : Scope} {p : PX} {a : Expr} {b : List Comprehension} {c : Scope} {d : Pos} (h : isX N sc p (.ListComp a b c d) = true) : ∃ elt own tg it cnd, p = .lc elt own tg it cnd := by
  cases p <;> first | (exact absurd h Bool.false_ne_true) | exact ⟨_, _, _, _, _, rfl⟩
theorem s_asg {i : Nat} {p : PX} (hp : PEs C X p) (hl : ∀ elt own tg it cnd, p = .lc elt own tg it cnd → PIs C X it ∧ tgOk tg it ∧ (∀ X', Ctx { C with E := X0 } X' → PEs { C with E := X0 } X' elt) ∧ (∀ X', Ctx { C with E := X0 } X' → PFs { C with E := X0 } X' cnd)) : PSt C X (.asg i p) := fun s h => by
  cases s <;> first | (exact absurd h Bool.false_ne_true) | skip
  rename_i ts e pos
  match ts, h with
  | [], h => exact absurd h Bool.false_ne_true
  | t :: _ :: _, h => cases t <;> exact absurd h Bool.false_ne_true
  | [t], h =>
    cases t <;> first | (exact absurd h Bool.false_ne_true) | skip
    rename_i x pos'
    obtain ⟨h, h3⟩ := and_of (show (locB X.N X.env.scope (fun _ => true) i x && isX X.N X.env.scope p e && (!compB e || isLcB e)) = true from h)
    obtain ⟨h1, h2⟩ := and_of h
    obtain ⟨n1, n2, n3⟩ := loc_of K h1
    have fin : ∀ D σ H, rS C (.asg i p) D σ H → tAsg (rE C p) (gName i) D σ H := fun D σ H ⟨σd, M, R, F, Kd, sr, q, w⟩ =>
      ⟨σd, M, R, F, _, sr, q, fun d M1 v F1 H1 q1 e1 g1 r1 => w.nx _ M1 F1 _ H1 q1 e1 ⟨sr.e, sr.f0.trans e1, (sr.env.mono e1).set i r1, g1⟩⟩
    cases hc : compB e with
    | false => exact PS.imp (ps_set K.g.nd n1 n2 (hp e h2) (swaps_no K hc _ _ _) n3) fin
    | true =>
      cases e <;> first | (cases hc; done) | (rw [hc] at h3; exact absurd h3 Bool.false_ne_true) | skip
      rename_i elt gens scope cpos _ _
      cases hw : swB X.env.scope x pos' (.ListComp elt gens scope cpos) with
      | false => exact PS.imp (ps_set K.g.nd n1 n2 (hp _ h2) (swaps_lc K hw) n3) fin
      | true =>
        obtain ⟨elt', own, tg, it, cnd, rfl⟩ := lc_only K h2
        obtain ⟨hi, htg, he, hf⟩ := hl _ _ _ _ _ rfl
        obtain ⟨hw, w3⟩ := and_of (show ((match X.env.scope.names.lookup x with | some .local => true | _ => false) && (pos'.line == cpos.line) && !(scope.names.any fun (n, k) => n == x && (k == .local || k == .cell))) = true from hw)
        obtain ⟨w1, w2⟩ := and_of hw
        have hx : X.env.scope.names.lookup x = some .local := by
          split at w1
          · assumption
          · cases w1
        have h := h2
        match gens, h with
        | [], h => exact absurd h Bool.false_ne_true
        | ⟨_, _, _, .negSucc _⟩ :: _ :: _, h => exact absurd h Bool.false_ne_true
        | ⟨_, _, _, .ofNat 0⟩ :: _ :: _, h => exact absurd h Bool.false_ne_true
        | ⟨_, _, _, .ofNat (_ + 1)⟩ :: _ :: _, h => exact absurd h Bool.false_ne_true
        | [⟨t, i, ifs, .negSucc _⟩], h => exact absurd h Bool.false_ne_true
        | [⟨t, i, ifs, .ofNat (_ + 1)⟩], h => exact absurd h Bool.false_ne_true
        | [⟨t, i, ifs, .ofNat 0⟩], h =>
          obtain ⟨h, h6⟩ := and_of (show (blkB X.N X.env.scope scope own && tgIn (own.map (·.2)) tg && isIt X.N X.env.scope it i && isTg X.N (relS scope X.env.scope) (fun x => scope.names.lookup x == some .cell) tg t && isIf X.N (relS scope X.env.scope) cnd ifs && isX X.N (relS scope X.env.scope) elt' elt) = true from h)
          obtain ⟨h, h5⟩ := and_of h
          obtain ⟨h, h4⟩ := and_of h
          obtain ⟨h, h3'⟩ := and_of h
          obtain ⟨h1', h2'⟩ := and_of h
          have ok : BlkOk X.N X.env.scope scope (own.map fun p => (Str.ofString p.1, p.2)) := blkOk_by h1'
          have eo : (own.map fun p => (Str.ofString p.1, p.2)).map (·.2) = own.map (·.2) := by rw [List.map_map]; rfl
          refine PS.imp (ps_setLc (g := tgRd X.K tg) K.g.calm K.g.nd n1 hx (sw_true K.kind hx w2 (not_t K w3)) (hi t i (tup_of htg h4) h3') ok
            (fun s H Ca cl fp => tg_pg (X := X.blk s H scope (compEnvC scope cl Ca X.env) fp) K.g.calm K.g.nd (fnb := fun x => scope.names.lookup x == some .cell) (fun _ z => z) tg h4)
            (fun s H Ca cl fp => hf _ (blk_ctx K.toCtx s H scope cl Ca fp) ifs h5)
            (fun s H Ca cl fp => he _ (blk_ctx K.toCtx s H scope cl Ca fp) elt h6) (fold_of K.toCtx h3' _)) fun D σ H q => ?_
          rw [eo]
          exact lc_imp K.toCtx h2' σ H _ (fin D σ H q)
theorem s_asgT {t : Tg} {p : PX} (hp : PEs C X p) : PSt C X (.asgT t p) := fun s h => by
  cases s <;> first | (exact absurd h Bool.false_ne_true) | skip
  rename_i ts e pos
  match ts, h with
  | [], h => exact absurd h Bool.false_ne_true
  | u :: _ :: _, h => cases u <;> exact absurd h Bool.false_ne_true
  | [u], h =>
    cases u <;> first | (exact absurd h Bool.false_ne_true) | skip
    rename_i es k pos'
    obtain ⟨h, h4⟩ := and_of (show (isTg X.N X.env.scope (fun _ => true) t (.Tuple es k pos') && isX X.N X.env.scope p e && !compB e && !tupB e) = true from h)
    obtain ⟨h, h3⟩ := and_of h
    obtain ⟨h1, h2⟩ := and_of h
    have sw : swappedStores [.Tuple es k pos'] e X.env = pure none := by
      cases e <;> first | rfl | (cases h4; done)
    refine PS.imp (ps_asg (hp e h2) (tg_pg K.g.calm K.g.nd (fun x _ => K.fn x) t h1) (show swapsWith e (some (.Tuple es k pos')) pos.line X.env = pure false from swaps_no K (not_t K h3) _ _ _) sw rfl) fun D σ H ⟨σd, M, R, F, Kd, sr, q, w⟩ => ?_
    refine ⟨σd, M, R, F, _, sr, q, fun d M1 v F1 H1 q1 e1 g1 r1 => ?_⟩
    refine tg_mono t (tg_sem K.g.K g1 t r1 (sr.env.mono e1) q1) ?_
    intro σ2 H2 ⟨e2, _, σd2, env2, q2⟩
    subst e2
    exact w.nx σd2 M1 F1 σ2 _ q2 e1 ⟨sr.e, sr.f0.trans e1, env2, g1⟩
theorem any_rd {G : Glob} {F : Hp} {kd : D} {k : Key} (hk : keyOf kd = some k) : ∀ {vs : List (Key × V)} {ds : List (D × D)}, RpD G F vs ds → (vs.any fun kv => decide (kv.1 = k)) = ds.any fun e => decide (keyOf e.1 = keyOf kd)
  | _, _, .nil => rfl
  | _, _, .cons h1 _ rs => by
    rw [List.any_cons, List.any_cons, any_rd hk rs, h1, hk]
    congr 1
    exact decide_eq_decide.mpr ⟨fun e => congrArg some e, fun e => Option.some.inj e⟩
theorem app_rd {G : Glob} {F : Hp} {kd d : D} {k : Key} {v : V} (hk : keyOf kd = some k) (r : Rp G F v d) : ∀ {vs : List (Key × V)} {ds : List (D × D)}, RpD G F vs ds → RpD G F (vs ++ [(k, v)]) (ds ++ [(kd, d)])
  | _, _, .nil => .cons hk r .nil
  | _, _, .cons h1 r1 rs => .cons h1 r1 (app_rd hk r rs)
theorem map_rd {G : Glob} {F : Hp} {kd d : D} {k : Key} {v : V} (hk : keyOf kd = some k) (r : Rp G F v d) : ∀ {vs : List (Key × V)} {ds : List (D × D)}, RpD G F vs ds → RpD G F (vs.map fun kv => if kv.1 = k then (kv.1, v) else kv) (ds.map fun e => if keyOf e.1 = keyOf kd then (e.1, d) else e)
  | _, _, .nil => .nil
  | _, _, .cons (k := k') (kd := kd') h1 r1 rs => by
    rw [List.map_cons, List.map_cons]
    by_cases e : k' = k
    · have e2 : keyOf kd' = keyOf kd := by rw [h1, hk, e]
      rw [if_pos (show (k', _).1 = k from e), if_pos (show keyOf (kd', _).1 = keyOf kd from e2)]
      exact .cons h1 r (map_rd hk r rs)
    · have e2 : ¬ keyOf kd' = keyOf kd := by rw [h1, hk]; exact fun z => e (Option.some.inj z)
      rw [if_neg (show ¬ (k', _).1 = k from e), if_neg (show ¬ keyOf (kd', _).1 = keyOf kd from e2)]
      exact .cons h1 r1 (map_rd hk r rs)
theorem put_rd {G : Glob} {F : Hp} {kd d : D} {k : Key} {v : V} (hk : keyOf kd = some k) (r : Rp G F v d) {vs : List (Key × V)} {ds : List (D × D)} (rd : RpD G F vs ds) : RpD G F (putK vs k v) (putD kd d ds) := by
  unfold putK putD
  rw [any_rd K hk rd]
  split
  · exact map_rd K hk r rd
  · exact app_rd K hk r rd
theorem fld_rd {G : Glob} {F : Hp} {f : String} {d : D} {v : V} (r : Rp G F v d) : ∀ {vs : List (Str × V)} {ds : List (String × D)}, RpF G F vs ds → RpF G F (putF (Str.ofString f) v vs) (putFd f d ds)
  | _, _, .nil => .cons r .nil
  | _, _, .cons (f := g) r1 rs => by
    unfold putFd putF
    by_cases e : g = f
    · subst e
      rw [if_pos rfl, if_pos rfl]
      exact .cons r rs
    · rw [if_neg e, if_neg (fun z => e (ofString_inj.mp z))]
      exact .cons r1 (fld_rd r rs)
def tSto (C : Cq) : TSet := fun o i v H Q => ∃ dx dk dv F M R Qd, Good C.G R F H M ∧ Rp C.G F o dx ∧ Rp C.G F i dk ∧ Rp C.G F v dv ∧ wSto dx dk dv M Qd ∧ (∀ M' H', Qd M' → Good C.G R F H' M' → Q H')
theorem set_D : PSet X (tSto C) := by
  intro pins s σ H o i v ov iv u Q I ro ri rv h
  obtain ⟨dx, dk, dv, F, M, R, Qd, g, r1, r2, r3, hw, w⟩ := h
  unfold wSto at hw
  split at hw
  · rename_i p
    cases r1
    split at hw
    · rename_i xs e
      obtain ⟨_, ho, hh, rm⟩ := g.mt p _ e
      cases rm with
      | lst rl =>
        split at hw
        · rename_i j
          cases r2
          split at hw
          · rename_i n hn
            refine set_list pins s σ H _ _ v ov iv u Q I ro ri rv ⟨p, _, j, n, rfl, rfl, hh, by rw [rl.length]; exact hn, ?_⟩
            exact w _ _ hw (g.write e (.lst (rl.set r3 n)))
          · exact hw.elim
        · exact hw.elim
    · rename_i kvs e
      obtain ⟨hk, hl, hq⟩ := hw
      obtain ⟨k, hk⟩ := Option.isSome_iff_exists.mp hk
      obtain ⟨_, ho, hh, rm⟩ := g.mt p _ e
      cases rm with
      | dic rd =>
        have ei := keyOf_rp K.g r2 hk
        subst ei
        obtain rfl : ov = Value.ref p := ro
        refine d_setItem (by have := K.g.un; omega) I (DPut.k hh (by rw [rd.length, line_eq]; exact hl)) ri rv fun s' I' => ⟨_, I', ?_⟩
        exact w _ _ hq (g.write e (.dic (put_rd K hk r3 rd)))
    · exact hw.elim
  · exact hw.elim
theorem s_sto {a b p : PX} (ha : PEs C X a) (hb : PEs C X b) (hp : PEs C X p) : PSt C X (.sto a b p) := fun s h => by
  cases s <;> first | (exact absurd h Bool.false_ne_true) | skip
  rename_i ts e pos
  match ts, h with
  | [], h => exact absurd h Bool.false_ne_true
  | u :: _ :: _, h => cases u <;> exact absurd h Bool.false_ne_true
  | [u], h =>
    cases u <;> first | (exact absurd h Bool.false_ne_true) | skip
    rename_i x y pos'
    obtain ⟨h, h4⟩ := and_of (show (isX X.N X.env.scope a x && isX X.N X.env.scope b y && isX X.N X.env.scope p e && !compB e) = true from h)
    obtain ⟨h, h3⟩ := and_of h
    obtain ⟨h1, h2⟩ := and_of h
    have sw : swappedStores [.Subscript x y pos'] e X.env = pure none := by cases e <;> rfl
    have as : ∀ v, assign (.Subscript x y pos') X.env v = (do
      let ov ← holding [v] (eval x X.env)
      let iv ← holding [v, ov] (eval y X.env)
      standAt pos'
      holding [v, ov, iv] (setItem ov iv v)
      release [v, ov, iv] []) := by
      intro v
      cases y <;> first | rfl | (exfalso; rw [isX_slice] at h2; cases h2)
    refine PS.imp (ps_asg (hp e h3) (pg_sub (ha x h1) (hb y h2) (set_D K) as) (show swapsWith e (some (.Subscript x y pos')) pos.line X.env = pure false from swaps_no K (not_t K h4) _ _ _) sw rfl) fun D σ H ⟨σd, M, R, F, Kd, sr, q, w⟩ => ?_
    refine ⟨σd, M, R, F, _, sr, q, fun d M1 v F1 H1 q1 e1 g1 r1 => ?_⟩
    have sr1 := sr.step e1 g1
    refine ⟨σd, M1, R, F1, _, sr1, q1, fun dx M2 vx F2 H2 q2 e2 g2 r2 => ?_⟩
    have sr2 := sr1.step e2 g2
    refine ⟨σd, M2, R, F2, _, sr2, q2, fun dk M3 vk F3 H3 q3 e3 g3 r3 => ?_⟩
    have sr3 := sr2.step e3 g3
    exact ⟨dx, dk, d, F3, M3, R, _, g3, r2.mono e3, r3, r1.mono (e2.trans e3), q3, fun M4 H4 q4 g4 => w.nx σd M4 F3 σ H4 q4 ((e1.trans e2).trans e3) ⟨sr3.e, sr3.f0, sr3.env, g4⟩⟩
theorem wfld_ok {cl f : String} {x d : D} {M : Store} {R F H : Hp} {vx v : V} {Q : Store → Prop} (o : AttrF C.G cl f) (g : Good C.G R F H M) (rx : Rp C.G F vx x) (rv : Rp C.G F v d) (h : wFld cl x f d M Q) :
    ∃ a Ca dx fs M', C.G.mg (Str.ofString cl) = some (.ref Ca) ∧ vx = .ref a ∧ H a = some (.ins Ca dx fs) ∧ Cls X.K Ca ∧ NoAttr X.K Ca (Str.ofString f) ∧ fs.length < 1000 ∧ Good C.G R F (upd H a (.ins Ca dx (putF (Str.ofString f) v fs))) M' ∧ Q M' := by
  obtain ⟨Ca, hm, cl', na⟩ := o.ex
  unfold wFld at h
  split at h
  · rename_i q
    cases rx
    split at h
    · rename_i c fs e
      obtain ⟨rfl, hl, hq⟩ := h
      obtain ⟨_, ho, hh, rm⟩ := g.mt q _ e
      cases rm with
      | inst hc rf =>
        rw [hm] at hc
        cases hc
        exact ⟨q, Ca, _, _, _, hm, rfl, hh, by rw [K.g.K]; exact cl', by rw [K.g.K]; exact na, by rw [rf.length]; exact hl, g.write e (.inst hm (fld_rd K rv rf)), hq⟩
    · exact h.elim
  · exact h.elim
theorem s_fld {cl f : String} {a p : PX} (o : AttrF C.G cl f) (ha : PEs C X a) (hp : PEs C X p) : PSt C X (.fld cl a f p) := fun s h => by
  cases s <;> first | (exact absurd h Bool.false_ne_true) | skip
  rename_i ts e pos
  match ts, h with
  | [], h => exact absurd h Bool.false_ne_true
  | u :: _ :: _, h => cases u <;> exact absurd h Bool.false_ne_true
  | [u], h =>
    cases u <;> first | (exact absurd h Bool.false_ne_true) | skip
    rename_i x nm pos'
    obtain ⟨h, h3⟩ := and_of (show (isX X.N X.env.scope a x && decide (nm = Str.ofString f) && isX X.N X.env.scope p e) = true from h)
    obtain ⟨h1, h2⟩ := and_of h
    have h2 := of_decide_eq_true h2
    subst h2
    refine PS.imp (ps_fld (ha x h1) (hp e h3) (by cases e <;> rfl)) fun D σ H ⟨σd, M, R, F, Kd, sr, q, w⟩ => ?_
    refine ⟨σd, M, R, F, _, sr, q, fun d M1 v F1 H1 q1 e1 g1 r1 => ?_⟩
    have sr1 := sr.step e1 g1
    refine ⟨σd, M1, R, F1, _, sr1, q1, fun dx M2 vx F2 H2 q2 e2 g2 r2 => ?_⟩
    have sr2 := sr1.step e2 g2
    obtain ⟨b, Ca, dd, fs, M', _, k1, k2, k3, k4, k5, k6, k7⟩ := wfld_ok K o g2 r2 (r1.mono e2) q2
    exact ⟨b, Ca, dd, fs, k1, k2, k3, k4, k5, w.nx σd M' F2 σ _ k7 (e1.trans e2) ⟨sr2.e, sr2.f0, sr2.env, k6⟩⟩
def augO : BOp → Operator
  | .sub => .Sub | _ => .Add
theorem ip_D (o : BOp) : PIp X (augO o) (rD C.G (wIp o)) := by
  intro pins s σ H x y v u Q I rx ry h
  obtain ⟨dx, dy, F, M, R, Qd, g, r1, r2, hw, w⟩ := h
  unfold wIp at hw
  split at hw
  · cases r1; cases r2
    exact iop_add pins s σ H _ _ v u Q I rx ry ⟨_, _, rfl, rfl, w.at g (.int _) hw⟩
  · cases r1; cases r2
    refine iop_add_str pins s σ H _ _ v u Q I rx ry ⟨_, _, rfl, rfl, ?_, ?_⟩
    · rw [ofString_len, ofString_len, line_eq]; exact hw.1
    · rw [← ofString_append]; exact w.at g (.str _) hw.2
  · cases r1; cases r2
    exact iop_sub pins s σ H _ _ v u Q I rx ry ⟨_, _, rfl, rfl, w.at g (.int _) hw⟩
  · exact hw.elim
theorem s_aug {o : BOp} {i : Nat} {p : PX} (hp : PEs C X p) : PSt C X (.aug o i p) := fun s h => by
  cases s <;> first | (exact absurd h Bool.false_ne_true) | skip
  rename_i u op e pos
  cases u <;> first | (exact absurd h Bool.false_ne_true) | skip
  rename_i x pos'
  obtain ⟨h, h3⟩ := and_of (show (augB o op && locB X.N X.env.scope (fun _ => true) i x && isX X.N X.env.scope p e) = true from h)
  obtain ⟨h1, h2⟩ := and_of h
  obtain ⟨n1, n2, n3⟩ := loc_of K h2
  have eo : op = augO o := by cases o <;> cases op <;> first | rfl | (cases h1; done)
  subst eo
  refine PS.imp (ps_aug K.g.nd n1 n2 (hp e h3) (ip_D K o) n3) fun D σ H ⟨σd, M, R, F, Kd, sr, q, w⟩ => ?_
  have q' : getS σd i fun x => dE C.E p σd M fun y M1 => wIp o x y M1 fun z M2 => Kd.nx (σd.set i (some z)) M2 := q
  unfold getS at q'
  split at q'
  · rename_i d ed
    obtain ⟨v, ev, rv⟩ := sr.env.at_ i d ed
    refine ⟨v, ev, σd, M, R, F, _, sr, q', fun y M1 vy F1 H1 q1 e1 g1 r1 => ?_⟩
    have sr1 := sr.step e1 g1
    exact ⟨d, y, F1, M1, R, _, g1, rv.mono e1, r1, q1, fun z M2 vz F2 H2 q2 e2 g2 r2 => w.nx _ M2 F2 _ H2 q2 (e1.trans e2) ⟨sr1.e, sr1.f0.trans e2, (sr1.env.mono e2).set i r2, g2⟩⟩
  · exact q'.elim
theorem s_augF {cl f : String} {a p : PX} (o : AttrF C.G cl f) (ha : PEs C X a) (hp : PEs C X p) : PSt C X (.augF cl a f p) := fun s h => by
  cases s <;> first | (exact absurd h Bool.false_ne_true) | skip
  rename_i u op e pos
  cases u <;> first | (exact absurd h Bool.false_ne_true) | skip
  rename_i x nm pos'
  cases op <;> first | (exact absurd h Bool.false_ne_true) | skip
  obtain ⟨h, h3⟩ := and_of (show (isX X.N X.env.scope a x && decide (nm = Str.ofString f) && isX X.N X.env.scope p e) = true from h)
  obtain ⟨h1, h2⟩ := and_of h
  have h2 := of_decide_eq_true h2
  subst h2
  refine PS.imp (ps_fldaug (ha x h1) (hp e h3) (show InOp X .Add (rD C.G (wIp .add)) from ip_D K .add)) fun D σ H ⟨σd, M, R, F, Kd, sr, q, w⟩ => ?_
  refine ⟨σd, M, R, F, _, sr, q, fun dx M1 vx F1 H1 q1 e1 g1 r1 => ?_⟩
  have sr1 := sr.step e1 g1
  obtain ⟨Ca, hm, cl', na⟩ := o.ex
  split at q1
  · rename_i c fs ei
    obtain ⟨rfl, q1⟩ := q1
    obtain ⟨b, C', dd, vs, rfl, hH, hc, rf⟩ := asI_rp g1 r1 ei
    rw [hm] at hc
    cases hc
    split at q1
    · rename_i d2 el
      obtain ⟨v2, e3, r3⟩ : ∃ v, vs.lookup (Str.ofString f) = some v ∧ Rp C.G F1 v d2 := by
        rcases lookF_rp f rf with ⟨v, d', k1, k2, k3⟩ | ⟨_, k2⟩
        · rw [el] at k2; cases k2; exact ⟨v, k1, k3⟩
        · rw [el] at k2; cases k2
      refine ⟨b, Ca, dd, vs, v2, rfl, hH, by rw [K.g.K]; exact cl', by rw [K.g.K]; exact na, e3, σd, M1, R, F1, _, sr1, q1, fun y M2 vy F2 H2 q2 e2 g2 r2 => ?_⟩
      have sr2 := sr1.step e2 g2
      refine ⟨d2, y, F2, M2, R, _, g2, r3.mono e2, r2, q2, fun z M3 vz F3 H3 q3 e3 g3 r4 => ?_⟩
      have sr3 := sr2.step e3 g3
      obtain ⟨b', Ca', dd', fs', M', k0, k1, k2, k3, k4, k5, k6, k7⟩ := wfld_ok K o g3 (r1.mono (e2.trans e3)) r4 q3
      cases k1
      rw [hm] at k0
      cases k0
      exact ⟨dd', fs', k2, k5, w.nx σd M' F3 σ _ k7 ((e1.trans e2).trans e3) ⟨sr3.e, sr3.f0, sr3.env, k6⟩⟩
    · exact q1.elim
  · exact q1.elim
theorem s_ex {p : PX} (hp : PEs C X p) : PSt C X (.ex p) := fun s h => by
  cases s <;> first | (exact absurd h Bool.false_ne_true) | skip
  rename_i e pos
  obtain ⟨h1, h2⟩ := and_of (show (isX X.N X.env.scope p e && !compB e) = true from h)
  refine PS.imp (ps_expr (hp e h1) (swaps_no K (not_t K h2) _ _ _)) fun D σ H ⟨σd, M, R, F, Kd, sr, q, w⟩ => ?_
  exact ⟨σd, M, R, F, _, sr, q, fun d M1 v F1 H1 q1 e1 g1 r1 => w.nx σd M1 F1 σ H1 q1 e1 (sr.step e1 g1)⟩
theorem s_ret {p : PX} (hp : PEs C X p) : PSt C X (.ret p) := fun s h => by
  cases s <;> first | (exact absurd h Bool.false_ne_true) | skip
  rename_i e pos
  cases e with
  | none => exact absurd h Bool.false_ne_true
  | some e =>
    refine PS.imp (ps_ret (hp e h)) fun D σ H ⟨σd, M, R, F, Kd, sr, q, w⟩ => ?_
    exact ⟨σd, M, R, F, _, sr, q, fun d M1 v F1 H1 q1 e1 g1 r1 => w.rt d M1 v F1 H1 q1 e1 g1 r1⟩
theorem s_retN : PSt C X .retN := fun s h => by
  cases s <;> first | (exact absurd h Bool.false_ne_true) | skip
  rename_i e pos
  cases e with
  | some e => exact absurd h Bool.false_ne_true
  | none => exact PS.imp ps_retN fun D σ H ⟨σd, M, R, F, Kd, sr, q, w⟩ => w.rt .non M .non F H q (Ex.refl F) sr.good .non
theorem s_iff {t : PT} {a b : Sts} (ht : PTt C X t) (ha : PSst C X a) (hb : PSst C X b) : PSt C X (.iff t a b) := fun s h => by
  cases s <;> first | (exact absurd h Bool.false_ne_true) | skip
  rename_i e x y pos
  obtain ⟨h, h3⟩ := and_of (show (isT X.N X.env.scope t e && isSs X.N X.env.scope a x && isSs X.N X.env.scope b y) = true from h)
  obtain ⟨h1, h2⟩ := and_of h
  refine PS.imp (ps_if (ht e h1) (ha x h2) (hb y h3)) fun D σ H ⟨σd, M, R, F, Kd, sr, q, w⟩ => ?_
  refine ⟨σd, M, R, F, _, sr, q, fun c M1 F1 H1 q1 e1 g1 => ?_⟩
  have sr1 := sr.step e1 g1
  cases c with
  | true =>
    show (if _ = _ then _ else _)
    rw [if_pos rfl]
    exact ⟨σd, M1, R, F1, Kd, sr1, q1, w.mono e1⟩
  | false =>
    show (if _ = _ then _ else _)
    rw [if_neg Bool.false_ne_true]
    exact ⟨σd, M1, R, F1, Kd, sr1, q1, w.mono e1⟩
theorem s_whl {t : PT} {b : Sts} (ht : PTt C X t) (hb : PSst C X b) : PSt C X (.whl t b) := fun s h => by
  cases s <;> first | (exact absurd h Bool.false_ne_true) | skip
  rename_i e x els pos
  cases els with
  | cons _ _ => exact absurd h Bool.false_ne_true
  | nil =>
    obtain ⟨h1, h2⟩ := and_of (show (isT X.N X.env.scope t e && isSs X.N X.env.scope b x) = true from h)
    refine PS.imp (ps_while K.own (ht e h1) (hb x h2)) fun D σ H ⟨σd, M, R, F, Kd, sr, ⟨W, ⟨m0, w0⟩, turn⟩, w⟩ => ?_
    refine ⟨fun m σ H => ∃ σd M F', Ex F F' ∧ SR C σd M R F' σ H ∧ W m σd M, ⟨m0, σd, M, F, Ex.refl F, sr, w0⟩, ?_⟩
    rintro m σ1 H1 ⟨σd1, M1, F1, e1, sr1, w1⟩
    refine ⟨σd1, M1, R, F1, _, sr1, turn m σd1 M1 w1, fun c M2 F2 H2 q2 e2 g2 => ?_⟩
    have sr2 := sr1.step e2 g2
    cases c with
    | false =>
      show (if _ = _ then _ else _)
      rw [if_neg Bool.false_ne_true]
      exact w.nx σd1 M2 F2 σ1 H2 q2 (e1.trans e2) sr2
    | true =>
      show (if _ = _ then _ else _)
      rw [if_pos rfl]
      refine ⟨fun σ' H' => ∃ m', m' < m ∧ ∃ σd M F', Ex F F' ∧ SR C σd M R F' σ' H' ∧ W m' σd M, fun σ' H' h => h, σd1, M2, R, F2, _, sr2, q2, ?_⟩
      exact ⟨fun σd M F' σ H ⟨m', hm, hw⟩ e3 s3 => ⟨m', hm, σd, M, F', (e1.trans e2).trans e3, s3, hw⟩,
        fun d M v F' H' q e3 g r => w.rt d M v F' H' q ((e1.trans e2).trans e3) g r,
        fun σd M F' σ H q e3 s3 => w.nx σd M F' σ H q ((e1.trans e2).trans e3) s3,
        fun σd M F' σ H ⟨m', hm, hw⟩ e3 s3 => ⟨m', hm, σd, M, F', (e1.trans e2).trans e3, s3, hw⟩⟩
theorem s_for {t : Tg} {it : PIt} {b : Sts} (hi : PIs C X it) (htg : tgOk t it) (hb : PSst C X b) : PSt C X (.for_ t it b) := fun s h => by
  cases s <;> first | (exact absurd h Bool.false_ne_true) | skip
  rename_i tg e x els pos
  cases els with
  | cons _ _ => exact absurd h Bool.false_ne_true
  | nil =>
    obtain ⟨h, h3⟩ := and_of (show (isTg X.N X.env.scope (fun _ => true) t tg && isIt X.N X.env.scope it e && isSs X.N X.env.scope b x) = true from h)
    obtain ⟨h1, h2⟩ := and_of h
    refine PS.imp (ps_for K.own K.g.calm (hi tg e (tup_of htg h1) h2) (tg_pg K.g.calm K.g.nd (fun x _ => K.fn x) t h1) (hb x h3) (fold_of K.toCtx h2 _)) fun D σ H ⟨σd, M, R, F, Kd, sr, q, w⟩ => ?_
    refine ⟨σd, M, R, F, _, sr, q, fun xs g M1 F1 H1 J q1 e1 g1 wk hl => ?_⟩
    have sr1 := sr.step e1 g1
    refine ⟨fun i m σ H' => m = xs.length - i ∧ i ≤ xs.length ∧ ∃ σd M' F', Ex F1 F' ∧ SR C σd M' R F' σ H' ∧
      forGo g (fun x σ M nx => gTg t x σ fun σ' => dSs C.E b { nx := nx, rt := Kd.rt, bk := Kd.nx, ct := nx } σ' M) (xs.drop i) σd M' Kd.nx,
      ⟨xs.length, by simp, Nat.zero_le _, σd, M1, F1, Ex.refl F1, sr1, q1⟩, ?_⟩
    rintro j m σ2 H2 ⟨rfl, hj, σd2, M2, F2, e2, sr2, go⟩
    have gm : g M2 := by
      cases q : xs.drop j with
      | nil => rw [q] at go; exact go.1
      | cons _ _ => rw [q] at go; exact go.1
    obtain ⟨w1, w2⟩ := wk j R F2 H2 M2 e2 sr2.good gm
    by_cases hjl : j < xs.length
    · right
      have hy : xs[j]? = some xs[j] := List.getElem?_eq_getElem hjl
      have hd : xs.drop j = xs[j] :: xs.drop (j + 1) := List.drop_eq_getElem_cons hjl
      rw [hd] at go
      obtain ⟨w3, w4⟩ := w1 _ hy
      refine ⟨w3, fun σ3 H3 => j + 1 ≤ xs.length ∧ ∃ σd M' F', Ex F1 F' ∧ SR C σd M' R F' σ3 H3 ∧
        forGo g (fun x σ M nx => gTg t x σ fun σ' => dSs C.E b { nx := nx, rt := Kd.rt, bk := Kd.nx, ct := nx } σ' M) (xs.drop (j + 1)) σd M' Kd.nx,
        fun σ3 H3 n => ⟨xs.length - (j + 1), by omega, rfl, n.1, n.2⟩, fun v H3 hyl => ?_⟩
      obtain ⟨F3, ex3, gd3, r3⟩ := w4 v H3 hyl
      refine tg_mono t (tg_sem K.g.K gd3 t r3 (sr2.env.mono ex3) go.2) ?_
      intro σ4 H4 ⟨e4, _, σd4, env4, q4⟩
      subst e4
      refine ⟨σd4, M2, R, F3, _, ⟨sr2.e, sr2.f0.trans ex3, env4, gd3⟩, q4, ?_⟩
      exact ⟨fun σd M F' σ H q e5 s5 => ⟨by omega, σd, M, F', (e2.trans ex3).trans e5, s5, q⟩,
        fun d M v F' H' q e5 g r => w.rt d M v F' H' q (((e1.trans e2).trans ex3).trans e5) g r,
        fun σd M F' σ H q e5 s5 => w.nx σd M F' σ H q (((e1.trans e2).trans ex3).trans e5) s5,
        fun σd M F' σ H q e5 s5 => ⟨by omega, σd, M, F', (e2.trans ex3).trans e5, s5, q⟩⟩
    · left
      have hd : xs.drop j = [] := List.drop_eq_nil_of_le (by omega)
      rw [hd] at go
      exact ⟨w2 (by omega), w.nx σd2 M2 F2 σ2 H2 go.2 (e1.trans e2) sr2⟩
theorem s_brk : PSt C X .brk := fun s h => by
  cases s <;> first | (exact absurd h Bool.false_ne_true) | skip
  exact PS.imp ps_break fun D σ H ⟨σd, M, R, F, Kd, sr, q, w⟩ => w.bk σd M F σ H q (Ex.refl F) sr
theorem s_cnt : PSt C X .cnt := fun s h => by
  cases s <;> first | (exact absurd h Bool.false_ne_true) | skip
  exact PS.imp ps_continue fun D σ H ⟨σd, M, R, F, Kd, sr, q, w⟩ => w.ct σd M F σ H q (Ex.refl F) sr
theorem s_pas : PSt C X .pas := fun s h => by
  cases s <;> first | (exact absurd h Bool.false_ne_true) | skip
  exact PS.imp ps_pass fun D σ H ⟨σd, M, R, F, Kd, sr, q, w⟩ => w.nx σd M F σ H q (Ex.refl F) sr
theorem s_never : PSt C X .never := fun s h => PS.imp ps_never fun D σ H ⟨σd, M, R, F, Kd, sr, q, w⟩ => q.elim
theorem ss_nil : PSst C X .nil := fun e h => by
  cases e with
  | cons _ _ => exact absurd h Bool.false_ne_true
  | nil => exact PSs.imp pss_nil fun D σ H ⟨σd, M, R, F, Kd, sr, q, w⟩ => w.nx σd M F σ H q (Ex.refl F) sr
theorem ss_cons {s : St'} {ss : Sts} (h1 : PSt C X s) (h2 : PSst C X ss) : PSst C X (.cons s ss) := fun e h => by
  cases e with
  | nil => exact absurd h Bool.false_ne_true
  | cons x xs =>
    obtain ⟨k1, k2⟩ := and_of (show (isS X.N X.env.scope s x && isSs X.N X.env.scope ss xs) = true from h)
    refine PSs.imp (pss_cons (h1 x k1) (h2 xs k2)) fun D σ H ⟨σd, M, R, F, Kd, sr, q, w⟩ => ?_
    refine ⟨σd, M, R, F, _, sr, q, ?_⟩
    exact ⟨fun σd M F' σ H q e s => ⟨σd, M, R, F', Kd, s, q, w.mono e⟩, fun d M v F' H' q e g r => w.rt d M v F' H' q e g r, fun σd M F' σ H q e s => w.bk σd M F' σ H q e s, fun σd M F' σ H q e s => w.ct σd M F' σ H q e s⟩
theorem ss_gh {Rg : Ghost} {ss : Sts} (o : GhOk C.G Rg) (h2 : PSst C X ss) : PSst C X (.gh Rg ss) := fun e h => by
  refine PSs.imp (h2 e h) fun D σ H ⟨σd, M, R, F, Kd, sr, ⟨σd', M', hr, q⟩, w⟩ => ?_
  obtain ⟨F', e1, env', g'⟩ := o σd M σd' M' R F σ H hr sr.env sr.good
  exact ⟨σd', M', R, F', Kd, ⟨sr.e, sr.f0.trans e1, env', g'⟩, q, w.mono e1⟩
theorem ss_pin {Rg : Ghost} {ss : Sts} (o : PinOk C.G Rg) (h2 : PSst C X ss) : PSst C X (.pin Rg ss) := fun e h => by
  refine ⟨fun pins s σ H D I ⟨σd, M, R, F, Kd, sr, ⟨σd', M', hr, q⟩, w⟩ => ?_⟩
  obtain ⟨F', H', I', e1, env', g'⟩ := o X pins s σd M σd' M' R F σ H K.g.prog K.g.w hr I sr.env sr.good
  exact (h2 e h).run pins s σ H' D I' ⟨σd', M', R, F', Kd, ⟨sr.e, sr.f0.trans e1, env', g'⟩, q, w.mono e1⟩
end
mutual
theorem sS : ∀ (s : St') {C : Cq} {X : Cx}, CtxS C X → okS C.G C.k s → PSt C X s
  | .asg i p, C, X, K, o => s_asg K (sX p K.toCtx o) fun elt own tg it cnd e => by
    subst e
    exact ⟨sIt it K.toCtx o.2.1, o.2.2.2, fun X' K' => sX elt K' o.1, fun X' K' => sIf cnd K' o.2.2.1⟩
  | .asgT t p, C, X, K, o => s_asgT K (sX p K.toCtx o)
  | .sto a b p, C, X, K, o => s_sto K (sX a K.toCtx o.1) (sX b K.toCtx o.2.1) (sX p K.toCtx o.2.2)
  | .fld cl a f p, C, X, K, o => s_fld K o.1 (sX a K.toCtx o.2.1) (sX p K.toCtx o.2.2)
  | .aug _ _ p, C, X, K, o => s_aug K (sX p K.toCtx o)
  | .augF cl a f p, C, X, K, o => s_augF K o.1 (sX a K.toCtx o.2.1) (sX p K.toCtx o.2.2)
  | .ex p, C, X, K, o => s_ex K (sX p K.toCtx o)
  | .ret p, C, X, K, o => s_ret K (sX p K.toCtx o)
  | .retN, C, X, K, o => s_retN K
  | .iff t a b, C, X, K, o => s_iff K (sT t K.toCtx o.1) (sSs a K o.2.1) (sSs b K o.2.2)
  | .whl t b, C, X, K, o => s_whl K (sT t K.toCtx o.1) (sSs b K o.2)
  | .for_ _ it b, C, X, K, o => s_for K (sIt it K.toCtx o.1) o.2.2 (sSs b K o.2.1)
  | .brk, C, X, K, o => s_brk K
  | .cnt, C, X, K, o => s_cnt K
  | .pas, C, X, K, o => s_pas K
  | .never, C, X, K, o => s_never K
  | .pr m w es, C, X, K, o => fun e h => by
    replace h : (match m X.N X.env.scope e with | some xs => isXs X.N X.env.scope es xs | none => false) = true := h
    split at h
    · rename_i xs hx
      exact o.1.ok K rfl rfl rfl hx h (sAll es K.toCtx o.2)
    · cases h
theorem sSs : ∀ (s : Sts) {C : Cq} {X : Cx}, CtxS C X → okSs C.G C.k s → PSst C X s
  | .nil, C, X, K, o => ss_nil K
  | .cons s ss, C, X, K, o => ss_cons K (sS s K o.1) (sSs ss K o.2)
  | .gh R ss, C, X, K, o => ss_gh K o.1 (sSs ss K o.2)
  | .pin R ss, C, X, K, o => ss_pin K o.1 (sSs ss K o.2)
end
theorem env_start {G : Glob} {F : Hp} : ∀ {vs : List V} {ds : List D} (n : Nat), RpL G F vs ds → EnvR G F (ds.map some ++ List.replicate n none) (vs.map some ++ List.replicate n none) := fun {vs ds} n r => by
  refine ⟨by rw [List.length_append, List.length_append, List.length_map, List.length_map, r.length, List.length_replicate, List.length_replicate], fun i d q => ?_⟩
  by_cases hi : i < ds.length
  · rw [List.getElem?_append_left (by rw [List.length_map]; exact hi), List.getElem?_map] at q
    cases qd : ds[i]? with
    | none => rw [qd] at q; cases q
    | some d' =>
      rw [qd] at q
      cases q
      obtain ⟨v, hv, rv⟩ := r.get qd
      refine ⟨v, ?_, rv⟩
      rw [List.getElem?_append_left (by rw [List.length_map, r.length]; exact hi), List.getElem?_map, hv]
      rfl
  · rw [List.getElem?_append_right (by rw [List.length_map]; omega), List.getElem?_replicate] at q
    split at q <;> cases q
def startD (n : Nat) (ds : List D) : Env := ds.map some ++ List.replicate (n - ds.length) none
theorem def_ok {G : Glob} {x qual : Str} {st : Stmt} {f : Addr} {fd : FuncData} {N ps : List Str} {k : Nat} {sp : Spec} (c : Sts) (Fn : L2.Fun G.K x qual st f fd) (S : FnScope N ps (defScope st))
    (hm : isSs N (defScope st) c (defBody st) = true) (ok : okSs G k c) (hsp : ∀ ds M Q E, ds.length = ps.length → sp ds M Q E → dSs E c { nx := fun _ M' => Q .non M', rt := Q } (startD N.length ds) M) :
    FnOk G.prog G.w G.K G.mg G.base (VX.CX G.prog G.w) (k + 1) f fd ps (toSp G ps.length sp) := by
  refine VX.okX Fn S (fun vs H Q E ⟨ds, F, M, R, Qd, Ed, hl, g, r, _⟩ => by rw [r.length, hl]) fun cdv A outer s H vs Q E hr ⟨ds, F, M, R, Qd, Ed, hl, g, r, hs, w, wx⟩ => ?_
  have ek : ∀ cls d (H' : Hp), excK { G := G, R := R, F0 := F, E := Ed, k := k } cls d H' → E cls d H' := fun cls d H' ⟨c, fs, M', F', hE, ex, gd, hmg, ⟨Ca, hca⟩, hd⟩ => by
    subst hca
    have z := wx c fs M' F' H' Ca hE ex gd hmg
    cases fs with
    | none =>
      cases d with
      | none => exact z
      | some _ => exact hd.elim
    | some fs =>
      cases d with
      | none => exact hd.elim
      | some da =>
        obtain ⟨xfs, h1, h2⟩ := hd
        exact z da xfs h1 h2
  have K : CtxS { G := G, R := R, F0 := F, E := Ed, k := k } (cxOf (VX.CX G.prog G.w) G.prog G.w G.K G.mg G.base N qual (defScope st) f cdv A outer s H E) :=
    { g := ⟨rfl, rfl, rfl, rfl, rfl, rfl, S.nd, by have := hr.un; show (A.deeper (envOfC qual (defScope st) s.heap.objs.size f cdv)).units + 65 < cLine; omega⟩
      room := hr
      pass := VX.passes_call (VX.takes_of rfl rfl rfl rfl) fun cls d σ H' h => ek cls d H' h
      kind := S.kind
      own := passes_of rfl
      fn := fun _ => rfl
      tk := (VX.takes_of rfl rfl rfl rfl).imp fun cls d σ H' h => ek cls d H' h
      stk := rfl
      frm := rfl }
  refine ⟨_, sSs c K ok (defBody st) hm, ?_⟩
  refine ⟨startD N.length ds, M, R, F, _, ⟨.inr rfl, Ex.refl F, ?_, g⟩, hsp ds M Qd Ed hl hs, ?_⟩
  · have := env_start (G := G) (N.length - ds.length) r
    unfold startD L2.start
    rw [r.length]
    exact this
  · exact ⟨fun σd M F' σ H' q e s => w .non M .non F' H' q e s.good .non, fun d M v F' H' q e g r => w d M v F' H' q e g r, fun _ _ _ _ _ q => q.elim, fun _ _ _ _ _ q => q.elim⟩
end VS
namespace VS
open PySem PySem.Spec PyProof.Rows L2
def sp0 : Spec := fun _ _ _ _ => False
def ws0 : WS := fun _ _ _ _ _ => False
def gd0 : Gd := fun _ _ _ => False
def wi0 : WI := fun _ _ _ => False
mutual
def eX : PX → PX
  | .v i => .v i | .c d => .c d | .g x d => .g x d
  | .bin o a b => .bin o (eX a) (eX b) | .neg a => .neg (eX a)
  | .cmp o a b => .cmp o (eX a) (eX b) | .cmp2 o1 o2 a b c => .cmp2 o1 o2 (eX a) (eX b) (eX c)
  | .not a => .not (eX a) | .and es => .and (eXs es) | .or es => .or (eXs es) | .ife t a b => .ife (eT t) (eX a) (eX b)
  | .tup es => .tup (eXs es) | .lst es => .lst (eXs es) | .mlst es => .mlst (eXs es) | .mdic => .mdic
  | .ix a b => .ix (eX a) (eX b) | .sl a fl fh lo hi => .sl (eX a) fl fh (eX lo) (eX hi)
  | .call f _ es => .call f sp0 (eXs es)
  | .bi b es => .bi b (eXs es)
  | .isi a t => .isi (eX a) t | .isi2 a t u => .isi2 (eX a) t u
  | .mth m a es => .mth m (eX a) (eXs es)
  | .meth cl m _ a es => .meth cl m sp0 (eX a) (eXs es)
  | .attr cl a f => .attr cl (eX a) f
  | .lc elt own tg it cnd => .lc (eX elt) own tg (eIt it) (eIf cnd)
  | .dc kx vx own tg it cnd => .dc (eX kx) (eX vx) own tg (eIt it) (eIf cnd)
  | .pr m _ es => .pr m sp0 (eXs es)
  | .pg m _ _ es => .pg m gd0 sp0 (eXs es)
def eXs : PXs → PXs
  | .nil => .nil | .cons e es => .cons (eX e) (eXs es)
def eT : PT → PT
  | .val a => .val (eX a) | .and ts => .and (eTs ts) | .or ts => .or (eTs ts) | .not a => .not (eT a)
def eTs : PTs → PTs
  | .nil => .nil | .cons e es => .cons (eT e) (eTs es)
def eIt : PIt → PIt
  | .ex a => .ex (eX a) | .rng1 a => .rng1 (eX a) | .rng2 a b => .rng2 (eX a) (eX b) | .rng3 a b c => .rng3 (eX a) (eX b) (eX c) | .enum a => .enum (eX a) | .zip a b => .zip (eX a) (eX b) | .rev a => .rev (eX a) | .pr m _ es => .pr m wi0 (eXs es) | .prt m _ es => .prt m wi0 (eXs es)
def eIf : PIf → PIf
  | .nil => .nil | .one t => .one (eT t)
end
mutual
def eS : St' → St'
  | .asg i p => .asg i (eX p) | .asgT t p => .asgT t (eX p) | .sto a b p => .sto (eX a) (eX b) (eX p) | .fld cl a f p => .fld cl (eX a) f (eX p)
  | .aug o i p => .aug o i (eX p) | .augF cl a f p => .augF cl (eX a) f (eX p)
  | .ex p => .ex (eX p) | .ret p => .ret (eX p) | .retN => .retN | .iff t a b => .iff (eT t) (eSs a) (eSs b) | .whl t b => .whl (eT t) (eSs b) | .for_ t it b => .for_ t (eIt it) (eSs b)
  | .brk => .brk | .cnt => .cnt | .pas => .pas | .never => .never | .pr m _ es => .pr m ws0 (eXs es)
def eSs : Sts → Sts
  | .nil => .nil | .cons s ss => .cons (eS s) (eSs ss) | .gh _ ss => eSs ss | .pin _ ss => eSs ss
end
theorem nonB_e (p : PX) : nonB (eX p) = nonB p := by cases p <;> rfl
mutual
theorem eqX : ∀ (p : PX) (N : List Str) (sc : Scope), isX N sc (eX p) = isX N sc p
  | .v i, N, sc => rfl
  | .c d, N, sc => rfl
  | .g x d, N, sc => rfl
  | .bin o a b, N, sc => funext fun e => by
    cases e <;> first | rfl | (show (bopB o _ && isX N sc (eX a) _ && isX N sc (eX b) _) = _; rw [eqX a, eqX b]; rfl)
  | .neg a, N, sc => funext fun e => by
    cases e <;> first | rfl | skip
    rename_i op x pos
    cases op <;> first | rfl | (show isX N sc (eX a) _ = _; rw [eqX a]; rfl)
  | .cmp o a b, N, sc => funext fun e => by
    cases e <;> first | rfl | skip
    rename_i x ops ys pos
    match ops, ys with
    | [], _ => rfl
    | [_], [] => rfl
    | [op], [y] => show (copB o op && isX N sc (eX a) _ && isX N sc (eX b) _) = _; rw [eqX a, eqX b]; rfl
    | [_], _ :: _ :: _ => rfl
    | _ :: _ :: _, _ => rfl
  | .cmp2 o1 o2 a b c, N, sc => funext fun e => by
    cases e <;> first | rfl | skip
    rename_i x ops ys pos
    match ops, ys with
    | [], _ => rfl
    | [_], _ => rfl
    | [_, _], [] => rfl
    | [_, _], [_] => rfl
    | [p, q], [y, z] => show (copB o1 p && copB o2 q && isX N sc (eX a) _ && isX N sc (eX b) _ && isX N sc (eX c) _) = _; rw [eqX a, eqX b, eqX c]; rfl
    | [_, _], _ :: _ :: _ :: _ => rfl
    | _ :: _ :: _ :: _, _ => rfl
  | .not a, N, sc => funext fun e => by
    cases e <;> first | rfl | skip
    rename_i op x pos
    cases op <;> first | rfl | (show isX N sc (eX a) _ = _; rw [eqX a]; rfl)
  | .and es, N, sc => funext fun e => by
    cases e <;> first | rfl | skip
    rename_i op xs pos
    cases op <;> cases xs <;> first | rfl | (show isXs N sc (eXs es) _ = _; rw [eqXs es]; rfl)
  | .or es, N, sc => funext fun e => by
    cases e <;> first | rfl | skip
    rename_i op xs pos
    cases op <;> cases xs <;> first | rfl | (show isXs N sc (eXs es) _ = _; rw [eqXs es]; rfl)
  | .ife t a b, N, sc => funext fun e => by
    cases e <;> first | rfl | (show (isT N sc (eT t) _ && isX N sc (eX a) _ && isX N sc (eX b) _) = _; rw [eqT t, eqX a, eqX b]; rfl)
  | .tup es, N, sc => funext fun e => by
    cases e <;> first | rfl | (show (isXs N sc (eXs es) _ && _) = _; rw [eqXs es]; rfl)
  | .lst es, N, sc => funext fun e => by
    cases e <;> first | rfl | (show (isXs N sc (eXs es) _ && _) = _; rw [eqXs es]; rfl)
  | .mlst es, N, sc => funext fun e => by
    cases e <;> first | rfl | (show (isXs N sc (eXs es) _ && _) = _; rw [eqXs es]; rfl)
  | .mdic, N, sc => rfl
  | .ix a b, N, sc => funext fun e => by
    cases e <;> first | rfl | (show (isX N sc (eX a) _ && isX N sc (eX b) _) = _; rw [eqX a, eqX b]; rfl)
  | .sl a fl fh lo hi, N, sc => funext fun e => by
    cases e <;> first | rfl | skip
    rename_i x y pos
    cases y <;> first | rfl | skip
    rename_i l h st p
    cases st <;> first | rfl | skip
    show (isX N sc (eX a) x && partB fl l (eX lo) (isX N sc (eX lo)) && partB fh h (eX hi) (isX N sc (eX hi))) = _
    rw [eqX a, eqX lo, eqX hi]
    have hp : ∀ (f : Bool) (o : Option Expr) (q : PX) (g : Expr → Bool), partB f o (eX q) g = partB f o q g := fun f o q g => by
      cases o with
      | some y => rfl
      | none => show (!f && nonB (eX q)) = _; rw [nonB_e]; rfl
    rw [hp, hp]; rfl
  | .call f s es, N, sc => funext fun e => by
    cases e <;> first | rfl | skip
    rename_i fn xs kw pos
    cases kw <;> first | rfl | (show (_ && isXs N sc (eXs es) _) = _; rw [eqXs es]; rfl)
  | .bi b es, N, sc => funext fun e => by
    cases e <;> first | rfl | skip
    rename_i fn xs kw pos
    cases kw <;> first | rfl | (show (_ && isXs N sc (eXs es) _ && _) = _; rw [eqXs es]; rfl)
  | .isi a t, N, sc => funext fun e => by
    cases e <;> first | rfl | skip
    rename_i fn xs kw pos
    match xs, kw with
    | [], _ => rfl
    | [_], _ => rfl
    | [x, z], [] => show (_ && isX N sc (eX a) _ && _) = _; rw [eqX a]; rfl
    | [_, _], _ :: _ => rfl
    | _ :: _ :: _ :: _, _ => rfl
  | .isi2 a t u, N, sc => funext fun e => by
    cases e <;> first | rfl | skip
    rename_i fn xs kw pos
    match xs, kw with
    | [], _ => rfl
    | [_], _ => rfl
    | [x, z], [] =>
      cases z <;> first | rfl | skip
      rename_i zs k p
      match zs with
      | [] => rfl
      | [_] => rfl
      | [z, y] => show (_ && isX N sc (eX a) _ && _ && _) = _; rw [eqX a]; rfl
      | _ :: _ :: _ :: _ => rfl
    | [x, z], _ :: _ =>
      cases z <;> first | rfl | skip
      rename_i zs k p
      match zs with
      | [] => rfl
      | [_] => rfl
      | [z, y] => rfl
      | _ :: _ :: _ :: _ => rfl
    | _ :: z :: _ :: _, _ =>
      cases z <;> first | rfl | skip
      rename_i zs k p
      match zs with
      | [] => rfl
      | [_] => rfl
      | [z, y] => rfl
      | _ :: _ :: _ :: _ => rfl
  | .mth m a es, N, sc => funext fun e => by
    cases e <;> first | rfl | skip
    rename_i fn xs kw pos
    cases fn <;> first | rfl | skip
    cases kw <;> first | rfl | (show (_ && _ && isX N sc (eX a) _ && _ && isXs N sc (eXs es) _ && _) = _; rw [eqX a, eqXs es]; rfl)
  | .meth cl m s a es, N, sc => funext fun e => by
    cases e <;> first | rfl | skip
    rename_i fn xs kw pos
    cases fn <;> first | rfl | skip
    cases kw <;> first | rfl | (show (_ && _ && _ && isX N sc (eX a) _ && _ && isXs N sc (eXs es) _) = _; rw [eqX a, eqXs es]; rfl)
  | .attr cl a f, N, sc => funext fun e => by
    cases e <;> first | rfl | (show (_ && isX N sc (eX a) _ && _) = _; rw [eqX a]; rfl)
  | .lc elt own tg it cnd, N, sc => funext fun e => by
    cases e <;> first | rfl | skip
    rename_i x gens scope pos
    match gens with
    | [] => rfl
    | ⟨_, _, _, .negSucc _⟩ :: _ :: _ => rfl
    | ⟨_, _, _, .ofNat 0⟩ :: _ :: _ => rfl
    | ⟨_, _, _, .ofNat (_ + 1)⟩ :: _ :: _ => rfl
    | [⟨t, i, ifs, .negSucc _⟩] => rfl
    | [⟨t, i, ifs, .ofNat (_ + 1)⟩] => rfl
    | [⟨t, i, ifs, .ofNat 0⟩] =>
      show (_ && _ && isIt N sc (eIt it) i && _ && isIf N (relS scope sc) (eIf cnd) ifs && isX N (relS scope sc) (eX elt) x) = _
      rw [eqIt it, eqIf cnd, eqX elt]; rfl
  | .dc kx vx own tg it cnd, N, sc => funext fun e => by
    cases e <;> first | rfl | skip
    rename_i x y gens scope pos
    match gens with
    | [] => rfl
    | ⟨_, _, _, .negSucc _⟩ :: _ :: _ => rfl
    | ⟨_, _, _, .ofNat 0⟩ :: _ :: _ => rfl
    | ⟨_, _, _, .ofNat (_ + 1)⟩ :: _ :: _ => rfl
    | [⟨t, i, ifs, .negSucc _⟩] => rfl
    | [⟨t, i, ifs, .ofNat (_ + 1)⟩] => rfl
    | [⟨t, i, ifs, .ofNat 0⟩] =>
      show (_ && _ && isIt N sc (eIt it) i && _ && isIf N (relS scope sc) (eIf cnd) ifs && isX N (relS scope sc) (eX kx) x && isX N (relS scope sc) (eX vx) y) = _
      rw [eqIt it, eqIf cnd, eqX kx, eqX vx]; rfl
  | .pr m w es, N, sc => funext fun e => by
    show (prB e && (match m N sc e with | some xs => isXs N sc (eXs es) xs | none => false)) = _
    rw [eqXs es]; rfl
  | .pg m t w es, N, sc => funext fun e => by
    show (prB e && (match m N sc e with | some xs => isXs N sc (eXs es) xs | none => false)) = _
    rw [eqXs es]; rfl
theorem eqXs : ∀ (p : PXs) (N : List Str) (sc : Scope), isXs N sc (eXs p) = isXs N sc p
  | .nil, N, sc => rfl
  | .cons p ps, N, sc => funext fun e => by
    cases e <;> first | rfl | (show (isX N sc (eX p) _ && isXs N sc (eXs ps) _) = _; rw [eqX p, eqXs ps]; rfl)
theorem eqT : ∀ (p : PT) (N : List Str) (sc : Scope), isT N sc (eT p) = isT N sc p
  | .val a, N, sc => funext fun e => by show isX N sc (eX a) e = _; rw [eqX a]; rfl
  | .and es, N, sc => funext fun e => by
    cases e <;> first | rfl | skip
    rename_i op xs pos
    cases op <;> cases xs <;> first | rfl | (show isTs N sc (eTs es) _ = _; rw [eqTs es]; rfl)
  | .or es, N, sc => funext fun e => by
    cases e <;> first | rfl | skip
    rename_i op xs pos
    cases op <;> cases xs <;> first | rfl | (show isTs N sc (eTs es) _ = _; rw [eqTs es]; rfl)
  | .not a, N, sc => funext fun e => by
    cases e <;> first | rfl | skip
    rename_i op x pos
    cases op <;> first | rfl | (show isT N sc (eT a) _ = _; rw [eqT a]; rfl)
theorem eqTs : ∀ (p : PTs) (N : List Str) (sc : Scope), isTs N sc (eTs p) = isTs N sc p
  | .nil, N, sc => rfl
  | .cons p ps, N, sc => funext fun e => by
    cases e <;> first | rfl | (show (isT N sc (eT p) _ && isTs N sc (eTs ps) _) = _; rw [eqT p, eqTs ps]; rfl)
theorem eqIt : ∀ (p : PIt) (N : List Str) (sc : Scope), isIt N sc (eIt p) = isIt N sc p
  | .ex a, N, sc => funext fun e => by show isX N sc (eX a) e = _; rw [eqX a]; rfl
  | .rng1 a, N, sc => funext fun e => by
    cases e <;> first | rfl | skip
    rename_i fn xs kw pos
    match xs, kw with
    | [], _ => rfl
    | [x], [] => show (_ && isX N sc (eX a) _) = _; rw [eqX a]; rfl
    | [x], _ :: _ => rfl
    | _ :: _ :: _, _ => rfl
  | .rng2 a b, N, sc => funext fun e => by
    cases e <;> first | rfl | skip
    rename_i fn xs kw pos
    match xs, kw with
    | [], _ => rfl
    | [x], _ => rfl
    | [x, y], [] => show (_ && isX N sc (eX a) _ && isX N sc (eX b) _) = _; rw [eqX a, eqX b]; rfl
    | [x, y], _ :: _ => rfl
    | _ :: _ :: _ :: _, _ => rfl
  | .rng3 a b c, N, sc => funext fun e => by
    cases e <;> first | rfl | skip
    rename_i fn xs kw pos
    match xs, kw with
    | [], _ => rfl
    | [x], _ => rfl
    | [x, y], _ => rfl
    | [x, y, z], [] => show (_ && isX N sc (eX a) _ && isX N sc (eX b) _ && isX N sc (eX c) _) = _; rw [eqX a, eqX b, eqX c]; rfl
    | [x, y, z], _ :: _ => rfl
    | _ :: _ :: _ :: _ :: _, _ => rfl
  | .enum a, N, sc => funext fun e => by
    cases e <;> first | rfl | skip
    rename_i fn xs kw pos
    match xs, kw with
    | [], _ => rfl
    | [x], [] => show (_ && isX N sc (eX a) _) = _; rw [eqX a]; rfl
    | [x], _ :: _ => rfl
    | _ :: _ :: _, _ => rfl
  | .zip a b, N, sc => funext fun e => by
    cases e <;> first | rfl | skip
    rename_i fn xs kw pos
    match xs, kw with
    | [], _ => rfl
    | [x], _ => rfl
    | [x, y], [] => show (_ && isX N sc (eX a) _ && isX N sc (eX b) _) = _; rw [eqX a, eqX b]; rfl
    | [x, y], _ :: _ => rfl
    | _ :: _ :: _ :: _, _ => rfl
  | .rev a, N, sc => funext fun e => by
    cases e <;> first | rfl | skip
    rename_i fn xs kw pos
    match xs, kw with
    | [], _ => rfl
    | [x], [] => show (_ && isX N sc (eX a) _) = _; rw [eqX a]; rfl
    | [x], _ :: _ => rfl
    | _ :: _ :: _, _ => rfl
  | .pr m w es, N, sc => funext fun e => by
    show (prB e && (match m N sc e with | some xs => isXs N sc (eXs es) xs | none => false)) = _
    rw [eqXs es]; rfl
  | .prt m w es, N, sc => funext fun e => by
    show (prB e && (match m N sc e with | some xs => isXs N sc (eXs es) xs | none => false)) = _
    rw [eqXs es]; rfl
theorem eqIf : ∀ (p : PIf) (N : List Str) (sc : Scope), isIf N sc (eIf p) = isIf N sc p
  | .nil, N, sc => rfl
  | .one t, N, sc => funext fun e => by
    match e with
    | [] => rfl
    | [x] => show isT N sc (eT t) x = _; rw [eqT t]; rfl
    | _ :: _ :: _ => rfl
end
mutual
theorem eqS : ∀ (p : St') (N : List Str) (sc : Scope), isS N sc (eS p) = isS N sc p
  | .asg i p, N, sc => by show (fun s => isS N sc (.asg i (eX p)) s) = _; unfold isS; rw [eqX p]; rfl
  | .asgT t p, N, sc => by show (fun s => isS N sc (.asgT t (eX p)) s) = _; unfold isS; rw [eqX p]; rfl
  | .sto a b p, N, sc => by show (fun s => isS N sc (.sto (eX a) (eX b) (eX p)) s) = _; unfold isS; rw [eqX p, eqX a, eqX b]; rfl
  | .fld cl a f p, N, sc => by show (fun s => isS N sc (.fld cl (eX a) f (eX p)) s) = _; unfold isS; rw [eqX p, eqX a]; rfl
  | .aug o i p, N, sc => by show (fun s => isS N sc (.aug o i (eX p)) s) = _; unfold isS; rw [eqX p]; rfl
  | .augF cl a f p, N, sc => by show (fun s => isS N sc (.augF cl (eX a) f (eX p)) s) = _; unfold isS; rw [eqX p, eqX a]; rfl
  | .ex p, N, sc => by show (fun s => isS N sc (.ex (eX p)) s) = _; unfold isS; rw [eqX p]; rfl
  | .ret p, N, sc => by show (fun s => isS N sc (.ret (eX p)) s) = _; unfold isS; rw [eqX p]; rfl
  | .retN, N, sc => rfl
  | .iff t a b, N, sc => by show (fun s => isS N sc (.iff (eT t) (eSs a) (eSs b)) s) = _; unfold isS; rw [eqT t, eqSs a, eqSs b]; rfl
  | .whl t b, N, sc => by show (fun s => isS N sc (.whl (eT t) (eSs b)) s) = _; unfold isS; rw [eqT t, eqSs b]; rfl
  | .for_ t it b, N, sc => by show (fun s => isS N sc (.for_ t (eIt it) (eSs b)) s) = _; unfold isS; rw [eqIt it, eqSs b]; rfl
  | .brk, N, sc => rfl
  | .cnt, N, sc => rfl
  | .pas, N, sc => rfl
  | .never, N, sc => rfl
  | .pr m w es, N, sc => funext fun e => by
    show (match m N sc e with | some xs => isXs N sc (eXs es) xs | none => false) = _
    rw [eqXs es]; rfl
theorem eqSs : ∀ (p : Sts) (N : List Str) (sc : Scope), isSs N sc (eSs p) = isSs N sc p
  | .nil, N, sc => rfl
  | .cons s ss, N, sc => funext fun e => by
    cases e <;> first | rfl | (show (isS N sc (eS s) _ && isSs N sc (eSs ss) _) = _; rw [eqS s, eqSs ss]; rfl)
  | .gh R ss, N, sc => funext fun e => by show isSs N sc (eSs ss) e = _; rw [eqSs ss]; rfl
  | .pin R ss, N, sc => funext fun e => by show isSs N sc (eSs ss) e = _; rw [eqSs ss]; rfl
end
theorem by_bare {N : List Str} {sc : Scope} {c c0 : Sts} {b : List Stmt} (e : eSs c = c0) (h : isSs N sc c0 b = true) : isSs N sc c b = true := by
  rw [← eqSs c N sc, e]; exact h
end VS
namespace VS
open PySem PySem.Spec PyProof.Rows L2
section
variable {M : Store} {Q : DK} {i j : Int} {s t : String} {a b : Bool} {xs ys : List D} {p : Addr} {x y : D}
theorem getS_z {σ : Env} {d : D} {P : D → Prop} : getS (some d :: σ) 0 P = P d := rfl
theorem getS_s {σ : Env} {o : Option D} {n : Nat} {P : D → Prop} : getS (o :: σ) (n + 1) P = getS σ n P := rfl
theorem w_add : wBin .add (.int i) (.int j) M Q = Q (.int (i + j)) M := rfl
theorem w_addS : wBin .add (.str s) (.str t) M Q = (s.length + t.length ≤ line ∧ Q (.str (s ++ t)) M) := rfl
theorem w_addT : wBin .add (.tup xs) (.tup ys) M Q = (xs.length + ys.length ≤ line ∧ Q (.tup (xs ++ ys)) M) := rfl
theorem w_addL : wBin .add (.lst xs) (.lst ys) M Q = (xs.length + ys.length ≤ line ∧ nuL (xs ++ ys) M Q) := rfl
theorem w_sub : wBin .sub (.int i) (.int j) M Q = Q (.int (i - j)) M := rfl
theorem w_mul : wBin .mul (.int i) (.int j) M Q = (CMul i j ∧ Q (.int (i * j)) M) := rfl
theorem w_mod : wBin .mod (.int i) (.int j) M Q = (0 < j ∧ Q (.int (i % j)) M) := rfl
theorem w_fdiv : wBin .fdiv (.int i) (.int j) M Q = ((0 < j ∧ j < 1073741824) ∧ Q (.int (i / j)) M) := rfl
theorem w_pow : wBin .pow (.int i) (.int j) M Q = ((0 ≤ j ∧ j ≤ 1000000 ∧ i.natAbs < 2 ^ 64) ∧ Q (.int (i ^ j.toNat)) M) := rfl
theorem w_eqI : wCmp .eq (.int i) (.int j) M Q = Q (.bl (decide (i = j))) M := rfl
theorem w_neI : wCmp .ne (.int i) (.int j) M Q = Q (.bl (!decide (i = j))) M := rfl
theorem w_eqS : wCmp .eq (.str s) (.str t) M Q = Q (.bl (decide (s = t))) M := rfl
theorem w_neS : wCmp .ne (.str s) (.str t) M Q = Q (.bl (!decide (s = t))) M := rfl
theorem w_eqB : wCmp .eq (.bl a) (.bl b) M Q = Q (.bl (decide (a = b))) M := rfl
theorem w_neB : wCmp .ne (.bl a) (.bl b) M Q = Q (.bl (!decide (a = b))) M := rfl
theorem w_lt : wCmp .lt (.int i) (.int j) M Q = Q (.bl (decide (i < j))) M := rfl
theorem w_le : wCmp .le (.int i) (.int j) M Q = Q (.bl (decide (i ≤ j))) M := rfl
theorem w_gt : wCmp .gt (.int i) (.int j) M Q = Q (.bl (decide (j < i))) M := rfl
theorem w_ge : wCmp .ge (.int i) (.int j) M Q = Q (.bl (decide (j ≤ i))) M := rfl
theorem w_is : wCmp .is_ x .non M Q = Q (.bl (isNon x)) M := rfl
theorem w_isn : wCmp .isn x .non M Q = Q (.bl (!isNon x)) M := rfl
theorem isNon_non : isNon .non = true := rfl
theorem isNon_int : isNon (.int i) = false := rfl
theorem isNon_str : isNon (.str s) = false := rfl
theorem isNon_bl : isNon (.bl a) = false := rfl
theorem isNon_tup : isNon (.tup xs) = false := rfl
theorem isNon_lst : isNon (.lst xs) = false := rfl
variable {P : Bool → Prop}
theorem w_truB : wTru (.bl a) M P = P a := rfl
theorem w_truI : wTru (.int i) M P = P (i != 0) := rfl
theorem w_truN : wTru .non M P = P false := rfl
theorem w_truL : wTru (.lst xs) M P = P (!xs.isEmpty) := rfl
theorem w_truT : wTru (.tup xs) M P = P (!xs.isEmpty) := rfl
theorem w_neg : wNeg (.int i) M Q = Q (.int (-i)) M := rfl
theorem w_int : wBi .int [.int i] M Q = Q (.int i) M := rfl
theorem w_abs : wBi .abs [.int i] M Q = Q (.int (if i < 0 then -i else i)) M := rfl
theorem w_lenL : wBi .len [.lst xs] M Q = Q (.int xs.length) M := rfl
theorem w_lenT : wBi .len [.tup xs] M Q = Q (.int xs.length) M := rfl
theorem w_lenS : wBi .len [.str s] M Q = (s.length ≤ line ∧ Q (.int s.length) M) := rfl
theorem w_tupL : wBi .tuple [.lst xs] M Q = Q (.tup xs) M := rfl
theorem w_rng1 : wBi .range1 [.int j] M Q = Q (.rng 0 j) M := rfl
theorem asS_ptr : asS M (.ptr p) = asL M (.ptr p) := rfl
theorem asL_ptr (h : M p = some (.lst xs)) : asL M (.ptr p) = some xs := by
  show (match M p with | some (.lst xs) => some xs | _ => none) = _; rw [h]
theorem w_lenP (h : M p = some (.lst xs)) : wBi .len [.ptr p] M Q = Q (.int xs.length) M := by
  show (match asS M (.ptr p) with | some xs => Q (.int xs.length) M | none => _) = _
  rw [asS_ptr, asL_ptr h]
theorem w_tupP (h : M p = some (.lst xs)) : wBi .tuple [.ptr p] M Q = Q (.tup xs) M := by
  show (match asS M (.ptr p) with | some xs => Q (.tup xs) M | none => False) = _
  rw [asS_ptr, asL_ptr h]
theorem w_truP (h : M p = some (.lst xs)) : wTru (.ptr p) M P = P (!xs.isEmpty) := by
  show (match asS M (.ptr p) with | some xs => P (!xs.isEmpty) | none => _) = _
  rw [asS_ptr, asL_ptr h]
theorem w_ixL (h : atI xs i = some x) : wIx (.lst xs) (.int i) M Q = Q x M := by
  show (match atI xs i with | some d => Q d M | none => False) = _; rw [h]
theorem w_ixT (h : atI xs i = some x) : wIx (.tup xs) (.int i) M Q = Q x M := by
  show (match atI xs i with | some d => Q d M | none => False) = _; rw [h]
theorem w_ixP (h : M p = some (.lst xs)) (hi : atI xs i = some x) : wIx (.ptr p) (.int i) M Q = Q x M := by
  show (match asS M (.ptr p), D.int i with | some xs, .int i => (match atI xs i with | some d => Q d M | none => False) | _, y => _) = _
  rw [asS_ptr, asL_ptr h]
  show (match atI xs i with | some d => Q d M | none => False) = _; rw [hi]
theorem w_stoP {Qs : Store → Prop} {k : Nat} (h : M p = some (.lst xs)) (hi : ixN xs.length i = some k) : wSto (.ptr p) (.int i) x M Qs = Qs (M.put p (.lst (xs.set k x))) := by
  show (match M p with | some (.lst xs) => (match ixN xs.length i with | some j => Qs (M.put p (.lst (xs.set j x))) | none => False) | some (.dic kvs) => _ | _ => False) = _
  rw [h]
  show (match ixN xs.length i with | some j => _ | none => False) = _
  rw [hi]
theorem w_app (h : M p = some (.lst xs)) : wMt .append (.ptr p) [x] M Q = (xs.length < line ∧ Q .non (M.put p (.lst (xs ++ [x])))) := by
  show (match M p with | some (.lst xs) => xs.length < line ∧ Q .non (M.put p (.lst (xs ++ [x]))) | _ => False) = _
  rw [h]
theorem w_appTy (h : M p = some (.lst xs)) : mtTy .append (.ptr p) M = true := by show (asL M (.ptr p)).isSome = true; rw [asL_ptr h]; rfl
variable {d0 d1 d2 d3 : D}
theorem at_0 : atI (d0 :: xs) 0 = some d0 := by unfold atI ixN; rw [if_pos (by decide), if_pos (by simp only [List.length_cons]; omega)]; rfl
theorem at_1 : atI (d0 :: d1 :: xs) 1 = some d1 := by unfold atI ixN; rw [if_pos (by decide), if_pos (by simp only [List.length_cons]; omega)]; rfl
theorem at_2 : atI (d0 :: d1 :: d2 :: xs) 2 = some d2 := by unfold atI ixN; rw [if_pos (by decide), if_pos (by simp only [List.length_cons]; omega)]; rfl
theorem at_3 : atI (d0 :: d1 :: d2 :: d3 :: xs) 3 = some d3 := by unfold atI ixN; rw [if_pos (by decide), if_pos (by simp only [List.length_cons]; omega)]; rfl
theorem ixN_nat {n k : Nat} (h : k < n) : ixN n (k : Int) = some k := by unfold ixN; rw [if_pos (by omega), if_pos (by omega)]; rfl
theorem atI_natD {α : Type} {xs : List α} {k : Nat} {x : α} (h : xs[k]? = some x) : atI xs (k : Int) = some x := by
  unfold atI
  rw [ixN_nat (List.getElem?_eq_some_iff.mp h).1]
  exact h
theorem if_tt {A B : Prop} : (match true with | true => A | false => B) = A := rfl
theorem if_ff {A B : Prop} : (match false with | true => A | false => B) = B := rfl
theorem py_str : py (.str s) = .str (Str.ofString s) := rfl
theorem eqv_str : PyData.eqv (py (.str s)) (py (.str t)) = decide (s = t) := by
  show (Str.ofString s == Str.ofString t) = _
  by_cases e : s = t
  · subst e; simp
  · rw [decide_eq_false e, beq_eq_false_iff_ne]; exact fun z => e (ofString_inj.mp z)
theorem strOk_of (s : String) : PyData.strOk (Str.ofString s) = true := by
  unfold PyData.strOk
  rw [← Array.all_toList, ofString_cps, List.all_map, List.all_eq_true]
  intro c _
  have h := c.valid
  show decide (c.toNat < 0x110000) = true
  refine decide_eq_true ?_
  have h' : c.val.toNat < 0xd800 ∨ (0xdfff < c.val.toNat ∧ c.val.toNat < 0x110000) := h
  show c.val.toNat < 0x110000
  omega
theorem shaped_str : SeqAt.shaped (py (.str s)) = true := by
  show (PyData.canLay0 (PyData.str _) && decide (PyData.depth (PyData.str _) ≤ 64)) = true
  simp [PyData.canLay0, PyData.depth, strOk_of]
theorem in_strs {P : Bool → Prop} (ss : List String) : wInB (.str s) (.tup (ss.map D.str)) M P = P (decide (s ∈ ss)) := by
  show (SeqAt.shaped (py (.str s)) = true ∧ ((ss.map D.str).all fun y => SeqAt.shaped (py y)) = true ∧ P ((ss.map D.str).any fun y => PyData.eqv (py y) (py (.str s)))) = _
  have e1 : ((ss.map D.str).all fun y => SeqAt.shaped (py y)) = true := by rw [List.all_map, List.all_eq_true]; intro x _; exact shaped_str
  have e2 : ((ss.map D.str).any fun y => PyData.eqv (py y) (py (.str s))) = decide (s ∈ ss) := by
    rw [List.any_map]
    induction ss with
    | nil => rfl
    | cons a r ih =>
      rw [List.any_cons, ih (by rw [List.all_map, List.all_eq_true]; intro x _; exact shaped_str)]
      show (PyData.eqv (py (.str a)) (py (.str s)) || _) = _
      rw [eqv_str]
      by_cases e : a = s
      · subst e; simp
      · have e' : ¬ s = a := fun z => e z.symm
        simp [e, e']
  rw [e1, e2]
  exact propext ⟨fun h => h.2.2, fun h => ⟨shaped_str, rfl, h⟩⟩
theorem w_in (ss : List String) : wCmp .in_ (.str s) (.tup (ss.map D.str)) M Q = Q (.bl (decide (s ∈ ss))) M := in_strs (M := M) (P := fun b => Q (.bl b) M) ss
theorem w_in2 {u : String} : wCmp .in_ (.str s) (.tup [.str t, .str u]) M Q = Q (.bl (decide (s ∈ [t, u]))) M := in_strs (M := M) (P := fun b => Q (.bl b) M) [t, u]
theorem w_in3 {u v : String} : wCmp .in_ (.str s) (.tup [.str t, .str u, .str v]) M Q = Q (.bl (decide (s ∈ [t, u, v]))) M := in_strs (M := M) (P := fun b => Q (.bl b) M) [t, u, v]
end
end VS
namespace VS
open PySem PySem.Spec PyProof.Rows L2
section
variable {M : Store} {Q : DK} {i j : Int} {s t : String} {a b : Bool} {xs ys : List D} {p : Addr} {x y : D}
theorem ty_non : isTyD M .non t = isTyK "NoneType" t := rfl
theorem ty_bl : isTyD M (.bl a) t = isTyK "bool" t := rfl
theorem ty_int : isTyD M (.int i) t = isTyK "int" t := rfl
theorem ty_str : isTyD M (.str s) t = isTyK "str" t := rfl
theorem ty_tup : isTyD M (.tup xs) t = isTyK "tuple" t := rfl
theorem ty_lst : isTyD M (.lst xs) t = isTyK "list" t := rfl
theorem tk1 : isTyK "NoneType" "list" = some false := by decide
theorem tk2 : isTyK "NoneType" "tuple" = some false := by decide
theorem tk3 : isTyK "bool" "list" = some false := by decide
theorem tk4 : isTyK "bool" "tuple" = some false := by decide
theorem tk5 : isTyK "int" "list" = some false := by decide
theorem tk6 : isTyK "int" "tuple" = some false := by decide
theorem tk7 : isTyK "str" "list" = some false := by decide
theorem tk8 : isTyK "str" "tuple" = some false := by decide
theorem tk9 : isTyK "tuple" "list" = some false := by decide
theorem tk10 : isTyK "tuple" "tuple" = some true := by decide
theorem tk11 : isTyK "list" "list" = some true := by decide
theorem tk12 : isTyK "list" "tuple" = some false := by decide
theorem tk13 : isTyK "bool" "bool" = some true := by decide
theorem tk14 : isTyK "int" "bool" = some false := by decide
theorem tk15 : isTyK "str" "bool" = some false := by decide
theorem tk16 : isTyK "bool" "str" = some false := by decide
theorem tk17 : isTyK "int" "str" = some false := by decide
theorem tk18 : isTyK "str" "str" = some true := by decide
theorem tk19 : isTyK "bool" "int" = some true := by decide
theorem tk20 : isTyK "int" "int" = some true := by decide
theorem lcGo_map {g : Store → Prop} {f : D → Store → (Option D → Store → Prop) → Prop} (I : Store → Prop) (φ : D → Option D) (hg : ∀ M, I M → g M) : ∀ (xs acc : List D) (M : Store) (Q : DK),
    (∀ x ∈ xs, ∀ M k, I M → (∀ M', I M' → k (φ x) M') → f x M k) → I M → (∀ M', I M' → nuL (acc ++ xs.filterMap φ) M' Q) → lcGo g f xs acc M Q
  | [], acc, M, Q, hf, hi, hq => ⟨hg M hi, by have := hq M hi; rwa [List.filterMap_nil, List.append_nil] at this⟩
  | x :: xs, acc, M, Q, hf, hi, hq => by
    refine ⟨hg M hi, hf x List.mem_cons_self M _ hi fun M' hi' => ?_⟩
    refine lcGo_map I φ hg xs _ M' Q (fun y hy => hf y (List.mem_cons_of_mem _ hy)) hi' fun M2 hi2 => ?_
    have := hq M2 hi2
    cases e : φ x with
    | none => rw [List.filterMap_cons_none e] at this; exact this
    | some y => rw [List.filterMap_cons_some e] at this; rw [List.append_assoc]; exact this
end
theorem all_bl {M : Store} {Q : DK} (bs : List Bool) (h : Q (.bl (bs.all id)) M) : wBi .all [.lst (bs.map D.bl)] M Q := ⟨bs, rfl, h⟩
theorem any_bl {M : Store} {Q : DK} (bs : List Bool) (h : Q (.bl (bs.any id)) M) : wBi .any [.lst (bs.map D.bl)] M Q := ⟨bs, rfl, h⟩
theorem sum_int {M : Store} {Q : DK} (bs : List Int) (h : Q (.int bs.sum) M) : wBi .sum [.lst (bs.map D.int)] M Q := ⟨bs, rfl, h⟩
theorem rng_mem {n : Nat} {x : D} (h : x ∈ rngD 0 (n : Int)) : ∃ k : Nat, k < n ∧ x = .int (k : Int) := by
  unfold rngD at h
  obtain ⟨k, hk, e⟩ := List.mem_map.mp h
  rw [List.mem_range] at hk
  exact ⟨k, by omega, by rw [← e, Int.zero_add]⟩
theorem filterMap_some {α β : Type} (f : α → β) (xs : List α) : xs.filterMap (fun x => some (f x)) = xs.map f := by
  show xs.filterMap (some ∘ f) = xs.map f
  rw [List.filterMap_eq_map]
theorem fn_none {G : Glob} {n k : Nat} {sp : Spec} {f : Addr} {fd : FuncData} {ps : List Str} (h : ∀ ds M Q E, ¬ sp ds M Q E) : FnOk G.prog G.w G.K G.mg G.base (VX.CX G.prog G.w) k f fd ps (toSp G n sp) := by
  have no : ∀ vs H Q E, ¬ toSp G n sp vs H Q E := fun vs H Q E ⟨ds, F, M, R, Qd, Ed, _, _, _, h', _⟩ => h ds M Qd Ed h'
  exact ⟨fun vs H Q E h => absurd h (no vs H Q E), fun A outer s H args us vs Q E _ _ _ _ h => absurd h (no vs H Q E)⟩
def plainD : Nat → D → Bool
  | 0, _ => false
  | _ + 1, .non => true
  | _ + 1, .bl _ => true
  | _ + 1, .int _ => true
  | _ + 1, .str _ => true
  | n + 1, .lst xs => decide (xs.length ≤ line) && xs.all (plainD n)
  | n + 1, .tup xs => decide (xs.length ≤ line) && xs.all (plainD n)
  | _ + 1, _ => false
def spSame (n : Nat) : Spec := fun ds M Q _ => ∃ x, ds = [x, x] ∧ plainD n x = true ∧ Q (.bl true) M
theorem bne_self (b : Bool) : (!decide (b = b)) = false := by simp
theorem forGo_inv {g : Store → Prop} {f : D → Env → Store → (Env → Store → Prop) → Prop} {nx : Env → Store → Prop} (I : Nat → Env → Store → Prop) (xs : List D) (hg : ∀ k σ M, I k σ M → g M)
    (hs : ∀ k x σ M nx, xs[k]? = some x → I k σ M → (∀ σ' M', I (k + 1) σ' M' → nx σ' M') → f x σ M nx) {σ : Env} {M : Store} (h0 : I 0 σ M) (hd : ∀ σ M, I xs.length σ M → nx σ M) : forGo g f xs σ M nx := by
  have go : ∀ (r : List D) (k : Nat) (σ : Env) (M : Store), xs.drop k = r → k + r.length = xs.length → I k σ M → forGo g f r σ M nx := by
    intro r
    induction r with
    | nil =>
      intro k σ M e hl hi
      exact ⟨hg k σ M hi, hd σ M (by rw [← hl]; exact hi)⟩
    | cons x r ih =>
      intro k σ M e hl hi
      refine ⟨hg k σ M hi, hs k x σ M _ ?_ hi fun σ' M' hi' => ih (k + 1) σ' M' ?_ ?_ hi'⟩
      · have := congrArg (fun l => l[0]?) e
        simpa using this
      · have := congrArg (fun l => l.drop 1) e
        simpa [List.drop_drop, Nat.add_comm] using this
      · rw [List.length_cons] at hl; omega
  exact go xs 0 σ M rfl (by omega) h0
theorem rng_at {n k : Nat} {x : D} (h : (rngD 0 (n : Int))[k]? = some x) : k < n ∧ x = .int (k : Int) := by
  obtain ⟨h1, h2⟩ := rngD_at h
  exact ⟨by omega, by rw [h2, Int.zero_add]⟩
theorem rng_len (n : Nat) : (rngD 0 (n : Int)).length = n := by rw [rngD_len]; omega
def frzG (i : Nat) : Ghost := fun σ M σ' M' => ∃ p xs, σ[i]? = some (some (.ptr p)) ∧ M p = some (.lst xs) ∧ σ' = σ.set i (some (.lst xs)) ∧ M' = M.del p
theorem frz_ok (G : Glob) (i : Nat) : GhOk G (frzG i) := fun σd M σd' M' R F σ H ⟨p, xs, h1, h2, h3, h4⟩ env g => by
  subst h3; subst h4
  obtain ⟨ho, hh, rm, gd, ex⟩ := g.frz h2
  refine ⟨_, ex, ?_, gd⟩
  obtain ⟨v, hv, rv⟩ := env.at_ i _ h1
  cases rv
  cases rm with
  | lst rl =>
    have rp : Rp G (upd F p (.lst _)) (.ref p) (.lst xs) := .lst upd_same (rl.mono ex)
    have e2 := (env.mono ex).set i rp
    have : σ.set i (some (.ref p)) = σ := by
      apply List.ext_getElem?
      intro j
      by_cases hj : i = j
      · subst hj
        rw [List.getElem?_set_self (List.getElem?_eq_some_iff.mp hv).1, hv]
      · rw [List.getElem?_set_ne hj]
    rw [this] at e2
    exact e2
theorem put_del {M : Store} {p : Addr} {o : MO} (h : M p = none) : (M.put p o).del p = M := by
  funext b; unfold Store.del Store.put
  by_cases e : b = p
  · subst e; rw [if_pos rfl, h]
  · rw [if_neg e, if_neg e]
def DrawAt (M : Store) (d : Addr) : Prop := ∃ cells : List Int, ∃ i p s : Int, M d = some (.lst [.lst (cells.map D.int), .int i, .int p, .int s]) ∧ 0 ≤ i ∧ 0 ≤ p ∧ 0 ≤ s ∧ s < 2147483648 ∧ cells.length ≤ 63
def spDraw : Spec := fun ds M Q _ => ∃ ns : List Int, ds = [.scr ns] ∧ ns.length ≤ 63 ∧ ∀ p M', M p = none → (∀ a, a ≠ p → M' a = M a) → DrawAt M' p → Q (.ptr p) M'
def spNext : Spec := fun ds M Q _ => ∃ (d : Addr) (m : Int), ds = [.ptr d, .int m] ∧ 0 < m ∧ m < 1000000 ∧ DrawAt M d ∧ ∀ r M', 0 ≤ r → r < m → DrawAt M' d → (∀ a, a ≠ d → M' a = M a) → Q (.int r) M'
def rdA := And.intro @getS_z (And.intro @getS_s (And.intro @ty_non (And.intro @ty_bl (And.intro @ty_int (And.intro @ty_str (And.intro @ty_tup (And.intro @ty_lst (And.intro @tk1 (And.intro @tk2 (And.intro @tk3 (And.intro @tk4 (And.intro @tk5 (And.intro @tk6 (And.intro @tk7 (And.intro @tk8 (And.intro @tk9 (And.intro @tk10 (And.intro @tk11 (And.intro @tk12 (And.intro @tk13 (And.intro @tk14 (And.intro @tk15 (And.intro @tk16 (And.intro @tk17 (And.intro @tk18 (And.intro @tk19 (And.intro @tk20 (And.intro @w_truB (And.intro @w_truI (And.intro @w_truN (And.intro @w_truL (And.intro @w_truT (And.intro @w_is (And.intro @w_isn (And.intro @isNon_non (And.intro @isNon_bl (And.intro @isNon_int (And.intro @isNon_str (And.intro @isNon_lst (And.intro @isNon_tup (And.intro @w_add (And.intro @w_addS (And.intro @w_addT (And.intro @w_addL (And.intro @w_sub (And.intro @w_mul (And.intro @w_mod (And.intro @w_fdiv (And.intro @w_pow (And.intro @w_neg (And.intro @w_eqI (And.intro @w_neI (And.intro @w_eqS (And.intro @w_neS (And.intro @w_eqB (And.intro @w_neB (And.intro @w_lt (And.intro @w_le (And.intro @w_gt (And.intro @w_ge (And.intro @w_int (And.intro @w_abs (And.intro @w_lenL (And.intro @w_lenT (And.intro @w_lenS (And.intro @w_tupL (And.intro @w_rng1 (And.intro @w_in2 @w_in3))))))))))))))))))))))))))))))))))))))))))))))))))))))))))))))))))))
end VS
namespace VS
open PySem PySem.Spec PyProof.Rows L2
structure DefAt (G : Glob) (x : String) (st : Stmt) (ps : List Str) (f : Addr) (fd : FuncData) : Prop where
  fn : L2.Fun G.K (Str.ofString x) (Str.ofString x) st f fd
  bd : Binds G.K fd ps []
  mg : G.mg (Str.ofString x) = some (.ref f)
theorem DefAt.at {G : Glob} {x : String} {st : Stmt} {ps : List Str} {f : Addr} {fd : FuncData} {k n : Nat} {sp : Spec} (d : DefAt G x st ps f fd) (ok : FnOk G.prog G.w G.K G.mg G.base (VX.CX G.prog G.w) k f fd ps (toSp G n sp)) : FnFor G k x n sp :=
  ⟨f, fd, ps, ok, d.mg, d.fn.kp, d.bd⟩
theorem FnFor.mono {G : Glob} {x : String} {j k n : Nat} {sp : Spec} (h : j ≤ k) (F : FnFor G j x n sp) : FnFor G k x n sp := by
  obtain ⟨f, fd, ps, ok, a, b, c⟩ := F.ex
  exact ⟨f, fd, ps, ok.mono h, a, b, c⟩
theorem DefAt.ok {G : Glob} {x : String} {st : Stmt} {ps : List Str} {f : Addr} {fd : FuncData} {N : List Str} {k : Nat} {sp : Spec} (d : DefAt G x st ps f fd) (c : Sts) (S : FnScope N ps (defScope st))
    (hm : isSs N (defScope st) c (defBody st) = true) (ok : okSs G k c) (hsp : ∀ ds M Q E, ds.length = ps.length → sp ds M Q E → dSs E c { nx := fun _ M' => Q .non M', rt := Q } (startD N.length ds) M) : FnFor G (k + 1) x ps.length sp :=
  d.at (def_ok c d.fn S hm ok hsp)
theorem DefAt.none {G : Glob} {x : String} {st : Stmt} {ps : List Str} {f : Addr} {fd : FuncData} {k n : Nat} {sp : Spec} (d : DefAt G x st ps f fd) (h : ∀ ds M Q E, ¬ sp ds M Q E) : FnFor G k x n sp := d.at (fn_none h)
def spTop (K : PySem.W.Frag) : Sp := fun vs H Q _ => ∃ (a : Addr) (ns : List Int), vs = [.ref a] ∧ SqL K H a (ns.map V.int) ∧ ns.length ≤ 63 ∧ ∀ H', Q (.bl true) H'
theorem top_ok {G : Glob} {k : Nat} {f : Addr} {fd : FuncData} {x : Str} {sp : Spec} (F : FnOk G.prog G.w G.K G.mg G.base (VX.CX G.prog G.w) k f fd [x] (toSp G 1 sp))
    (h : ∀ (ns : List Int) (Q : DK), ns.length ≤ 63 → (∀ M', Q (.bl true) M') → sp [.scr ns] (fun _ => none) Q X0) : FnOk G.prog G.w G.K G.mg G.base (VX.CX G.prog G.w) k f fd [x] (spTop G.K) :=
  F.imp fun vs H Q E ⟨a, ns, e, hS, hl, q⟩ => ⟨[.scr ns], H, fun _ => none, fun _ => none, fun d _ => d = .bl true, X0, rfl, ⟨Ex.refl H, fun _ _ h => (by cases h), fun _ _ h => (by cases h)⟩, (by subst e; exact .cons (.scr hS) .nil), h ns _ hl (fun _ => rfl), fun d M' v F' H' qd _ _ r => (by subst qd; cases r; exact q H'), fun c fs M' F' H' C hc => hc.elim⟩
theorem cx_none {P : Program} {w : World} {H : Hp} {s : Shared} {e : Value} {s' : Shared} (h : VX.CX P w [] H s (fun _ _ _ => False) e s') : False := by
  obtain ⟨_, _, _, _, _, _, _, _, _, _, _, _, _, _, _, z⟩ := h
  exact z
end VS
namespace VS
open PySem PySem.Spec PyProof.Rows L2
theorem Good.side {G : Glob} {R F H : Hp} {M : Store} {p : Addr} {o : HO} (g : Good G R F H M) (h : H p = none) : Good G R F (upd H p o) M := by
  obtain ⟨hm, hf, hr⟩ := g.fresh h
  refine ⟨fun a u q => ?_, fun a mo q => ?_, fun a u q => ?_⟩
  · rw [upd_ne (fun e => by subst e; rw [hf] at q; cases q)]; exact g.ex a u q
  · obtain ⟨z1, ho, z2, z3⟩ := g.mt a mo q
    exact ⟨z1, ho, by rw [upd_ne (fun e => by subst e; rw [hm] at q; cases q)]; exact z2, z3⟩
  · obtain ⟨z1, z2, z3⟩ := g.rs a u q
    exact ⟨z1, z2, by rw [upd_ne (fun e => by subst e; rw [hr] at q; cases q)]; exact z3⟩
def mrCall (x : String) : Mr := fun _ sc e => match e with | .Call fn xs [] _ => if isBi sc x fn = true then some xs else none | _ => none
theorem mrCall_shape {x : String} {N : List Str} {sc : Scope} {e : Expr} {xs : List Expr} (h : mrCall x N sc e = some xs) : ∃ p pos, e = .Call (.Name (Str.ofString x) p) xs [] pos ∧ glB sc (Str.ofString x) = true := by
  cases e <;> first | (cases h; done) | skip
  rename_i fn ys kws pos
  cases kws with
  | cons _ _ => cases h
  | nil =>
    have h' : (if isBi sc x fn = true then some ys else none) = some xs := h
    split at h'
    · rename_i hb
      cases h'
      obtain ⟨p, rfl, hg⟩ := bi_shape hb
      exact ⟨p, pos, rfl, hg⟩
    · cases h'
theorem all_pa {C : Cq} {X : Cx} (K : Ctx C X) : ∀ {es : PXs}, AllPE C X es → PAs C X es
  | .nil, _ => a_nil K
  | .cons _ _, h => a_cons K h.1 (all_pa K h.2)
structure MkFor (G : Glob) (k : Nat) (cl : String) (n : Nat) (sp : Spec) : Prop where
  ex : ∃ (j : Nat) (C f : Addr) (fd : FuncData) (names : List Str), j + 1 ≤ k ∧ G.mg (Str.ofString cl) = some (.ref C) ∧ Mk G.K C f ∧ FnOk G.prog G.w G.K G.mg G.base (VX.CX G.prog G.w) j f fd names (toSp G n sp) ∧ Binds G.K fd names []
def mkW (cl : String) (sp : Spec) : Spec := fun ds M Q E => ∀ p, M p = none → sp (.ptr p :: ds) (M.put p (.inst cl [])) (fun d M' => d = .non ∧ Q (.ptr p) M') E
theorem pr_make {G : Glob} {k n : Nat} {cl : String} {sp : Spec} (o : MkFor G k cl (n + 1) sp) : PrF G k (mrCall cl) (mkW cl sp) n := ⟨fun {C X} K hG hk {es e xs} hl hp hm hx ha => by
  subst hG; subst hk
  obtain ⟨p, pos, rfl, hg⟩ := mrCall_shape hm
  obtain ⟨g1, g2⟩ := gl_of hg
  obtain ⟨j, Ca, fa, fd, names, hj, hmg, mk, F0, hb⟩ := o.ex
  have F1 : FnOk X.prog X.w X.K X.mg X.base (VX.CX X.prog X.w) j fa fd names (toSp C.G (n + 1) sp) := by
    rw [K.g.prog, K.g.w, K.g.K, K.g.mg, K.g.base]; exact F0
  have mk1 : Mk X.K Ca fa := by rw [K.g.K]; exact mk
  have hb1 : Binds X.K fd names [] := by rw [K.g.K]; exact hb
  have hm1 : X.mg (Str.ofString cl) = some (.ref Ca) := by rw [K.g.mg]; exact hmg
  have go : ∀ {σd M R F Qd σ H} {ds : List D} {M1 : Store} {vs : List V} {F1 H1 : Hp} {Q : VK}, SR C σd M R F σ H → Wish C.G R F Qd Q → ds.length = n → mkW cl sp ds M1 Qd C.E → Ex F F1 → Good C.G R F1 H1 M1 → RpL C.G F1 vs ds →
      ∀ x dx, H1 x = none → H1 dx = none → dx ≠ x → toSp C.G (n + 1) sp (.ref x :: (vs ++ [])) (upd (upd H1 dx (.own x)) x (.ins Ca dx [])) (fun v H2 => v = .non ∧ Q (.ref x) H2) (excK C) :=
    fun {σd M R F Qd σ H ds M1 vs F1 H1 Q} s w hn q1 e1 g1 r1 x dx hx hdx hne => by
      have gs : Good C.G R F1 (upd H1 dx (.own x)) M1 := g1.side hdx
      have hx2 : upd H1 dx (HO.own x) x = none := by rw [upd_ne (Ne.symm hne)]; exact hx
      have g2 : Good C.G R F1 (upd (upd H1 dx (.own x)) x (.ins Ca dx [])) (M1.put x (.inst cl [])) := gs.newM hx2 (.inst hmg .nil)
      rw [List.append_nil]
      refine ⟨.ptr x :: ds, F1, M1.put x (.inst cl []), R, fun d M' => d = .non ∧ Qd (.ptr x) M', C.E, congrArg (· + 1) hn, g2, .cons (.ptr x) r1, q1 x (g1.fresh hx).1, fun d M' v F' H' q' e' g' r' => ?_, wishX_of K (s.step e1 g1)⟩
      obtain ⟨rfl, q'⟩ := q'
      cases r'
      exact ⟨rfl, w _ _ _ F' H' q' (e1.trans e') g' (.ptr x)⟩
  match xs, hx with
  | [], hx =>
    have hes : es = .nil := by
      cases es with
      | nil => rfl
      | cons _ _ => exact absurd hx Bool.false_ne_true
    subst hes
    refine PE.imp (pe_make0 mk1 F1 (K.room.mono hj) g1 hm1 hb1 .nil K.pass g2) fun σ H Q ⟨σd, M, R, F, Qd, s, q, w⟩ => ?_
    exact go (ds := []) (vs := []) s w (by rw [← hl]; rfl) q (Ex.refl F) s.good .nil
  | x :: xs, hx =>
    obtain ⟨p1, p2⟩ := one_arg K hx
    refine PE.imp (pe_make mk1 F1 (K.room.mono hj) g1 hm1 hb1 .nil K.pass (all_pa K ha _ hx) g2 (star_of p1) (p2 _)) fun σ H Q ⟨σd, M, R, F, Qd, s, q, w⟩ => ?_
    refine ⟨σd, M, R, F, _, s, q, fun ds M1 vs F1 H1 hn q1 e1 g1 r1 => ?_⟩
    exact go s w (by rw [hn, hl]) q1 e1 g1 r1⟩
def mrM1 (m : String) : Mr := fun _ _ e => match e with
  | .Call (.Attribute o nm apos) [x] [] cpos => if ((apos.endLine == cpos.line) && noSup o && decide (nm = Str.ofString m)) = true then some [o, x] else none
  | _ => none
theorem mrM1_shape {m : String} {N : List Str} {sc : Scope} {e : Expr} {xs : List Expr} (h : mrM1 m N sc e = some xs) : ∃ o x apos cpos, e = .Call (.Attribute o (Str.ofString m) apos) [x] [] cpos ∧ xs = [o, x] ∧ (apos.endLine == cpos.line) = true ∧ noSup o = true := by
  unfold mrM1 at h
  split at h
  · rename_i o nm apos x cpos
    split at h
    · rename_i hb
      cases h
      obtain ⟨hb, h3⟩ := and_of hb
      obtain ⟨h1, h2⟩ := and_of hb
      have e4 := of_decide_eq_true h3
      subst e4
      exact ⟨o, x, apos, cpos, rfl, rfl, h1, h2⟩
    · cases h
  · cases h
theorem two_of {C : Cq} {X : Cx} {es : PXs} {x y : Expr} (h : isXs X.N X.env.scope es [x, y] = true) (ha : AllPE C X es) : ∃ a b, es = .cons a (.cons b .nil) ∧ isX X.N X.env.scope a x = true ∧ isX X.N X.env.scope b y = true ∧ PEs C X a ∧ PEs C X b := by
  match es, h, ha with
  | .nil, h, _ => exact absurd h Bool.false_ne_true
  | .cons a .nil, h, _ => exact absurd (and_of (show (isX X.N X.env.scope a x && false) = true from h)).2 Bool.false_ne_true
  | .cons a (.cons b .nil), h, ha =>
    obtain ⟨h1, h2⟩ := and_of (show (isX X.N X.env.scope a x && (isX X.N X.env.scope b y && true)) = true from h)
    exact ⟨a, b, rfl, h1, (and_of h2).1, ha.1, ha.2.1⟩
  | .cons a (.cons b (.cons c d)), h, _ =>
    obtain ⟨h1, h2⟩ := and_of (show (isX X.N X.env.scope a x && (isX X.N X.env.scope b y && false)) = true from h)
    exact absurd (and_of h2).2 Bool.false_ne_true
def gdS : Gd := fun i d _ => match i with | 0 => ∃ a, d = .str a | _ => True
theorem pg_m1 {G : Glob} {k : Nat} {id m : String} {r : V → List V → Hp → VK → Prop} {w : Spec} (slot : Slot "str" (Str.ofString m) id) (ty : typeOf (.builtin id) = pure (.type "method_descriptor")) (rule : ∀ X : Cx, X.K = G.K → MtR X id r)
    (hr : ∀ {R F H : Hp} {M : Store} {v : V} {s : String} {d : D} {Qd : DK} {E : XP} {Q : VK}, Good G R F H M → Rp G F v d → w [.str s, d] M Qd E → Wish G R F Qd Q → r (.str (Str.ofString s)) [v] H Q) : PgF G k (mrM1 m) gdS w 2 := ⟨fun {C X} K hG hk {es e xs} hl hp hm hx ha => by
  subst hG; subst hk
  obtain ⟨o, x, apos, cpos, rfl, rfl, h1, h2⟩ := mrM1_shape hm
  obtain ⟨a, b, rfl, i1, i2, p1, p2⟩ := two_of hx ha
  have S : starEach [x] X.env = [(false, eval x X.env)] := star_of (es := []) (isX_plain i2)
  refine PE.imp (pe_m1 slot ty (rule X K.g.K) (p1 _ i1) (p2 _ i2) S (base_of h2 _ _) h1) fun σ H Q ⟨σd, M, R, F, Qd, s, q, w'⟩ => ?_
  refine ⟨σd, M, R, F, _, s, q, fun d M1 v F1 H1 q1 e1 g1 r1 => ?_⟩
  obtain ⟨⟨t, rfl⟩, q1⟩ := q1
  cases r1
  refine ⟨⟨_, rfl⟩, σd, M1, R, F1, _, s.step e1 g1, q1, fun d2 M2 v2 F2 H2 q2 e2 g2 r2 => ?_⟩
  exact hr g2 r2 q2.2 (w'.mono (e1.trans e2))⟩
def endB (s t : String) : Bool := decide (t.toList <:+ s.toList)
def endW : Spec := fun ds M Q _ => ∃ s t, ds = [.str s, .str t] ∧ Q (.bl (endB s t)) M
theorem ends_str (s t : String) : Txt.endswith (Str.ofString s) (Str.ofString t) = endB s t := by
  have ls := ofString_len s
  have lt := ofString_len t
  have cs : (Str.ofString s).cps.toList = s.toList.map Char.toNat := ofString_cps s
  have ct : (Str.ofString t).cps.toList = t.toList.map Char.toNat := ofString_cps t
  have hs : s.toList.length = s.length := String.length_toList
  have ht : t.toList.length = t.length := String.length_toList
  show (decide (0 + (Str.ofString t).length ≤ (Str.ofString s).length) && ((Str.ofString s).cps.extract ((Str.ofString s).length - (Str.ofString t).length) ((Str.ofString s).length - (Str.ofString t).length + (Str.ofString t).length) == (Str.ofString t).cps)) = endB s t
  rw [ls, lt]
  unfold endB
  by_cases hl : t.length ≤ s.length
  · have e1 : decide (0 + t.length ≤ s.length) = true := decide_eq_true (by omega)
    rw [e1, Bool.true_and]
    have key : ((Str.ofString s).cps.extract (s.length - t.length) (s.length - t.length + t.length) == (Str.ofString t).cps) = decide ((s.toList.drop (s.length - t.length)) = t.toList) := by
      have ex : ((Str.ofString s).cps.extract (s.length - t.length) (s.length - t.length + t.length)).toList = (s.toList.drop (s.length - t.length)).map Char.toNat := by
        rw [Array.toList_extract, cs, List.extract_eq_drop_take, List.map_drop]
        apply List.take_of_length_le
        rw [List.length_drop, List.length_map, hs]; omega
      by_cases h : s.toList.drop (s.length - t.length) = t.toList
      · rw [decide_eq_true h, beq_iff_eq]
        apply Array.toList_inj.mp
        rw [ex, ct, h]
      · rw [decide_eq_false h, beq_eq_false_iff_ne]
        intro z
        apply h
        have z2 := congrArg Array.toList z
        rw [ex, ct] at z2
        exact map_toNat_inj z2
    rw [key]
    congr 1
    rw [List.suffix_iff_eq_drop, hs, ht]
    exact propext ⟨fun e => e.symm, fun e => e.symm⟩
  · have e1 : decide (0 + t.length ≤ s.length) = false := decide_eq_false (by omega)
    rw [e1, Bool.false_and]
    symm
    apply decide_eq_false
    intro z
    have := z.length_le
    rw [hs, ht] at this
    exact hl this
theorem pg_ends {G : Glob} {k : Nat} : PgF G k (mrM1 "endswith") gdS endW 2 :=
  pg_m1 PySem.F.slot_str_endswith PySem.F.type_str_endswith (fun X _ => mt_endswith) fun {R F H M v s d Qd E Q} g r ⟨s', t, e, q⟩ w => by
    injection e with e1 e2
    injection e1 with e1
    injection e2 with e2 _
    subst e1; subst e2
    cases r
    exact ⟨_, _, rfl, rfl, by rw [ends_str]; exact w.at g (.bl _) q⟩
def joinS (a : String) : List String → String
  | [] => ""
  | [x] => x
  | x :: y :: r => x ++ a ++ joinS a (y :: r)
def joinW : Spec := fun ds M Q _ => ∃ s d ss, ds = [.str s, d] ∧ asL M d = some (ss.map D.str) ∧ (ss.map String.length).sum + ss.length * s.length ≤ 16777216 ∧ Q (.str (joinS s ss)) M
theorem join_str (a : String) : ∀ ss : List String, Str.ofString (joinS a ss) = Txt.join (Str.ofString a) (ss.map Str.ofString) := fun ss => by
  rw [TL.join_eq]
  induction ss with
  | nil => rfl
  | cons x r ih =>
    cases r with
    | nil => rfl
    | cons y r =>
      show Str.ofString (x ++ a ++ joinS a (y :: r)) = Str.ofString x ++ Str.ofString a ++ Str.join (Str.ofString a) ((y :: r).map Str.ofString)
      rw [ofString_append, ofString_append, ih]
theorem pg_join {G : Glob} {k : Nat} : PgF G k (mrM1 "join") gdS joinW 2 :=
  pg_m1 (r := fun x xs H Q => ∃ a p, ∃ ys : List Str, x = .str a ∧ xs = [.ref p] ∧ (SqL G.K H p (ys.map V.str) ∨ SqT G.K H p (ys.map V.str)) ∧ (ys.map (·.length)).sum + ys.length * a.length ≤ 16777216 ∧ Q (.str (Txt.join a ys)) H) PySem.F.slot_str_join PySem.F.type_str_join (fun X e => by rw [← e]; exact mt_join) fun {R F H M v s d Qd E Q} g r ⟨s', d', ss, e, ha, hl, q⟩ w => by
    injection e with e1 e2
    injection e1 with e1
    injection e2 with e2 _
    subst e1; subst e2
    obtain ⟨a, vs, rfl, hH, rl⟩ := asL_rp g r ha
    have ev := rl.of_strs
    subst ev
    refine ⟨_, a, ss.map Str.ofString, rfl, rfl, .inl ?_, ?_, ?_⟩
    · rw [List.map_map]; exact SqL.of hH
    · rw [List.map_map, List.length_map, ofString_len]
      have : (fun x : Str => x.length) ∘ Str.ofString = String.length := funext fun x => ofString_len x
      rw [this]; exact hl
    · rw [← join_str]; exact w.at g (.str _) q
def txD : D → String
  | .str s => s | .int i => toString i | _ => ""
def matchF : List (Option String) → List Expr → Option (List Expr)
  | [], vs => match vs with | [] => some [] | _ => none
  | some s :: ps, vs => match vs with | .Constant (.str t) _ _ :: vs => if t = Str.ofString s ∧ s.length ≤ 1000000 then matchF ps vs else none | _ => none
  | none :: ps, vs => match vs with | .FormattedValue e (-1) none _ :: vs => (match matchF ps vs with | some xs => some (e :: xs) | none => none) | _ => none
def fillF : List (Option String) → List D → String
  | [], _ => ""
  | some s :: ps, ds => s ++ fillF ps ds
  | none :: ps, [] => fillF ps []
  | none :: ps, d :: ds => txD d ++ fillF ps ds
def mrF (ps : List (Option String)) : Mr := fun _ _ e => match e with
  | .JoinedStr (v1 :: v2 :: r) _ => if ps.length ≤ 10 then matchF ps (v1 :: v2 :: r) else none
  | _ => none
def gdF : Gd := fun _ d _ => (∃ s, d = .str s ∧ s.length ≤ 1000000) ∨ ∃ i : Int, d = .int i ∧ i.natAbs.log2 < 1920 ∧ (toString i).length ≤ 1000000
def fW (ps : List (Option String)) : Spec := fun ds M Q _ => Q (.str (fillF ps ds)) M
theorem str_append_assoc (a b c : String) : a ++ b ++ c = a ++ (b ++ c) := String.append_assoc
theorem pj_all {C : Cq} {X : Cx} (K : Ctx C X) : ∀ (ps : List (Option String)) (vs : List Expr) (xs : List Expr) (es : PXs), matchF ps vs = some xs → isXs X.N X.env.scope es xs = true → AllPE C X es → ∃ ts, PJ X vs ts ∧
    ∀ (i : Nat) (acc : String) (σ : L2.St) (H : Hp) (Qs : Str → Hp → Prop) (σd : Env) (M : Store) (R F : Hp) (QL : List D → Store → Prop), SR C σd M R F σ H → acc.length + 1000000 * ps.length ≤ 16777216 → dEg C.E gdF i es σd M QL →
      (∀ ds M' F' H', QL ds M' → Ex F F' → Good C.G R F' H' M' → Qs (Str.ofString (acc ++ fillF ps ds)) H') → tJs ts (Str.ofString acc) σ H Qs
  | [], vs, xs, es, hm, hx, _ => by
    cases vs with
    | cons _ _ => cases hm
    | nil =>
      cases hm
      cases es with
      | cons _ _ => exact absurd hx Bool.false_ne_true
      | nil =>
        refine ⟨[], .nil, fun i acc σ H Qs σd M R F QL s hl q w => ?_⟩
        have := w [] M F H q (Ex.refl F) s.good
        rw [show fillF [] [] = "" from rfl, String.append_empty] at this
        exact this
  | some c :: ps, vs, xs, es, hm, hx, ha => by
    have line_is : sizeLine = 16777216 := line_eq
    unfold matchF at hm
    split at hm
    · rename_i t j pos vs'
      split at hm
      · rename_i hc
        obtain ⟨rfl, cl⟩ := hc
        obtain ⟨ts, pj, rd⟩ := pj_all K ps vs' xs es hm hx ha
        refine ⟨_, .cons pe_str pj, fun i acc σ H Qs σd M R F QL s hl q w => ?_⟩
        rw [List.length_cons] at hl
        have la : (acc ++ c).length = acc.length + c.length := String.length_append acc c
        refine ⟨_, rfl, ?_, ?_⟩
        · rw [← ofString_append, ofString_len, la, line_is]; omega
        · rw [← ofString_append]
          refine rd i (acc ++ c) σ H Qs σd M R F QL s (by rw [la]; omega) q fun ds M' F' H' q' e' g' => ?_
          have := w ds M' F' H' q' e' g'
          rw [str_append_assoc]
          exact this
      · cases hm
    · cases hm
  | none :: ps, vs, xs, es, hm, hx, ha => by
    have line_is : sizeLine = 16777216 := line_eq
    unfold matchF at hm
    split at hm
    · rename_i e pos vs'
      split at hm
      · rename_i xs' hm'
        cases hm
        cases es with
        | nil => exact absurd hx Bool.false_ne_true
        | cons p es =>
          obtain ⟨h1, h2⟩ := and_of (show (isX X.N X.env.scope p e && isXs X.N X.env.scope es xs') = true from hx)
          obtain ⟨ts, pj, rd⟩ := pj_all K ps vs' xs' es hm' h2 ha.2
          refine ⟨_, .cons (pe_fmt (ha.1 _ h1)) pj, fun i acc σ H Qs σd M R F QL s hl q w => ?_⟩
          rw [List.length_cons] at hl
          refine ⟨σd, M, R, F, _, s, q, fun d M1 v F1 H1 q1 e1 g1 r1 => ?_⟩
          obtain ⟨gd, q1⟩ := q1
          have step : ∀ t : String, txD d = t → t.length ≤ 1000000 → (Str.ofString acc ++ Str.ofString t).length ≤ sizeLine ∧ tJs ts (Str.ofString acc ++ Str.ofString t) σ H1 Qs := fun t et tl => by
            have la : (acc ++ t).length = acc.length + t.length := String.length_append acc t
            rw [← ofString_append, ofString_len, la, line_is]
            refine ⟨by omega, rd (i + 1) (acc ++ t) σ H1 Qs σd M1 R F1 _ (s.step e1 g1) (by rw [la]; omega) q1 fun ds M' F' H' q' e' g' => ?_⟩
            have := w (d :: ds) M' F' H' q' (e1.trans e') g'
            rw [show fillF (none :: ps) (d :: ds) = txD d ++ fillF ps ds from rfl, et] at this
            rw [str_append_assoc]
            exact this
          rcases gd with ⟨t, rfl, tl⟩ | ⟨i, rfl, i1, i2⟩
          · cases r1
            obtain ⟨z1, z2⟩ := step _ rfl tl
            exact .inl ⟨_, rfl, by rw [ofString_len, line_is]; omega, _, rfl, z1, z2⟩
          · cases r1
            obtain ⟨z1, z2⟩ := step _ rfl i2
            exact .inr ⟨_, rfl, i1, _, rfl, z1, z2⟩
      · cases hm
    · cases hm
theorem pg_f {G : Glob} {k n : Nat} (ps : List (Option String)) : PgF G k (mrF ps) gdF (fW ps) n := ⟨fun {C X} K hG hk {es e xs} hl hp hm hx ha => by
  unfold mrF at hm
  split at hm
  · rename_i v1 v2 r pos
    split at hm
    · rename_i h10
      obtain ⟨ts, pj, rd⟩ := pj_all K ps _ xs es hm hx ha
      refine PE.imp (pe_joined pj) fun σ H Q ⟨σd, M, R, F, Qd, s, q, w⟩ => ?_
      refine rd 0 "" σ H _ σd M R F _ s (by show 0 + _ ≤ _; omega) q fun ds M' F' H' q' e' g' => ?_
      rw [String.empty_append]
      exact w _ _ _ F' H' q' e' g' (.str _)
    · cases hm
  · cases hm⟩
def dispB : List (String × String) → List (Option Expr) → List Expr → Bool
  | [], ks, vs => ks.isEmpty && vs.isEmpty
  | (a, b) :: r, ks, vs => match ks, vs with
    | some (.Constant (.str x) _ _) :: ks, .Constant (.str y) _ _ :: vs => decide (x = Str.ofString a) && decide (y = Str.ofString b) && dispB r ks vs
    | _, _ => false
def mrD (l : List (String × String)) : Mr := fun _ _ e => match e with
  | .Dict ks vs _ => if (dispB l ks vs && !l.isEmpty && decide (l.length ≤ 15)) = true then some [] else none
  | _ => none
def dispD (l : List (String × String)) : List (D × D) := l.foldl (fun acc e => putD (.str e.1) (.str e.2) acc) []
def dW (l : List (String × String)) : Spec := fun _ M Q _ => Q (.dic (dispD l)) M ∨ ∀ p, M p = none → Q (.ptr p) (M.put p (.dic (dispD l)))
theorem disp_pps {X : Cx} {pos : Pos} : ∀ (l : List (String × String)) {ks : List (Option Expr)} {vs : List Expr}, dispB l ks vs = true → ks.all (·.isSome) = true ∧ ks.length = vs.length ∧ ks.length = l.length ∧
    ∃ trs, PPs X pos ks vs trs ∧ ∀ σ H (Q : List (V × V) → Hp → Prop), Q (l.map fun e => (V.str (Str.ofString e.1), V.str (Str.ofString e.2))) H → tPairs trs σ H Q
  | [], ks, vs, h => by
    obtain ⟨h1, h2⟩ := and_of (show (ks.isEmpty && vs.isEmpty) = true from h)
    obtain rfl := List.isEmpty_iff.mp h1
    obtain rfl := List.isEmpty_iff.mp h2
    exact ⟨rfl, rfl, rfl, [], pps_nil, fun σ H Q q => q⟩
  | (a, b) :: r, ks, vs, h => by
    unfold dispB at h
    split at h
    · rename_i x _ _ ks' y _ _ vs'
      obtain ⟨h, h3⟩ := and_of h
      obtain ⟨h1, h2⟩ := and_of h
      obtain rfl := of_decide_eq_true h1
      obtain rfl := of_decide_eq_true h2
      obtain ⟨i1, i2, i3, trs, i4, i5⟩ := disp_pps r h3
      refine ⟨by rw [List.all_cons, i1]; rfl, by rw [List.length_cons, List.length_cons, i2], by rw [List.length_cons, List.length_cons, i3], _, pps_cons pe_str pe_str i4, fun σ H Q q => ?_⟩
      exact i5 σ H _ q
    · cases h
theorem disp_rd {G : Glob} {F : Hp} : ∀ (l : List (String × String)) {kv : List (Key × V)} {ds : List (D × D)}, RpD G F kv ds →
    RpD G F (mergeK kv (l.map fun e => ((Sum.inr (Str.ofString e.1) : Key), V.str (Str.ofString e.2)))) (l.foldl (fun acc e => putD (.str e.1) (.str e.2) acc) ds)
  | [], _, _, r => r
  | e :: l, _, _, r => disp_rd l (put_rd0 (kd := .str e.1) rfl (.str e.2) r)
theorem pr_disp {G : Glob} {k n : Nat} (l : List (String × String)) : PrF G k (mrD l) (dW l) n := ⟨fun {C X} K hG hk {es e xs} hl hp hm hx ha => by
  unfold mrD at hm
  split at hm
  · rename_i ks vs pos
    split at hm
    · rename_i hb
      cases hm
      cases es with
      | cons _ _ => exact absurd hx Bool.false_ne_true
      | nil =>
        obtain ⟨hb, h3⟩ := and_of hb
        obtain ⟨h1, h2⟩ := and_of hb
        have h3 := of_decide_eq_true h3
        obtain ⟨i1, i2, i3, trs, i4, i5⟩ := disp_pps (X := X) (pos := pos) l h1
        refine PE.imp (pe_disp i4 i1 i2 (fun z => ?_) (by omega)) fun σ H Q ⟨σd, M, R, F, Qd, s, q, w⟩ => ?_
        · rw [z] at i3
          cases l with
          | nil => cases h2
          | cons _ _ => cases i3
        · intro p hp'
          refine i5 σ _ _ ⟨upd_same, l.map fun e => ((Sum.inr (Str.ofString e.1) : Key), V.str (Str.ofString e.2)), by rw [List.map_map]; rfl, by rw [List.length_map]; exact h3, ?_⟩
          rw [upd_upd]
          have rd := disp_rd (G := C.G) (F := F) l .nil
          rcases q with q | q
          · obtain ⟨g2, e2⟩ := s.good.new (o := .dK (mergeK [] (l.map fun e => ((Sum.inr (Str.ofString e.1) : Key), V.str (Str.ofString e.2))))) hp'
            exact w _ _ _ _ _ q e2 g2 (.dic upd_same (rd.mono e2))
          · exact w.newM s.good hp' (.dic rd) (q p (s.good.fresh hp').1)
    · cases hm
  · cases hm⟩
end VS
namespace VS
open PySem PySem.Spec PyProof.Rows L2
def isLet (c : Char) : Bool := decide (97 ≤ c.toNat) && decide (c.toNat ≤ 122)
theorem single_list (c : Char) : (Str.ofString (String.singleton c)).cps.toList = [c.toNat] := by
  rw [ofString_cps]; simp
theorem le_a (c : Char) : strLe "a" (String.singleton c) = decide (97 ≤ c.toNat) := by
  unfold strLe
  rw [single_list, show (Str.ofString "a").cps.toList = [97] by decide]
  by_cases h : 97 ≤ c.toNat
  · rw [decide_eq_true h, decide_eq_false]; rfl
    intro z
    rcases List.cons_lt_cons_iff.mp z with z | ⟨_, z⟩
    · omega
    · exact absurd z (by simp)
  · rw [decide_eq_false h, decide_eq_true]; rfl
    exact List.cons_lt_cons_iff.mpr (.inl (by omega))
theorem le_z (c : Char) : strLe (String.singleton c) "z" = decide (c.toNat ≤ 122) := by
  unfold strLe
  rw [single_list, show (Str.ofString "z").cps.toList = [122] by decide]
  by_cases h : c.toNat ≤ 122
  · rw [decide_eq_true h, decide_eq_false]; rfl
    intro z
    rcases List.cons_lt_cons_iff.mp z with z | ⟨_, z⟩
    · omega
    · exact absurd z (by simp)
  · rw [decide_eq_false h, decide_eq_true]; rfl
    exact List.cons_lt_cons_iff.mpr (.inl (by omega))
structure Tk where
  w : Bool
  v : String
  at_ : Nat
def kindT (w : Bool) : String := match w with | true => "word" | false => "sign"
def tkD (t : Tk) : D := .tup [.str (kindT t.w), .str t.v, .int (t.at_ : Int)]
inductive Lex (S : List Char) : List Char → Nat → List Tk → Prop
  | nil {p : Nat} : Lex S [] p []
  | ws {c : Char} {r : List Char} {p : Nat} {ts : List Tk} : (c = ' ' ∨ c = '\n') → Lex S r (p + 1) ts → Lex S (c :: r) p ts
  | sign {c : Char} {r : List Char} {p : Nat} {ts : List Tk} : c ∈ S → isLet c = false → Lex S r (p + 1) ts → Lex S (c :: r) p (⟨false, String.singleton c, p⟩ :: ts)
  | word {w r : List Char} {p : Nat} {ts : List Tk} : w ≠ [] → (∀ c ∈ w, isLet c = true) → (∀ c r', r = c :: r' → isLet c = false) → Lex S r (p + w.length) ts → Lex S (w ++ r) p (⟨true, String.ofList w, p⟩ :: ts)
theorem Lex.len {S : List Char} {l : List Char} {p : Nat} {ts : List Tk} (h : Lex S l p ts) : ts.length ≤ l.length := by
  induction h with
  | nil => exact Nat.le_refl _
  | ws _ _ ih => rw [List.length_cons]; omega
  | sign _ _ _ ih => rw [List.length_cons, List.length_cons]; omega
  | word hw _ _ _ ih =>
    rw [List.length_append, List.length_cons]
    have := List.length_pos_iff.mpr hw
    omega
def wsB (l : List Char) : Bool := l.all fun c => c == ' ' || c == '\n'
theorem Lex.blank {S : List Char} {r : List Char} {ts : List Tk} : ∀ {l : List Char} {p : Nat}, wsB l = true → Lex S r (p + l.length) ts → Lex S (l ++ r) p ts
  | [], p, _, h => h
  | c :: l, p, hw, h => by
    have hw' : ((c == ' ' || c == '\n') && wsB l) = true := hw
    obtain ⟨h1, h2⟩ := and_of hw'
    refine .ws (by simpa using h1) (Lex.blank h2 ?_)
    rw [List.length_cons] at h
    rw [show p + 1 + l.length = p + (l.length + 1) by omega]; exact h
theorem w_ixS {M : Store} {Q : DK} {t : String} {i : Nat} {c : Char} (hl : t.length ≤ line) (h : t.toList[i]? = some c) : wIx (.str t) (.int (i : Int)) M Q = Q (.str (String.singleton c)) M := by
  show (t.length ≤ line ∧ (match atI t.toList (i : Int) with | some c => Q (.str (String.singleton c)) M | none => False)) = _
  rw [atI_natD h]
  exact propext ⟨fun h => h.2, fun h => ⟨hl, h⟩⟩
theorem cut_word {l w r : List Char} {i : Nat} (h : l.drop i = w ++ r) : cutD l (some (i : Int)) (some ((i + w.length : Nat) : Int)) = w := by
  have hl : l.length - i = w.length + r.length := by rw [← List.length_drop, h, List.length_append]
  unfold cutD
  rw [HT.sIx_nat, HT.sIx_nat]
  by_cases hi : i ≤ l.length
  · rw [Nat.min_eq_left hi, Nat.min_eq_left (by omega), h, Nat.add_sub_cancel_left, List.take_left]
  · have hw : w = [] := List.length_eq_zero_iff.mp (by omega)
    subst hw
    rw [List.length_nil, Nat.add_zero, Nat.sub_self, List.take_zero]
theorem cut_to {α : Type} {xs : List α} {j : Nat} : cutD xs none (some (j : Int)) = xs.take j := by
  unfold cutD
  rw [HT.sIx_none, HT.sIx_nat, List.drop_zero, Nat.sub_zero]
  by_cases h : j ≤ xs.length
  · rw [Nat.min_eq_left h]
  · rw [Nat.min_eq_right (by omega), List.take_of_length_le (Nat.le_refl _), List.take_of_length_le (by omega)]
theorem cut_last {α : Type} {xs : List α} : cutD xs none (some (-1)) = xs.dropLast := by
  unfold cutD
  rw [HT.sIx_none, List.drop_zero, Nat.sub_zero, List.dropLast_eq_take]
  congr 1
  have : HT.sIx xs.length xs.length (some (-1)) = (-1 + (xs.length : Int)).toNat := rfl
  rw [this]
  omega
end VS
namespace VS
open PySem PySem.Spec PyProof.Rows L2
mutual
inductive El | mk (n : String) (ks : Els)
inductive Els | nil | cons (e : El) (es : Els)
end
mutual
def encE : El → D
  | .mk n ks => .tup [.str n, .tup (encEs ks)]
def encEs : Els → List D
  | .nil => []
  | .cons e es => encE e :: encEs es
def sizeE : El → Nat
  | .mk _ ks => sizeEs ks + 1
def sizeEs : Els → Nat
  | .nil => 0
  | .cons e es => sizeE e + sizeEs es
def htE : El → Nat
  | .mk _ ks => htEs ks + 1
def htEs : Els → Nat
  | .nil => 0
  | .cons e es => max (htE e) (htEs es)
end
def snoc : Els → El → Els
  | .nil, e => .cons e .nil
  | .cons a es, e => .cons a (snoc es e)
theorem enc_snoc : ∀ (es : Els) (e : El), encEs (snoc es e) = encEs es ++ [encE e]
  | .nil, e => rfl
  | .cons a es, e => by show encE a :: encEs (snoc es e) = _; rw [enc_snoc es e]; rfl
theorem size_snoc : ∀ (es : Els) (e : El), sizeEs (snoc es e) = sizeEs es + sizeE e
  | .nil, e => by show sizeE e + 0 = 0 + sizeE e; omega
  | .cons a es, e => by show sizeE a + sizeEs (snoc es e) = sizeE a + sizeEs es + sizeE e; rw [size_snoc es e]; omega
theorem ht_snoc : ∀ (es : Els) (e : El), htEs (snoc es e) = max (htEs es) (htE e)
  | .nil, e => by show max (htE e) 0 = max 0 (htE e); omega
  | .cons a es, e => by show max (htE a) (htEs (snoc es e)) = max (max (htE a) (htEs es)) (htE e); rw [ht_snoc es e]; omega
inductive Look | child | below | parent | above | earlier | later
def Look.nm : Look → String
  | .child => "child" | .below => "below" | .parent => "parent" | .above => "above" | .earlier => "earlier" | .later => "later"
inductive Cond | all | none | is (s : String) | not (c : Cond) | bin (b : Bool) (c d : Cond) | look (l : Look) (c : Cond)
def binN (b : Bool) : String := if b = true then "and" else "or"
def encC : Cond → D
  | .all => .tup [.str "all"] | .none => .tup [.str "none"] | .is s => .tup [.str "is", .str s]
  | .not c => .tup [.str "not", encC c] | .bin b c d => .tup [.str (binN b), .tup [encC c, encC d]] | .look l c => .tup [.str l.nm, encC c]
def htC : Cond → Nat
  | .not c => htC c + 1 | .bin _ c d => max (htC c) (htC d) + 1 | .look _ c => htC c + 1 | _ => 1
def Grow (d : Addr) (M M' : Store) : Prop := DrawAt M' d ∧ ∀ a, a ≠ d → M a ≠ none → M' a = M a
theorem Grow.trans {d : Addr} {M M1 M2 : Store} (h1 : Grow d M M1) (h2 : Grow d M1 M2) : Grow d M M2 :=
  ⟨h2.1, fun a ha hm => by rw [h2.2 a ha (by rw [h1.2 a ha hm]; exact hm), h1.2 a ha hm]⟩
theorem Grow.next {d : Addr} {M M' : Store} (h : DrawAt M' d) (e : ∀ a, a ≠ d → M' a = M a) : Grow d M M' := ⟨h, fun a ha _ => e a ha⟩
theorem Grow.put {d p : Addr} {M M' : Store} {o : MO} (h : Grow d M M') (hp : p ≠ d) (hn : M p = none) : Grow d M (M'.put p o) :=
  ⟨by obtain ⟨a, b, c, e, h1, h2⟩ := h.1; exact ⟨a, b, c, e, by rw [put_ne hp.symm]; exact h1, h2⟩, fun a ha hm => by
    have : a ≠ p := fun z => by subst z; exact hm hn
    rw [put_ne this]; exact h.2 a ha hm⟩
theorem DrawAt.ne {M : Store} {d : Addr} (h : DrawAt M d) : M d ≠ none := by obtain ⟨a, b, c, e, h1, h2⟩ := h; rw [h1]; exact fun z => by cases z
def cap : Nat → Nat
  | 0 => 1
  | n + 1 => 1 + 3 * cap n
theorem three {r : Int} {a b c : D} (h0 : 0 ≤ r) (h : r < 3) : ∃ x, atI [a, b, c] r = some x ∧ (x = a ∨ x = b ∨ x = c) := by
  have : r = 0 ∨ r = 1 ∨ r = 2 := by omega
  rcases this with e | e | e <;> subst e
  · exact ⟨_, at_0, .inl rfl⟩
  · exact ⟨_, at_1, .inr (.inl rfl)⟩
  · exact ⟨_, at_2, .inr (.inr rfl)⟩
def Dr (M M' : Store) : Prop := ∀ a, M a ≠ none → M' a = M a
theorem Dr.refl (M : Store) : Dr M M := fun _ _ => rfl
theorem Dr.trans {M M1 M2 : Store} (a : Dr M M1) (b : Dr M1 M2) : Dr M M2 := fun x h => by rw [b x (by rw [a x h]; exact h), a x h]
theorem Dr.new {M : Store} {p : Addr} {o : MO} (h : M p = none) : Dr M (M.put p o) := fun a ha => put_ne fun e => ha (by rw [e]; exact h)
theorem Dr.put {M M' : Store} {p : Addr} {o : MO} (d : Dr M M') (h : M p = none) : Dr M (M'.put p o) := fun a ha => by
  rw [put_ne fun e => ha (by rw [e]; exact h)]; exact d a ha
theorem Dr.non {M M' : Store} {a : Addr} (d : Dr M M') (h : M' a = none) : M a = none := by
  cases e : M a with
  | none => rfl
  | some o =>
    have := d a (by rw [e]; exact fun z => by cases z)
    rw [h, e] at this; cases this
theorem Dr.draw {M M' : Store} (a : Dr M M') {d : Addr} (h : DrawAt M d) : DrawAt M' d := by
  obtain ⟨x, b, c, e, h1, h2⟩ := h
  exact ⟨x, b, c, e, by rw [a d (by rw [h1]; exact fun z => by cases z)]; exact h1, h2⟩
theorem Grow.refl {d : Addr} {M : Store} (h : DrawAt M d) : Grow d M M := ⟨h, fun _ _ _ => rfl⟩
theorem Grow.dr {d : Addr} {M M' M2 : Store} (h : Grow d M M') (e : Dr M' M2) : Grow d M M2 :=
  ⟨e.draw h.1, fun a ha hm => by rw [e a (by rw [h.2 a ha hm]; exact hm), h.2 a ha hm]⟩
theorem Grow.non {d a : Addr} {M M' : Store} (g : Grow d M M') (ha : a ≠ d) (h : M' a = none) : M a = none := by
  cases e : M a with
  | none => rfl
  | some o =>
    have := g.2 a ha (by rw [e]; exact fun z => by cases z)
    rw [h, e] at this; cases this
theorem Grow.ne {d a : Addr} {M : Store} (g : DrawAt M d) (h : M a = none) : a ≠ d := fun z => by subst z; exact DrawAt.ne g h
theorem pick_ix {xs : List D} {r : Int} (h0 : 0 ≤ r) (h : r < (xs.length : Int)) : ∃ x, atI xs r = some x ∧ x ∈ xs := by
  obtain ⟨k, rfl⟩ := Int.eq_ofNat_of_zero_le h0
  have hk : k < xs.length := by omega
  exact ⟨xs[k], atI_natD (List.getElem?_eq_getElem hk), List.getElem_mem hk⟩
theorem pick_str {ss : List String} {r : Int} (h0 : 0 ≤ r) (h : r < (ss.length : Int)) : ∃ s, s ∈ ss ∧ ∀ (M : Store) (Q : DK), wIx (.lst (ss.map D.str)) (.int r) M Q = Q (.str s) M := by
  obtain ⟨x, hx, hm⟩ := pick_ix (xs := ss.map D.str) h0 (by rw [List.length_map]; exact h)
  obtain ⟨s, hs, rfl⟩ := List.mem_map.mp hm
  exact ⟨s, hs, fun M Q => w_ixL hx⟩
theorem at_last {α : Type} {xs : List α} {x : α} : atI (xs ++ [x]) (-1) = some x := by
  unfold atI
  have e : ixN (xs ++ [x]).length (-1) = some xs.length := by
    rw [List.length_append]
    unfold ixN
    rw [if_neg (by decide), if_pos (by simp; omega)]
    congr 1
    simp
    omega
  rw [e]
  show (xs ++ [x])[xs.length]? = some x
  rw [List.getElem?_append_right (Nat.le_refl _), Nat.sub_self]; rfl
theorem forGo_app {f : D → Env → Store → (Env → Store → Prop) → Prop} {nx : Env → Store → Prop} : ∀ (xs ys : List D) (σ : Env) (M : Store), forGo (fun _ => True) f (xs ++ ys) σ M nx = forGo (fun _ => True) f xs σ M (fun σ' M' => forGo (fun _ => True) f ys σ' M' nx)
  | [], ys, σ, M => by
    show forGo _ f ys σ M nx = (True ∧ forGo _ f ys σ M nx)
    rw [true_and]
  | x :: xs, ys, σ, M => by
    show (True ∧ f x σ M _) = (True ∧ f x σ M _)
    have : (fun σ' M' => forGo (fun _ => True) f (xs ++ ys) σ' M' nx) = (fun σ' M' => forGo (fun _ => True) f xs σ' M' (fun σ' M' => forGo (fun _ => True) f ys σ' M' nx)) := funext fun σ' => funext fun M' => forGo_app xs ys σ' M'
    show (True ∧ f x σ M (fun σ' M' => forGo (fun _ => True) f (xs ++ ys) σ' M' nx)) = _
    rw [this]
theorem forGo_nil {f : D → Env → Store → (Env → Store → Prop) → Prop} {nx : Env → Store → Prop} {σ : Env} {M : Store} : forGo (fun _ => True) f [] σ M nx = nx σ M := by show (True ∧ nx σ M) = _; rw [true_and]
theorem forGo_one {f : D → Env → Store → (Env → Store → Prop) → Prop} {nx : Env → Store → Prop} {x : D} {xs : List D} {σ : Env} {M : Store} : forGo (fun _ => True) f (x :: xs) σ M nx = f x σ M fun σ' M' => forGo (fun _ => True) f xs σ' M' nx := by show (True ∧ _) = _; rw [true_and]
theorem nd_line : line = 16777216 := rfl
theorem it_T {M : Store} {xs : List D} {Q : List D → (Store → Prop) → Prop} : itD (.tup xs) M Q = Q xs fun _ => True := rfl
theorem it_L {M : Store} {xs : List D} {Q : List D → (Store → Prop) → Prop} : itD (.lst xs) M Q = Q xs fun _ => True := rfl
theorem optI_t {i : Int} : optI true (.int i) = some (some i) := rfl
theorem optI_f {d : D} : optI false d = some none := rfl
theorem w_slL {M : Store} {xs : List D} {lo hi : Option Int} {Q : DK} : wSl (.lst xs) lo hi M Q = nuL (cutD xs lo hi) M Q := rfl
theorem w_slT {M : Store} {xs : List D} {lo hi : Option Int} {Q : DK} : wSl (.tup xs) lo hi M Q = Q (.tup (cutD xs lo hi)) M := rfl
theorem w_slP {M : Store} {p : Addr} {xs : List D} {lo hi : Option Int} {Q : DK} (h : M p = some (.lst xs)) : wSl (.ptr p) lo hi M Q = nuL (cutD xs lo hi) M Q := by
  show (match asL M (.ptr p) with | some xs => nuL (cutD xs lo hi) M Q | none => False) = _
  rw [asL_ptr h]
theorem w_listL {M : Store} {xs : List D} {Q : DK} : wBi .list [.lst xs] M Q = nuL xs M Q := rfl
theorem w_listT {M : Store} {xs : List D} {Q : DK} : wBi .list [.tup xs] M Q = nuL xs M Q := rfl
theorem eqvAll_strs : ∀ l : List String, PyData.eqvAll (pyL (l.map D.str)) (pyL (l.map D.str)) = true
  | [] => rfl
  | s :: l => by
    show (PyData.eqv (py (.str s)) (py (.str s)) && PyData.eqvAll (pyL (l.map D.str)) (pyL (l.map D.str))) = true
    rw [eqv_str, eqvAll_strs l]; simp
theorem lay_strs : ∀ l : List String, PyData.canLayAll0 (pyL (l.map D.str)) = true
  | [] => rfl
  | s :: l => by
    show PyData.canLayAll0 (PyData.str (Str.ofString s) :: pyL (l.map D.str)) = true
    rw [PyData.canLayAll0, lay_strs l, PyData.canLay0, strOk_of]; rfl
theorem deep_strs : ∀ l : List String, PyData.depthAll (pyL (l.map D.str)) = 0
  | [] => rfl
  | s :: l => by
    show PyData.depthAll (PyData.str (Str.ofString s) :: pyL (l.map D.str)) = 0
    rw [PyData.depthAll, deep_strs l, PyData.depth]; rfl
theorem shaped_strs (l : List String) : SeqAt.shaped (py (.lst (l.map D.str))) = true := by
  show (PyData.canLay0 (.list _) && decide (PyData.depth (.list _) ≤ 64)) = true
  rw [PyData.canLay0, PyData.depth, lay_strs, deep_strs]; rfl
theorem eq_strs {l : List String} {M : Store} {Q : DK} (h : Q (.bl true) M) : wCmp .eq (.lst (l.map D.str)) (.lst (l.map D.str)) M Q := by
  refine ⟨shaped_strs l, shaped_strs l, ?_⟩
  have e : PyData.eqv (py (.lst (l.map D.str))) (py (.lst (l.map D.str))) = true := by
    show PyData.eqv (.list (pyL (l.map D.str))) (.list (pyL (l.map D.str))) = true
    rw [PyData.eqv, eqvAll_strs]
  rw [e]
  exact h
theorem ne_strs {l : List String} {M : Store} {Q : DK} (h : Q (.bl false) M) : wCmp .ne (.lst (l.map D.str)) (.lst (l.map D.str)) M Q := by
  refine ⟨shaped_strs l, shaped_strs l, ?_⟩
  have e : PyData.eqv (py (.lst (l.map D.str))) (py (.lst (l.map D.str))) = true := by
    show PyData.eqv (.list (pyL (l.map D.str))) (.list (pyL (l.map D.str))) = true
    rw [PyData.eqv, eqvAll_strs]
  rw [e]
  exact h
def toL : Els → List El
  | .nil => [] | .cons e es => e :: toL es
theorem enc_toL : ∀ es : Els, encEs es = (toL es).map encE
  | .nil => rfl
  | .cons e es => by show encE e :: encEs es = encE e :: (toL es).map encE; rw [enc_toL es]
theorem ht_toL : ∀ (es : Els) (e : El), e ∈ toL es → htE e ≤ htEs es
  | .nil, _, h => by cases h
  | .cons a es, e, h => by
    show htE e ≤ max (htE a) (htEs es)
    rcases List.mem_cons.mp h with z | z
    · subst z; omega
    · have := ht_toL es e z; omega
theorem size_toL : ∀ (es : Els) (e : El), e ∈ toL es → sizeE e ≤ sizeEs es
  | .nil, _, h => by cases h
  | .cons a es, e, h => by
    show sizeE e ≤ sizeE a + sizeEs es
    rcases List.mem_cons.mp h with z | z
    · subst z; omega
    · have := size_toL es e z; omega
mutual
def nmE : El → Bool
  | .mk n ks => decide (n ∈ ["a", "b", "ab"]) && nmEs ks
def nmEs : Els → Bool
  | .nil => true | .cons e es => nmE e && nmEs es
end
theorem nm_snoc : ∀ (es : Els) (e : El), nmEs (snoc es e) = (nmEs es && nmE e)
  | .nil, e => by show (nmE e && true) = (true && nmE e); rw [Bool.and_true, Bool.true_and]
  | .cons a es, e => by show (nmE a && nmEs (snoc es e)) = (nmE a && nmEs es && nmE e); rw [nm_snoc es e, Bool.and_assoc]
def spLaw : Spec := fun ds M Q _ => ∃ ns : List Int, ds = [.scr ns] ∧ ns.length ≤ 63 ∧ ∀ M', Q (.bl true) M'
end VS
namespace VS
open PySem PySem.Spec PyProof.Rows L2
structure MethAt (G : Glob) (cl m : String) (st : Stmt) (ps : List Str) (C f : Addr) (fd : FuncData) : Prop where
  mg : G.mg (Str.ofString cl) = some (.ref C)
  cls : Cls G.K C
  me : Meth G.K C (Str.ofString m) f
  fn : L2.Fun G.K (Str.ofString m) (Str.ofString (cl ++ "." ++ m)) st f fd
  bd : Binds G.K fd ps []
section
variable {G : Glob} {cl m : String} {st : Stmt} {ps : List Str} {C f : Addr} {fd : FuncData} {k n : Nat} {sp : Spec}
theorem MethAt.at (d : MethAt G cl m st ps C f fd) (ok : FnOk G.prog G.w G.K G.mg G.base (VX.CX G.prog G.w) k f fd ps (toSp G n sp)) : MethFor G k cl m n sp :=
  ⟨C, f, fd, ps, d.mg, d.cls, d.me, ok, d.bd⟩
theorem MethAt.ok {N : List Str} (d : MethAt G cl m st ps C f fd) (c : Sts) (S : FnScope N ps (defScope st)) (hm : isSs N (defScope st) c (defBody st) = true) (ok : okSs G k c)
    (hsp : ∀ ds M Q E, ds.length = ps.length → sp ds M Q E → dSs E c { nx := fun _ M' => Q .non M', rt := Q } (startD N.length ds) M) : MethFor G (k + 1) cl m ps.length sp :=
  d.at (def_ok c d.fn S hm ok hsp)
theorem MethAt.none (d : MethAt G cl m st ps C f fd) (h : ∀ ds M Q E, ¬ sp ds M Q E) : MethFor G k cl m n sp := d.at (fn_none h)
theorem MethFor.mono {j : Nat} (h : j ≤ k) (F : MethFor G j cl m n sp) : MethFor G k cl m n sp := by
  obtain ⟨C, f, fd, ps, a, b, c, ok, d⟩ := F.ex
  exact ⟨C, f, fd, ps, a, b, c, ok.mono h, d⟩
structure InitAt (G : Glob) (cl : String) (st : Stmt) (ps : List Str) (C f : Addr) (fd : FuncData) : Prop where
  mg : G.mg (Str.ofString cl) = some (.ref C)
  mkC : Mk G.K C f
  fn : L2.Fun G.K (Str.ofString "__init__") (Str.ofString (cl ++ "." ++ "__init__")) st f fd
  bd : Binds G.K fd ps []
theorem InitAt.ok {N : List Str} (d : InitAt G cl st ps C f fd) (c : Sts) (S : FnScope N ps (defScope st)) (hm : isSs N (defScope st) c (defBody st) = true) (ok : okSs G k c)
    (hsp : ∀ ds M Q E, ds.length = ps.length → sp ds M Q E → dSs E c { nx := fun _ M' => Q .non M', rt := Q } (startD N.length ds) M) : MkFor G (k + 2) cl ps.length sp :=
  ⟨k + 1, C, f, fd, ps, Nat.le_refl _, d.mg, d.mkC, def_ok c d.fn S hm ok hsp, d.bd⟩
theorem MkFor.mono {j : Nat} (h : j ≤ k) (F : MkFor G j cl n sp) : MkFor G k cl n sp := by
  obtain ⟨i, C, f, fd, ps, a, b, c, ok, d⟩ := F.ex
  exact ⟨i, C, f, fd, ps, Nat.le_trans a h, b, c, ok, d⟩
theorem glob_str {x s : String} {t : Tok} (h : G.mg (Str.ofString x) = some (.str (Str.ofString s) t)) : GlobF G x (.str s) := ⟨.str (Str.ofString s), _, h, ⟨t, rfl⟩, fun F => .str s⟩
theorem glob_int {x : String} {i : Int} {t : Tok} (h : G.mg (Str.ofString x) = some (.int i t)) : GlobF G x (.int i) := ⟨.int i, _, h, ⟨t, rfl⟩, fun F => .int i⟩
end
end VS
namespace VS
open PySem PySem.Spec PyProof.Rows L2
theorem wsB_not {c : Char} {l : List Char} (h : wsB (c :: l) = true) : isLet c = false := by
  have h' : ((c == ' ' || c == '\n') && wsB l) = true := h
  have := (and_of h').1
  have : c = ' ' ∨ c = '\n' := by simpa using this
  rcases this with rfl | rfl <;> decide
def wordB (s : String) : Bool := !s.toList.isEmpty && s.toList.all isLet
def tokB (S : List Char) (s : String) : Bool := wordB s || S.any fun c => decide (s = String.singleton c)
abbrev Pt := List Char × String
def txt : List Pt → List Char
  | [] => [] | e :: r => e.1 ++ (e.2.toList ++ txt r)
def adjB : Bool → List Pt → Bool
  | _, [] => true
  | w, e :: r => wsB e.1 && (!(w && wordB e.2) || !e.1.isEmpty) && adjB (wordB e.2) r
def SOk (S : List Char) : Prop := ∀ c ∈ S, isLet c = false
theorem word_single {S : List Char} (hS : SOk S) {s : String} (h : (S.any fun c => decide (s = String.singleton c)) = true) : wordB s = false ∧ ∃ c ∈ S, s = String.singleton c := by
  obtain ⟨c, hc, he⟩ := List.any_eq_true.mp h
  have he := of_decide_eq_true he
  refine ⟨?_, c, hc, he⟩
  subst he
  unfold wordB
  have : (String.singleton c).toList = [c] := by simp
  rw [this]
  show (!false && (isLet c && true)) = false
  rw [hS c hc]; rfl
def TkS (l : List String) (ts : List Tk) : Prop := ts.map (·.v) = l ∧ ∀ t ∈ ts, t.w = wordB t.v
def plc : Nat → List Pt → List Nat
  | _, [] => [] | p, e :: r => (p + e.1.length) :: plc (p + e.1.length + e.2.toList.length) r
theorem plc_app : ∀ (L R : List Pt) (p : Nat), plc p (L ++ R) = plc p L ++ plc (p + (txt L).length) R
  | [], R, p => by show plc p R = [] ++ plc (p + 0) R; rfl
  | e :: L, R, p => by
    show (p + e.1.length) :: plc _ (L ++ R) = ((p + e.1.length) :: plc _ L) ++ plc (p + (e.1 ++ (e.2.toList ++ txt L)).length) R
    rw [plc_app L R, List.length_append, List.length_append, show p + (e.1.length + (e.2.toList.length + (txt L).length)) = p + e.1.length + e.2.toList.length + (txt L).length by omega]; rfl
theorem lex_tk {S : List Char} (hS : SOk S) : ∀ (L : List Pt) (tail : List Char) (p : Nat) (w : Bool), adjB w L = true → (∀ e ∈ L, tokB S e.2 = true) → wsB tail = true → ∃ ts, Lex S (txt L ++ tail) p ts ∧ TkS (L.map (·.2)) ts ∧ (∀ c r', txt L ++ tail = c :: r' → w = true → isLet c = false) ∧ ts.map (·.at_) = plc p L
  | [], tail, p, w, _, _, ht => ⟨[], by show Lex _ tail p []; rw [← List.append_nil tail]; exact Lex.blank ht .nil, ⟨rfl, fun _ h => (by cases h)⟩, fun c r' e _ => by
      have e : tail = c :: r' := e
      rw [e] at ht; exact wsB_not ht, rfl⟩
  | e :: L, tail, p, w, ha, ho, ht => by
    obtain ⟨h1, h3⟩ := and_of (show (wsB e.1 && (!(w && wordB e.2) || !e.1.isEmpty) && adjB (wordB e.2) L) = true from ha)
    obtain ⟨h1, h2⟩ := and_of h1
    obtain ⟨ts, i1, i2, i3, i4⟩ := lex_tk hS L tail (p + e.1.length + e.2.toList.length) (wordB e.2) h3 (fun x hx => ho x (List.mem_cons_of_mem _ hx)) ht
    refine ⟨⟨wordB e.2, e.2, p + e.1.length⟩ :: ts, ?_, ⟨by rw [List.map_cons, List.map_cons, i2.1], fun t h => ?_⟩, ?_, by rw [List.map_cons, i4]; rfl⟩
    · show Lex S ((e.1 ++ (e.2.toList ++ txt L)) ++ tail) p _
      rw [List.append_assoc]
      refine Lex.blank h1 ?_
      rw [List.append_assoc]
      have hk := ho e List.mem_cons_self
      cases hw : wordB e.2 with
      | true =>
        have hw' := hw
        unfold wordB at hw'
        obtain ⟨w1, w2⟩ := and_of hw'
        have := Lex.word (S := S) (w := e.2.toList) (p := p + e.1.length) (r := txt L ++ tail) (ts := ts) (by intro z; rw [z] at w1; cases w1) (fun c hc => List.all_eq_true.mp w2 c hc) (fun c r' hc => i3 c r' hc hw) i1
        rw [String.ofList_toList] at this
        exact this
      | false =>
        unfold tokB at hk
        rw [hw, Bool.false_or] at hk
        obtain ⟨_, c, hc, he⟩ := word_single hS hk
        have el : e.2.toList = [c] := by rw [he]; simp
        rw [el] at i1 ⊢
        rw [he]
        exact Lex.sign hc (hS c hc) i1
    · rcases List.mem_cons.mp h with z | z
      · subst z; rfl
      · exact i2.2 t z
    · intro c r' hc hw
      have hc : (e.1 ++ (e.2.toList ++ txt L)) ++ tail = c :: r' := hc
      cases he : e.1 with
      | cons a l =>
        rw [he] at hc h1
        injection hc with hc _
        subst hc
        exact wsB_not h1
      | nil =>
        rw [he, hw] at h2
        have hw2 : wordB e.2 = false := by cases z : wordB e.2 with | false => rfl | true => rw [z] at h2; cases h2
        have hk := ho e List.mem_cons_self
        unfold tokB at hk
        rw [hw2, Bool.false_or] at hk
        obtain ⟨_, d, hd, hes⟩ := word_single hS hk
        have el : e.2.toList = [d] := by rw [hes]; simp
        rw [he, el] at hc
        injection hc with hc _
        subst hc
        exact hS _ hd
structure TextOf (S : List Char) (l : List String) (t : String) : Prop where
  ex : ∃ L tail, L.map (·.2) = l ∧ adjB false L = true ∧ (∀ e ∈ L, tokB S e.2 = true) ∧ wsB tail = true ∧ t.toList = txt L ++ tail
theorem TextOf.lex {S : List Char} (hS : SOk S) {l : List String} {t : String} (h : TextOf S l t) : ∃ ts, Lex S t.toList 0 ts ∧ TkS l ts := by
  obtain ⟨L, tail, h1, h2, h3, h4, h5⟩ := h.ex
  obtain ⟨ts, i1, i2, _, _⟩ := lex_tk hS L tail 0 false h2 h3 h4
  exact ⟨ts, by rw [h5]; exact i1, by rw [← h1]; exact i2⟩
theorem adjB_weak {L : List Pt} : ∀ {w : Bool}, adjB w L = true → adjB false L = true := fun {w} h => by
  cases L with
  | nil => rfl
  | cons e r =>
    obtain ⟨h1, h3⟩ := and_of (show (wsB e.1 && (!(w && wordB e.2) || !e.1.isEmpty) && adjB (wordB e.2) r) = true from h)
    obtain ⟨h1, h2⟩ := and_of h1
    show (wsB e.1 && (!(false && wordB e.2) || !e.1.isEmpty) && adjB (wordB e.2) r) = true
    rw [h1, h3]; rfl
def lastW : Bool → List Pt → Bool
  | w, [] => w | _, e :: r => lastW (wordB e.2) r
theorem adjB_app : ∀ (L R : List Pt) (w : Bool), adjB w (L ++ R) = (adjB w L && adjB (lastW w L) R)
  | [], R, w => by show adjB w R = (true && adjB w R); rw [Bool.true_and]
  | e :: L, R, w => by
    show (wsB e.1 && (!(w && wordB e.2) || !e.1.isEmpty) && adjB (wordB e.2) (L ++ R)) = ((wsB e.1 && (!(w && wordB e.2) || !e.1.isEmpty) && adjB (wordB e.2) L) && adjB (lastW (wordB e.2) L) R)
    rw [adjB_app L R]
    cases wsB e.1 <;> cases (!(w && wordB e.2) || !e.1.isEmpty) <;> rfl
theorem txt_app : ∀ (L R : List Pt), txt (L ++ R) = txt L ++ txt R
  | [], R => rfl
  | e :: L, R => by
    show e.1 ++ (e.2.toList ++ txt (L ++ R)) = (e.1 ++ (e.2.toList ++ txt L)) ++ txt R
    rw [txt_app L R]; simp [List.append_assoc]
def spc : List Pt → List Pt
  | [] => [] | e :: r => (' ' :: e.1, e.2) :: r
theorem spc_txt {L : List Pt} (h : L ≠ []) : txt (spc L) = ' ' :: txt L := by
  cases L with
  | nil => exact absurd rfl h
  | cons e r => rfl
theorem spc_adj {L : List Pt} {w : Bool} (h : adjB false L = true) : adjB w (spc L) = true := by
  cases L with
  | nil => rfl
  | cons e r =>
    obtain ⟨h1, h3⟩ := and_of (show (wsB e.1 && (!(false && wordB e.2) || !e.1.isEmpty) && adjB (wordB e.2) r) = true from h)
    obtain ⟨h1, h2⟩ := and_of h1
    show (wsB (' ' :: e.1) && (!(w && wordB e.2) || true) && adjB (wordB e.2) r) = true
    rw [h3, Bool.or_true, Bool.and_true, Bool.and_true]
    exact h1
theorem spc_snd {L : List Pt} : (spc L).map (·.2) = L.map (·.2) := by cases L <;> rfl
structure Grown (S : List Char) (l : List String) (t : String) (pl : List Nat) : Prop where
  ex : ∃ L tail, L.map (·.2) = l ∧ adjB false L = true ∧ (∀ e ∈ L, tokB S e.2 = true) ∧ wsB tail = true ∧ (L ≠ [] → tail ≠ []) ∧ t.toList = txt L ++ tail ∧ pl = plc 0 L
theorem Grown.text {S : List Char} {l : List String} {t : String} {pl : List Nat} (h : Grown S l t pl) : TextOf S l t := by
  obtain ⟨L, tail, h1, h2, h3, h4, _, h5, _⟩ := h.ex
  exact ⟨L, tail, h1, h2, h3, h4, h5⟩
theorem Grown.lex {S : List Char} (hS : SOk S) {l : List String} {t : String} {pl : List Nat} (h : Grown S l t pl) : ∃ ts, Lex S t.toList 0 ts ∧ TkS l ts ∧ ts.map (·.at_) = pl := by
  obtain ⟨L, tail, h1, h2, h3, h4, _, h5, h6⟩ := h.ex
  obtain ⟨ts, i1, i2, _, i4⟩ := lex_tk hS L tail 0 false h2 h3 h4
  exact ⟨ts, by rw [h5]; exact i1, by rw [← h1]; exact i2, by rw [i4, h6]⟩
theorem Grown.start {S : List Char} {t : String} (h : wsB t.toList = true) : Grown S [] t [] := ⟨[], t.toList, rfl, rfl, fun _ h => (by cases h), h, fun h => absurd rfl h, rfl, rfl⟩
theorem Grown.snoc {S : List Char} {l : List String} {t s w : String} {pl : List Nat} (h : Grown S l t pl) (hs : tokB S s = true) (hw : wsB w.toList = true) (hn : w.toList ≠ []) : Grown S (l ++ [s]) (t ++ s ++ w) (pl ++ [t.length]) := by
  obtain ⟨L, tail, h1, h2, h3, h4, h5, h6, h7⟩ := h.ex
  refine ⟨L ++ [(tail, s)], w.toList, by rw [List.map_append, h1]; rfl, ?_, fun e he => ?_, hw, fun _ => hn, ?_, ?_⟩
  · rw [adjB_app, h2, Bool.true_and]
    show (wsB tail && (!(lastW false L && wordB s) || !tail.isEmpty) && true) = true
    rw [h4, Bool.true_and, Bool.and_true]
    cases L with
    | nil => rfl
    | cons e r =>
      have := h5 (by simp)
      cases tail with
      | nil => exact absurd rfl this
      | cons _ _ => simp
  · rcases List.mem_append.mp he with z | z
    · exact h3 e z
    · rw [List.mem_singleton] at z; subst z; exact hs
  · rw [String.toList_append, String.toList_append, h6, txt_app]
    show txt L ++ tail ++ s.toList ++ w.toList = txt L ++ (tail ++ (s.toList ++ [])) ++ w.toList
    simp [List.append_assoc]
  · rw [plc_app, h7]
    show _ = plc 0 L ++ [0 + (txt L).length + tail.length]
    rw [← String.length_toList, h6, List.length_append, Nat.zero_add]
def tok8 (S : List Char) (s : String) : Bool := tokB S s && decide (s.length ≤ 12)
def sts (l : List String) : List D := l.map D.str
def intsD (l : List Nat) : List D := l.map fun (n : Nat) => D.int (n : Int)
theorem intsD_len (a : List Nat) : (intsD a).length = a.length := List.length_map _
theorem sts_app (a b : List String) : sts (a ++ b) = sts a ++ sts b := List.map_append
theorem sts_len (a : List String) : (sts a).length = a.length := List.length_map _
theorem sts_cons (a : String) (b : List String) : sts (a :: b) = .str a :: sts b := rfl
theorem map_at {α : Type} {l : List α} {f : α → D} {j : Nat} {x : D} (h : (l.map f)[j]? = some x) : ∃ a, l[j]? = some a ∧ x = f a := by
  rw [List.getElem?_map] at h
  cases e : l[j]? with
  | none => rw [e] at h; cases h
  | some a => rw [e] at h; cases h; exact ⟨a, rfl, rfl⟩
theorem st_at {l : List String} {j : Nat} {s : String} {M : Store} {Q : DK} (h : l[j]? = some s) : wIx (.lst (sts l)) (.int (j : Int)) M Q = Q (.str s) M := w_ixL (atI_natD (by unfold sts; rw [List.getElem?_map, h]; rfl))
end VS
namespace VS
open PySem PySem.Spec PyProof.Rows L2
def hdC : Cond → String
  | .all => "all" | .none => "none" | .is _ => "is" | .not _ => "not" | .bin b _ _ => binN b | .look l _ => l.nm
theorem ixC0 {c : Cond} {M : Store} {Q : DK} : wIx (encC c) (.int 0) M Q = Q (.str (hdC c)) M := by
  cases c <;> exact w_ixT at_0
theorem it_P {M : Store} {xs : List D} {p : Addr} {Q : List D → (Store → Prop) → Prop} (h : M p = some (.lst xs)) : itD (.ptr p) M Q = Q xs (fun M' : Store => M' p = some (MO.lst xs)) := by
  show (match M p with | some (.lst xs) => Q xs (fun M' : Store => M' p = some (MO.lst xs)) | _ => False) = _; rw [h]
theorem lcGo_pure {g : Store → Prop} {f : D → Store → (Option D → Store → Prop) → Prop} {xs : List D} {M : Store} {Q : DK} (φ : D → D) (hg : g M) (hf : ∀ x ∈ xs, ∀ k : Option D → Store → Prop, k (some (φ x)) M → f x M k) (hq : Q (.lst (xs.map φ)) M) : lcGo g f xs [] M Q := by
  refine lcGo_map (fun M' => M' = M) (fun x => some (φ x)) (fun M' e => by subst e; exact hg) xs [] M Q (fun x hx M' k e hk => ?_) rfl fun M' e => ?_
  · subst e; exact hf x hx k (hk _ rfl)
  · subst e
    rw [List.nil_append, filterMap_some]
    exact .inl hq
def innerC : Cond → List Cond
  | .not c => [c] | .bin _ c d => [c, d] | .look _ c => [c] | _ => []
def partsC : Cond → Int
  | .not c => 1 + [partsC c].sum | .bin _ c d => 1 + [partsC c, partsC d].sum | .look _ c => 1 + [partsC c].sum | _ => 1
def looksC : Cond → Int
  | .not c => [looksC c].sum + 0 | .bin _ c d => [looksC c, looksC d].sum + 0 | .look _ c => [looksC c].sum + 1 | _ => 0
theorem ixN1 {c : Cond} {M : Store} {Q : DK} : wIx (encC (.not c)) (.int 1) M Q = Q (encC c) M := w_ixT at_1
theorem ixB1 {b : Bool} {c d : Cond} {M : Store} {Q : DK} : wIx (encC (.bin b c d)) (.int 1) M Q = Q (.tup [encC c, encC d]) M := w_ixT at_1
theorem ixL1 {l : Look} {c : Cond} {M : Store} {Q : DK} : wIx (encC (.look l c)) (.int 1) M Q = Q (encC c) M := w_ixT at_1
theorem ixI1 {s : String} {M : Store} {Q : DK} : wIx (encC (.is s)) (.int 1) M Q = Q (.str s) M := w_ixT at_1
theorem nm3 (l : Look) : decide (l.nm ∈ ["all", "none", "is"]) = false := by cases l <;> decide
def lkL : List String := ["child", "below", "parent", "above", "earlier", "later"]
theorem nm2 (l : Look) : decide (l.nm ∈ ["and", "or"]) = false := by cases l <;> decide
theorem nm2b (l : Look) : decide (l.nm ∈ ["and", "or", "not"]) = false := by cases l <;> decide
theorem nm2c (l : Look) : decide (l.nm ∈ ["all", "none"]) = false := by cases l <;> decide
theorem nmIs (l : Look) : decide (l.nm = "is") = false := by cases l <;> decide
theorem nmNot (l : Look) : decide (l.nm = "not") = false := by cases l <;> decide
theorem nmAnd (l : Look) : decide (l.nm = "and") = false := by cases l <;> decide
theorem nmOr (l : Look) : decide (l.nm = "or") = false := by cases l <;> decide
theorem bn3 (b : Bool) : decide (binN b ∈ ["all", "none", "is"]) = false := by cases b <;> decide
theorem bn2 (b : Bool) : decide (binN b ∈ ["and", "or"]) = true := by cases b <;> decide
theorem bn2b (b : Bool) : decide (binN b ∈ ["and", "or", "not"]) = true := by cases b <;> decide
theorem bn2c (b : Bool) : decide (binN b ∈ ["all", "none"]) = false := by cases b <;> decide
theorem bnIs (b : Bool) : decide (binN b = "is") = false := by cases b <;> decide
theorem bnNot (b : Bool) : decide (binN b = "not") = false := by cases b <;> decide
theorem lits : decide ("all" ∈ ["all", "none", "is"]) = true ∧ decide ("none" ∈ ["all", "none", "is"]) = true ∧ decide ("is" ∈ ["all", "none", "is"]) = true ∧ decide ("not" ∈ ["all", "none", "is"]) = false ∧ decide ("not" ∈ ["and", "or"]) = false ∧ decide ("not" ∈ ["and", "or", "not"]) = true := by decide
def wfC : Cond → Bool
  | .is s => decide (s ∈ ["a", "b", "ab", "is"]) | .not c => wfC c | .look _ c => wfC c
  | .bin b c d => wfC c && wfC d && !decide (hdC c = binN b) && !decide (hdC d = binN b) | _ => true
theorem w_nin {M : Store} {Q : DK} {s : String} (ss : List String) : wCmp .nin (.str s) (.tup (ss.map D.str)) M Q = Q (.bl (!decide (s ∈ ss))) M := in_strs (M := M) (P := fun b => Q (.bl (!b)) M) ss
theorem w_in1 {M : Store} {Q : DK} {s t : String} : wCmp .in_ (.str s) (.tup [.str t]) M Q = Q (.bl (decide (s ∈ [t]))) M := w_in [t]
theorem htC_pos : ∀ c : Cond, 1 ≤ htC c
  | .all => Nat.le_refl 1
  | .none => Nat.le_refl 1
  | .is _ => Nat.le_refl 1
  | .not c => Nat.succ_le_succ (Nat.zero_le _)
  | .bin _ c d => Nat.succ_le_succ (Nat.zero_le _)
  | .look _ c => Nat.succ_le_succ (Nat.zero_le _)
theorem w_ext {M : Store} {p : Addr} {xs ys : List D} {Q : DK} (h : M p = some (.lst xs)) : wMt .extend (.ptr p) [.lst ys] M Q = (xs.length + ys.length ≤ line ∧ Q .non (M.put p (.lst (xs ++ ys)))) := by
  show (match M p with
    | some (.lst xs) => (match asL M (.lst ys) with | some ys => xs.length + ys.length ≤ line ∧ Q .non (M.put p (.lst (xs ++ ys))) | none => False)
    | _ => False) = _
  rw [h]; rfl
end VS
namespace VS
open PySem PySem.Spec PyProof.Rows L2
theorem rpl_strs {G : Glob} {F : Hp} : ∀ ss : List String, RpL G F (ss.map fun s => V.str (Str.ofString s)) (ss.map D.str)
  | [] => .nil
  | s :: ss => .cons (.str s) (rpl_strs ss)
inductive ValS : List String → List Value → Prop
  | nil : ValS [] []
  | cons {s : String} {t : Tok} {ss : List String} {vs : List Value} : ValS ss vs → ValS (s :: ss) (.str (Str.ofString s) t :: vs)
theorem ValS.vals : ∀ {ss : List String} {vs : List Value}, ValS ss vs → Vals (ss.map fun s => V.str (Str.ofString s)) vs
  | _, _, .nil => .nil
  | _, _, .cons h => .cons ⟨_, rfl⟩ h.vals
theorem glob_tup {G : Glob} {x : String} {ss : List String} {A : Addr} {od : Option Addr} {its : Array Value} {n : Nat} {sl : Array (Option Value)} (h : G.mg (Str.ofString x) = some (.ref A)) (hl : G.K.lookup A = some ⟨.type "tuple", od, .seq its n, sl⟩) (hz : its.size ≤ sizeLine) (hv : ValS ss its.toList) : GlobF G x (.tup (ss.map D.str)) :=
  ⟨.ref A, .ref A, h, rfl, fun F => .tup (.inr ⟨_, its, n, hl, rfl, rfl, hz, hv.vals⟩) (rpl_strs ss)⟩
theorem glob_tab {G : Glob} {x : String} {l : List (String × String)} {A : Addr} {es : Array DictEntry} {n : Nat} (h : G.mg (Str.ofString x) = some (.ref A)) (hl : G.K.lookup A = some ⟨.type "dict", none, .dict es n, #[]⟩) (hk : PySem.W.KeysLit G.w.params es.toList) (hs : (A == sysModules) = false) (he : TabE l es.toList) : GlobF G x (.tab l) :=
  ⟨.ref A, .ref A, h, rfl, fun F => .tab ⟨es, n, ⟨hl, hk, hs⟩, he⟩⟩
theorem w_inTab {M : Store} {Q : DK} {s : String} {l : List (String × String)} : wCmp .in_ (.str s) (.tab l) M Q = Q (.bl (lookT s l).isSome) M := rfl
theorem w_ixTab {M : Store} {Q : DK} {s t : String} {l : List (String × String)} (h : lookT s l = some t) : wIx (.tab l) (.str s) M Q = Q (.str t) M := by
  show (match lookT s l with | some t => Q (.str t) M | none => False) = _
  rw [h]
end VS
namespace VS
open PySem PySem.Spec PyProof.Rows L2
section
variable {X : Cx} {pos pos' tpos : Pos} {o i value : Expr} {td ty tv : TE}
theorem pe_kd0 : PE X (.Dict [] [] pos) (fun _ H Q => ∀ p, H p = none → (p == sysModules) = false → Q (.ref p) (upd H p (kdO X.prog X.w p []))) := ⟨fun pins s σ H Q I h =>
  wpAny_Dict_empty ⟨.ref s.heap.objs.size, _, I.laid (a := s.heap.objs.size) (o := kdO X.prog X.w s.heap.objs.size []) (t' := s.toks) (fun _ _ q => Heap.get?_push_of_some _ q) (Nat.le_refl _) (kd_ok ⟨_, #[], 0, Heap.get?_push_size _ rfl, ⟨rfl, rfl, rfl⟩, rfl, rfl, List.nodup_nil⟩), rfl, h _ (I.hok.fresh (Nat.le_refl _)) (beq_eq_false_iff_ne.mpr (Ne.symm (Nat.ne_of_lt I.big)))⟩⟩
def sKput (X : Cx) (td ty tv : TE) : TS := fun D σ H => tv σ H fun y H1 => td σ H1 fun x H2 => ty σ H2 fun z H3 => ∃ (p b : Addr) (k : NestedKey) (xs : List KE3) (u : Value),
  x = .ref p ∧ z = .ref b ∧ y = .bl true ∧ u = .bool true ∧ H3 p = some (kdO X.prog X.w p xs) ∧ xs.length ≤ sizeLine ∧
  (∀ pins s, Inv X pins σ H3 s → (nestedKind X.prog X.w).is s.heap k b ∧ ∀ e ∈ xs, (nestedKind X.prog X.w).is s.heap e.1 e.2.1) ∧ D.nx σ (upd H3 p (kdO X.prog X.w p (storedH xs k b u)))
theorem ps_kput (hu : X.A.units + 9 < cLine) (ho : PE X o td) (hi : PE X i ty) (hv : PE X value tv) (hs : swapsWith value (some (.Subscript o i pos')) pos.line X.env = pure false) :
    PS X (.Assign [.Subscript o i pos'] value pos) (sKput X td ty tv) := by
  refine ⟨fun pins s σ H D I h => ?_⟩
  refine wpAny_Assign_Subscript (thn (hv.run pins s σ H _ I h) fun r s1 ⟨v, H1, I1, rv, q1⟩ => thn (ho.run pins s1 σ H1 _ I1 q1) fun u s2 ⟨x, H2, I2, rx, q2⟩ => thn (hi.run pins s2 σ H2 _ I2 q2) fun iv s3 ⟨y, H3, I3, ry, p, b, k, xs, u0, ex, ey, ev, eu, hp, hl, hk, q3⟩ => ?_) hs
  subst ex; subst ey; subst ev; subst eu
  obtain rfl : u = Value.ref p := rx
  obtain rfl : iv = Value.ref b := ry
  obtain rfl : r = Value.bool true := rv
  obtain ⟨k1, k2⟩ := hk pins s3 I3
  obtain ⟨o', es, ep, e1, e2, e3, e4, e5⟩ := kd_at I3.hok hp
  refine wpAny_setItem_heap (knd := nestedKind X.prog X.w) (xs := xs) (hsz := hl) (by show X.A.units + 1 + 8 < cLine; omega) k1 ⟨o', es, ep, e1, e2, e3, e4, k2, e5⟩ fun h' hm' hs' => ?_
  obtain ⟨o2, es2, ep2, f1, f2, f3, f4, _, f5⟩ := hm'
  exact ⟨σ, _, I3.write (x := p) (e := p) (o := kdO X.prog X.w p (storedH xs k b (.bool true))) (by rw [hp]; exact True.intro) (.inl rfl) (fun c u hc e => hs'.extBut c u hc e) ⟨_, f1⟩ (kd_ok ⟨o2, es2, ep2, f1, f2, f3, f4, f5⟩), q3⟩
theorem call_list_kd (hc : X.calm = true) : CallR X (.type "list") (fun xs H Q => ∃ (p : Addr) (ks : List KE3), xs = [.ref p] ∧ KdAt X H p ks ∧ ∀ l, H l = none → Q (.ref l) (upd H l (.lst (ks.map fun k => V.ref k.2.1)))) := by
  intro pins s σ H xs us Q I r h
  obtain ⟨p, ks, rfl, KD, q⟩ := h
  have hs := KD.sm
  have hz := KD.len
  obtain ⟨u, rfl, rx⟩ := vals1 r
  cases rx
  obtain ⟨o', es, ep, e1, e2, e3, e4, _, e5⟩ := KD.of I
  have hl : es.size = ks.length := size_of_entries e4
  refine PySem.W.kdl_call (prog := X.prog) (w := X.w) (PySem.KdlSrc.rawDict (es := es) (ep := ep) hs) (I.ok.hd hc) ⟨o', e1, e2, e3⟩ (by omega) fun h' tk acc c' kp e it => ?_
  have hv : Vals (ks.map fun k => V.ref k.2.1) acc.toList := by
    have key : ∀ (l : List KE3) (vs : List Value), vs.length = l.length → (∀ (j : Nat) (v : Value) (k : KE3), vs[j]? = some v → l[j]? = some k → v = .ref k.2.1) → Vals (l.map fun k => V.ref k.2.1) vs := fun l => by
      induction l with
      | nil => intro vs h1 _; cases vs with | nil => exact .nil | cons _ _ => cases h1
      | cons k l ih =>
        intro vs h1 h2
        cases vs with
        | nil => cases h1
        | cons v vs => exact .cons (show v = Value.ref k.2.1 from h2 0 v k rfl rfl) (ih vs (by simpa using h1) fun j v' k' a b => h2 (j + 1) v' k' (by simpa using a) (by simpa using b))
    refine key ks acc.toList (by rw [Array.length_toList]; have := it.1; omega) fun j v k hv hk => ?_
    obtain ⟨hi, ev⟩ := it.2 j v (by rw [← Array.getElem?_toList]; exact hv)
    have en := entry_at (knd := nestedKind X.prog X.w) e4 j
    rw [hk, Array.getElem?_eq_getElem hi] at en
    have en2 : es[j] = entryOfKey (nestedKind X.prog X.w) k := by injection en
    rw [ev, en2]; rfl
  have ea : acc.toList.toArray = acc := by simp
  exact ⟨.ref s.heap.objs.size, _, I.laid (t' := tk) kp (Nat.le_refl _) (show ObjOk X.prog X.w _ h' _ (.lst (ks.map fun k => V.ref k.2.1)) from ⟨by rw [List.length_map]; exact hz, acc.toList, c', hv, by rw [ea]; exact e⟩), rfl, q _ (I.hok.fresh (Nat.le_refl _))⟩
end
end VS
namespace VS
open PySem PySem.Spec PyProof.Rows L2
section
variable {M : Model} {prog : Program} {w : World} {A : Around} {E : Value → Shared → Prop} {h : Heap} {g : Array GenState} {d : Drawn} {t : Nat} {os : OsState}
variable {nm q : Str} {C N : Addr} {bs bm : List Value} {hdct : Bool} {sn : List Str} {sub : List Value} {ab : Bool} {col : Option Bool} {dd : Option Addr} {k0 k1 k2 k3 k5 : Option Value}
theorem call_vw {u e t0 : Addr} {rest : List Value} {Q : Value → Shared → Prop}
    (hC : h.get? C = some (excClassObj nm q C N bs bm hdct sn sub ab col dd k0 k1 k2 k3 k5 "ValueError.__new__")) (he : h.get? e = some (HandSPX.excO C t0)) (hu : h.get? u = some (PySem.W.kxs_mw "ValueError.__init__" e)) (hz : rest.length ≤ sizeLine)
    (hq : ∀ h2 t1, (∀ b o, b ≠ e → h.get? b = some o → h2.get? b = some o) → h2.get? e = some (HandSPX.excO C t1) → Q .none ⟨h2, g, d, t, os⟩) :
    wpAny (model prog w) A (call (.ref u) rest) Q E ⟨h, g, d, t, os⟩ := by
  refine wpAny_call (codeAny_of_tree ?_)
  show wpAny _ A.in1 (callAny (.ref u) ⟨rest, []⟩) _ _ _
  simp only [callAny]
  refine wpAny_bind (wpAny_load hu ?_)
  simp only [PySem.W.kxs_mw, show (Value.type "method-wrapper" == Value.type "method" || Value.type "method-wrapper" == Value.type "builtin_function_or_method" || Value.type "method-wrapper" == Value.type "method-wrapper") = true by decide, if_true]
  refine PySem.W.KFB.if_so (by decide) ?_
  refine wpAny_bind (PySem.W.check_bound_init PySem.F.excBase_ValueError.toExcCallFacts hC he rfl ?_)
  refine wpAny_bind (wpAny_pure (wpAny_pure ?_))
  refine ⟨plainId_quiet PySem.F.excBase_ValueError.init.plain _, codeAny_builtin PySem.F.excBase_ValueError.initEntry ?_⟩
  rw [Around.under_plainId PySem.F.excBase_ValueError.init.plain _]
  wp_walk
  refine hq _ h.objs.size (fun b o hb ho => ?_) ?_
  · rw [Heap.get?_update_other _ _ (Ne.symm hb)]
    exact Heap.get?_push_of_some _ ho
  · rw [Heap.get?_update_self _ (Heap.get?_push_of_some _ he) rfl]
    rfl
end
structure IniText (st : Stmt) : Prop where
  body : ∃ (p0 p1 p2 p3 p4 p5 p6 p7 p8 p9 p10 p11 p12 p13 p14 p15 p16 p17 p18 : Pos) (j : Nat), defBody st =
    [.Expr (.Call (.Attribute (.Call (.Name "super" p0) [] [] p1) "__init__" p2) [.JoinedStr [.FormattedValue (.Name "message" p3) (-1) none p4, .Constant (.str " at ") j p5, .FormattedValue (.Name "place" p6) (-1) none p7] p8] [] p9) p10,
     .Assign [.Attribute (.Name "self" p11) "place" p12] (.Name "place" p13) p14, .Assign [.Attribute (.Name "self" p15) "message" p16] (.Name "message" p17) p18] ∧
    ∀ env : PySem.Env, ∃ pl : Sem Bool, eval (.Call (.Attribute (.Call (.Name "super" p0) [] [] p1) "__init__" p2) [.JoinedStr [.FormattedValue (.Name "message" p3) (-1) none p4, .Constant (.str " at ") j p5, .FormattedValue (.Name "place" p6) (-1) none p7] p8] [] p9) env = (do
      let ov ← attributeBase (.Call (.Name "super" p0) [] [] p1) "__init__" env (eval (.Call (.Name "super" p0) [] [] p1) env)
      standAt p2.atName
      let (f, first) ← holding [ov] (getMethod ov "__init__" pl)
      callWith p9 f first (backTo p9 (starEach [.JoinedStr [.FormattedValue (.Name "message" p3) (-1) none p4, .Constant (.str " at ") j p5, .FormattedValue (.Name "place" p6) (-1) none p7] p8] env)) [])
  kind : (defScope st).kind = .function
  co : (defScope st).isCoroutine = false
  gen : (defScope st).isGenerator = false
  nocell : ∀ x ∈ (defScope st).names, x.2 ≠ .cell
  onefree : ∀ x ∈ (defScope st).names, x.2 = .free → x.1 = ("__class__" : Str)
  lS : (defScope st).names.lookup ("self" : Str) = some .local
  lP : (defScope st).names.lookup ("place" : Str) = some .local
  lM : (defScope st).names.lookup ("message" : Str) = some .local
  gS : (defScope st).names.lookup ("super" : Str) = some .globalImplicit
  fC : (defScope st).names.lookup ("__class__" : Str) = some .free
  arg : ((defArgs st).posonlyargs ++ (defArgs st).args).head?.map (·.arg) = some "self"
structure IniAt (P : Program) (K : PySem.W.Frag) (D fI : Addr) (fd : FuncData) (st : Stmt) (qual : Str) : Prop where
  ex : ∃ (oc : Value) (od : Option Addr) (kV doc pm : Value) (an : Option Addr) (cda : Addr) (ct : Value) (osl : Array (Option Value)) (cc : Addr) (ccl : Value) (cdd : Option Addr) (vs : Array Value) (ccs : Array (Option Value)) (file : Str) (tf : Tok) (cl : Value) (cld : Option Addr) (csl : Array (Option Value)),
    fd = PySem.W.ksFn "__init__" qual (defArgs st) (defBody st) (defScope st) .none kV doc pm an (.ref cda) ct cc ∧ K.lookup fI = some ⟨oc, od, .func fd, osl⟩ ∧ PySem.W.codeIn K (.ref cda) qual = true ∧
    K.lookup cda = some ⟨ccl, cdd, .fields vs, ccs⟩ ∧ vs[2]? = some (.str file tf) ∧ ((P.main.file : Str) == file) = true ∧ K.lookup cc = some ⟨cl, cld, .cell (some (.ref D)), csl⟩
  cls : OexC K D
  sub : PySem.W.mroIn K D (.ref D) = some true
  sup : PySem.W.ks_superIn K D D "__init__" = some (some (.builtin "ValueError.__init__"))
  isV : PySem.W.subIn K (.ref D) (.type "ValueError") = some true
  noany : PySem.W.nsIn K cStatics "thirdparty.any" = some none
  htop : (P.main.scope.names.lookup ("super" : Str)).isSome = false
  nP : PySem.W.findIn K (.ref D) "place" = some none
  nM : PySem.W.findIn K (.ref D) "message" = some none
def cxI (P : Program) (w : World) (K : PySem.W.Frag) (mg : Str → Option Value) (base : Heap) (qual : Str) (scope : Scope) (f cda cc : Addr) (A : Around) (outer : List PySem.Env) (s : Shared) (H : Hp) : Cx where
  prog := P
  w := w
  K := K
  mg := mg
  base := base
  A := A.deeper (PySem.W.ksEnv qual scope s.heap.objs.size f (.ref cda) cc)
  N := ["self", "place", "message"]
  s_0 := s
  H_0 := H
  env := PySem.W.ksEnv qual scope s.heap.objs.size f (.ref cda) cc
  outer := outer
  stack := PySem.W.ksEnv qual scope s.heap.objs.size f (.ref cda) cc :: outer
  ex := []
  calm := true
  fn := fun x => !(x == ("__class__" : Str))
  pn := []
  xe := fun _ _ => False
theorem one_cell {x y : Str} {cc c : Addr} (h : List.lookup x [((y : Str), cc)] = some c) : x = y ∧ c = cc := by
  rw [List.lookup_cons] at h
  by_cases e : (x == y) = true
  · rw [e] at h
    exact ⟨by simpa using e, (Option.some.inj h).symm⟩
  · rw [Bool.not_eq_true] at e
    rw [e] at h
    cases h
theorem inv_ini {P : Program} {w : World} {K : PySem.W.Frag} {mg : Str → Option Value} {base : Heap} {qual : Str} {st : Stmt} {f cda cc D : Addr} {cl : Value} {cld : Option Addr} {csl : Array (Option Value)} {A : Around} {outer : List PySem.Env} {s : Shared} {H : Hp} {us : List Value} {vs : List V} {h1 : Heap} {t1 : Nat}
    (T : IniText st) (hcc : K.lookup cc = some ⟨cl, cld, .cell (some (.ref D)), csl⟩) (hd : A.handled = none) (e0 : Env0 P w K mg base A outer s H) (hl : vs.length = 3) (r : Vals vs us)
    (hns : h1.Ns s.heap.objs.size (fun x => ((["self", "place", "message"] : List Str).zip us).reverse.lookup x)) (hk : ∀ b o, s.heap.get? b = some o → h1.get? b = some o) :
    Inv (cxI P w K mg base qual (defScope st) f cda cc A outer s H) [] (vs.map some) H { s with heap := h1, toks := t1 } := by
  have kin0 := e0.mod.kin
  have bcc : base.get? cc = some ⟨cl, cld, .cell (some (.ref D)), csl⟩ := kin0 _ _ hcc
  have scc := e0.bs _ _ bcc
  have noA : ∀ b : Addr, b ∉ (cxI P w K mg base qual (defScope st) f cda cc A outer s H).ex := fun b z => absurd (show b ∈ ([] : List Addr) from z) (by simp)
  have lk1 : ∀ {x : Str} {c : Addr}, (cxI P w K mg base qual (defScope st) f cda cc A outer s H).env.cells.lookup x = some c → x = "__class__" ∧ c = cc := fun {x c} h => one_cell h
  refine ⟨⟨e0.mod, T.kind, rfl, rfl, Nat.le_refl _, fun y z c q1 q2 => (lk1 q1).1.trans (lk1 q2).1.symm, fun y hy => ?_, fun y c q q1 => ?_, fun _ => hd, Around.frames_deeper e0.frames, .inr ⟨rfl, rfl⟩, fun b z => absurd z (noA b), e0.bs, e0.bsz, fun b _ _ => noA b, fun b z => absurd z (noA b), e0.funs, e0.frf⟩,
    rfl, e0.bare, Un.kept hk, ⟨_, hns, fun i y v q1 q2 q3 => ?_⟩, fun y c q => ?_, e0.hok.fresh (Nat.le_refl _), fun y c q => ?_, fun p hp => absurd (show p ∈ ([] : List (Addr × Obj)) from hp) (by simp), e0.hok.kept hk, ?_⟩
  · have hy : (defScope st).names.lookup y = some .cell ∨ (defScope st).names.lookup y = some .free := hy
    rcases hy with hy | hy
    · exact absurd rfl (T.nocell _ (PySem.mem_of_lookup hy))
    · have z := T.onefree _ (PySem.mem_of_lookup hy) rfl
      refine ⟨cc, ?_⟩
      show List.lookup y [("__class__", cc)] = some cc
      have z' : y = "__class__" := z
      rw [z']
      rfl
  · obtain ⟨rfl, _⟩ := lk1 q1
    have q' : (!(("__class__" : Str) == ("__class__" : Str))) = true := q
    exact absurd q' (by decide)
  · have hi : i < 3 := by
      have := (List.getElem?_eq_some_iff.mp q1).1
      exact this
    have ha : vs[i]? = some v := by
      rw [List.getElem?_map] at q2
      cases z : vs[i]? with
      | none => rw [z] at q2; cases q2
      | some a => rw [z] at q2; cases q2; rfl
    obtain ⟨u, hu, rv⟩ := r.get ha
    have lus : us.length = 3 := by rw [← r.length, hl]
    match us, lus with
    | [u0, u1, u2], _ =>
      have look : (defScope st).names.lookup y = some .local ∧ ((["self", "place", "message"] : List Str).zip [u0, u1, u2]).reverse.lookup y = some u := by
        match i, hi with
        | 0, _ => cases q1; cases hu; exact ⟨T.lS, rfl⟩
        | 1, _ => cases q1; cases hu; exact ⟨T.lP, rfl⟩
        | 2, _ => cases q1; cases hu; exact ⟨T.lM, rfl⟩
      exact ⟨u, rv, .inl look⟩
  · obtain ⟨rfl, rfl⟩ := lk1 q
    exact ⟨_, _, hk _ _ scc.1, rfl⟩
  · obtain ⟨rfl, rfl⟩ := lk1 q
    exact scc.2
  · show (vs.map some).length = 3
    rw [List.length_map, hl]
def spIni (D : Addr) : Sp := fun vs H Q _ => ∃ (a : Addr) (i : Int) (m : String), vs = [.ref a, .int i, .str (Str.ofString m)] ∧ i.natAbs.log2 < 1920 ∧ (toString i).length ≤ 1000000 ∧ m.length ≤ 1000000 ∧ H a = some (exo a D none) ∧
  ∀ dx, H dx = none → dx ≠ a → Q .non (upd (upd (upd H dx (exd dx [("place", .int i)])) a (exo a D (some dx))) dx (exd dx [("message", .str (Str.ofString m)), ("place", .int i)]))
theorem ini_ok {P : Program} {w : World} {K : PySem.W.Frag} {mg : Str → Option Value} {base : Heap} {k : Nat} {D fI : Addr} {fd : FuncData} {st : Stmt} {qual : Str} (T : IniText st) (Z : IniAt P K D fI fd st qual) (hsup : mg "super" = none) :
    FnOk P w K mg base (L2.CX P w) (k + 1) fI fd ["self", "place", "message"] (spIni D) := by
  refine ⟨fun vs H Q E ⟨a, i, m, e, _⟩ => by rw [e]; rfl, fun A outer s H args us vs Q E hr e0 hb r hsp => ?_⟩
  obtain ⟨oc, od, kV, doc, pm, an, cda, ct, osl, cc, ccl, cdd, cvs, ccs, file, tf, cl, cld, csl, rfl, lk, hcd, lcd, hv2, hfile, lcc⟩ := Z.ex
  obtain ⟨a, i, m, rfl, i1, i2, m1, ha, hq⟩ := hsp
  obtain ⟨p0, p1, p2, p3, p4, p5, p6, p7, p8, p9, p10, p11, p12, p13, p14, p15, p16, p17, p18, j, hbody, hev⟩ := T.body
  have KX : K.In s.heap := e0.mod.kin.keeps fun b o e => (e0.bs b o e).1
  have lim : s.heap.NoLimit := e0.mod.nolimit.keeps fun b o e => (e0.bs b o e).1
  have hloc : ∀ x ∈ (["self", "place", "message"] : List Str).zip us, (defScope st).names.lookup x.1 = some .local := fun ⟨n, v⟩ hx => by
    have hn := (List.of_mem_zip hx).1
    simp only [List.mem_cons, List.not_mem_nil, or_false] at hn
    rcases hn with rfl | rfl | rfl
    · exact T.lS
    · exact T.lP
    · exact T.lM
  refine ks_codeAny_call_defAt (fd := PySem.W.ksFn "__init__" qual (defArgs st) (defBody st) (defScope st) .none kV doc pm an (.ref cda) ct cc) hr.depth (KX _ _ lk) rfl lim (PySem.W.codeRec_of KX hcd) rfl hb T.nocell hloc (fun h1 hns keep => ?_) T.co T.gen T.kind
  have I : Inv (cxI P w K mg base qual (defScope st) fI cda cc A outer s H) [] [some (.ref a), some (.int i), some (.str (Str.ofString m))] H { s with heap := h1, toks := s.toks + ((["self", "place", "message"] : List Str).zip us).length } :=
    inv_ini T lcc hr.hd e0 rfl r hns keep
  generalize hS : ({ s with heap := h1, toks := s.toks + ((["self", "place", "message"] : List Str).zip us).length } : Shared) = s1 at I ⊢
  have lc : ∀ B : List Stmt, PySem.wpAt (model P w) (A.deeper (PySem.W.ksEnv qual (defScope st) s.heap.objs.size fI (.ref cda) cc)) (.func B (PySem.W.ksEnv qual (defScope st) s.heap.objs.size fI (.ref cda) cc)) (execs (defBody st) (PySem.W.ksEnv qual (defScope st) s.heap.objs.size fI (.ref cda) cc))
      (fun f s' => CR (L2.CX P w) outer P w H s Q E (.ok (.ret (match f with | .ret v => v | _ => .none))) s') (fun _ _ => False) s1 := fun B => by
    rw [hbody]
    obtain ⟨pl, hev⟩ := hev (PySem.W.ksEnv qual (defScope st) s.heap.objs.size fI (.ref cda) cc)
    refine ks_wpAt_execs_cons (ks_wpAt_Expr_any (ks_wpAt_MethodCall ?_ hev) (by show interactive _ = false; unfold interactive; rw [show (PySem.W.ksEnv qual (defScope st) s.heap.objs.size fI (.ref cda) cc).scope.kind = .function from T.kind]; rfl))
    obtain ⟨nm, q, N, bs, bm, sn, sub, ab, col, dd, k0, k1, k2, k3, k5, hC, hbm⟩ := Z.cls.cls
    have hcl : PySem.W.clsIn K D = some { name := nm, bases := bs, mro := .ref D :: bm, ns := N, qualname := q, hasDict := true, slotNames := sn, subclasses := sub, abstract := ab, collection := col, hasDel := false } := by unfold PySem.W.clsIn; rw [hC] <;> rfl
    have hark : ∃ ar : Arg, ((defArgs st).posonlyargs ++ (defArgs st).args).head? = some ar ∧ ar.arg = "self" := by
      have z := T.arg
      cases y : ((defArgs st).posonlyargs ++ (defArgs st).args).head? with
      | none => rw [y] at z; cases z
      | some ar => rw [y] at z; exact ⟨ar, rfl, Option.some.inj z⟩
    obtain ⟨ar, har, hself⟩ := hark
    refine ks_wpAt_super_base (env := PySem.W.ksEnv qual (defScope st) s.heap.objs.size fI (.ref cda) cc) T.gS T.fC (by decide) rfl (I.kIn _ _ lk) rfl har rfl (I.kIn _ _ lcd) rfl hv2 hfile Z.htop ?_
    obtain ⟨mb, b1, b2⟩ := I.mod.blt
    refine PySem.W.ks_loadName_global T.kind T.gS (Calls.loadGlobal_builtin (env := PySem.W.ksEnv qual (defScope st) s.heap.objs.size fI (.ref cda) cc) (I.mod.glob.keeps I.bk) hsup (b1.keeps I.bk) ((b2 "super" (by decide)).trans (by first | boot_by_name | rfl | kernel_rfl)) ⟨rfl, ?_⟩)
    refine wpAny_loadName_free T.kind T.fC rfl ⟨_, I.kIn _ _ lcc, rfl⟩ ?_
    rw [hself]
    obtain ⟨m', hn, hl⟩ := id I.loc
    obtain ⟨u, ru, lu⟩ := hl 0 "self" (.ref a) rfl rfl (.inl T.lS)
    obtain rfl : u = Value.ref a := ru
    have hm' : m' "self" = some (.ref a) := by
      rcases lu with ⟨_, e⟩ | ⟨e, _⟩
      · exact e
      · have e : (defScope st).names.lookup ("self" : Str) = some .cell ∨ (defScope st).names.lookup ("self" : Str) = some .free := e
        rw [T.lS] at e
        rcases e with e | e <;> cases e
    refine wpAny_loadName_local T.kind T.lS hn hm' ?_
    obtain ⟨t1, ho⟩ := exo_at I.hok ha
    have hD := I.kIn _ _ hC
    obtain ⟨hh, g, d, tk, os⟩ := s1
    refine ks_wpAny_isType_cls hD rfl ⟨rfl, ?_⟩
    refine ks_wpAny_call_super hD rfl ho rfl (fun c z => by cases z) (PySem.W.looks_mroIn I.kIn Z.sub) (fun h2 e2 keep2 => ?_)
    have I2 := I.kept (t' := tk) keep2
    have ho2 := keep2 _ _ ho
    have J2 : PySem.W.InstAt h2 a { cls := .ref D, dict := none, data := .fields #[.ref t1, .none, .none, .none, .bool false, .none] } D none := ⟨ho2, rfl, rfl, trivial⟩
    have hIs : PySem.W.Looks (model P w) h2 (isInstance (.ref a) (.type "ValueError")) true := J2.type.andThen (PySem.W.looks_subIn I2.kIn Z.isV)
    have hsu := Z.sup
    unfold PySem.W.ks_superIn at hsu
    rw [hcl] at hsu
    refine PySem.W.kxs_getMethod PySem.W.kxs_ValueError e2 (PySem.W.looks_opaque I2.kIn Z.noany) (l₀ := .ref D :: bm) ?_ rfl I2.kIn hsu hIs (PySem.W.ks_ne I2.kIn J2 hcl) (by decide) ?_
    · exact fun A Q E s k q => wpAny_bind ((PySem.W.looks_clsIn I2.kIn hcl) A _ E s k (wpAny_pure q))
    have keep3 : ∀ b o, h2.get? b = some o → (h2.push (PySem.W.kxs_mw "ValueError.__init__" a)).get? b = some o := fun b o z => Heap.get?_push_of_some _ z
    have I3 := I2.kept (t' := tk + 1) keep3
    have I4 : Inv (cxI P w K mg base qual (defScope st) fI cda cc A outer s H) [(h2.objs.size, PySem.W.kxs_mw "ValueError.__init__" a)] [some (.ref a), some (.int i), some (.str (Str.ofString m))] H ⟨h2.push (PySem.W.kxs_mw "ValueError.__init__" a), g, d, tk + 1, os⟩ := I3.pins_of fun p hp => by
      rw [List.mem_singleton] at hp
      subst hp
      refine ⟨Heap.get?_push_size _ rfl, I2.hok.fresh (Nat.le_refl _), Nat.ne_of_gt I2.lt, I2.nofs (Nat.le_refl _), fun v z => by cases z⟩
    refine PySem.W.kxs_callWith (i := "ValueError.__init__") (x := a) (by rfl) (Calls.evalArgs_plain ?_)
    have pj : PJ (cxI P w K mg base qual (defScope st) fI cda cc A outer s H) [.FormattedValue (.Name "message" p3) (-1) none p4, .Constant (.str " at ") j p5, .FormattedValue (.Name "place" p6) (-1) none p7] [tFmt (tVar 2), tC (.str " at "), tFmt (tVar 1)] :=
      .cons (pe_fmt (pe_var rfl (.inl T.lM))) (.cons pe_str (.cons (pe_fmt (pe_var rfl (.inl T.lP))) .nil))
    have pa : PA (cxI P w K mg base qual (defScope st) fI cda cc A outer s H) [.JoinedStr [.FormattedValue (.Name "message" p3) (-1) none p4, .Constant (.str " at ") j p5, .FormattedValue (.Name "place" p6) (-1) none p7] p8] _ := pa_cons (pe_joined pj) pa_nil
    refine wpAny_mono (pa.run p9 [(h2.objs.size, PySem.W.kxs_mw "ValueError.__init__" a)] _ _ H (fun vs H1 => (∃ z, vs = [z]) ∧ H1 = H) I4 ?_) (fun us1 s3 ⟨vs1, H3, I5, r5, ⟨z, ez⟩, eH⟩ => ?_) fun _ _ z => z.elim
    · have lm : (Str.ofString m).length ≤ 1000000 := by rw [ofString_len]; exact m1
      have li : (Str.ofString (toString i)).length ≤ 1000000 := by rw [ofString_len]; exact i2
      have la : (Str.ofString " at ").length = 4 := by rw [ofString_len]; rfl
      have ap : ∀ x y : Str, (x ++ y).length = x.length + y.length := fun x y => Str.length_append x y
      have l0 : Str.empty.length = 0 := rfl
      have ls : sizeLine = 16777216 := line_eq
      have e4 : (Str.empty ++ Str.ofString m ++ Str.ofString " at " ++ Str.ofString (toString i)).length ≤ sizeLine := by rw [ap, ap, ap]; omega
      exact ⟨_, rfl, .inl ⟨_, rfl, by omega, _, rfl, by rw [ap]; omega, _, rfl, by rw [ap, ap]; omega, ⟨_, rfl, .inr ⟨i, rfl, i1, _, rfl, e4, ⟨_, rfl⟩, rfl⟩⟩⟩⟩
    · subst ez; subst eH
      cases r5 with
      | @cons _ u0 _ ur ru rn =>
        cases rn
        refine ⟨(I5.pin (h2.objs.size, PySem.W.kxs_mw "ValueError.__init__" a) (List.mem_append_right _ (List.mem_singleton.mpr rfl))).1, ?_⟩
        obtain ⟨h3, g3, d3, tk3, os3⟩ := s3
        obtain ⟨t3, ho3⟩ := exo_at I5.hok ha
        refine call_vw (I5.kIn _ _ hC) ho3 (I5.pin (h2.objs.size, PySem.W.kxs_mw "ValueError.__init__" a) (List.mem_append_right _ (List.mem_singleton.mpr rfl))).1 (by show 1 ≤ sizeLine; rw [sizeLine_eq]; omega) fun h4 t4 k4 hx4 => ?_
        have J := I5.write (t' := tk3) (x := a) (e := a) (o := exo a D none) (by rw [ha]; exact True.intro) (.inl rfl) k4 ⟨_, hx4⟩ (exo_ok hx4)
        have eu : upd H3 a (exo a D none) = H3 := by
          funext b
          by_cases hb : b = a
          · rw [hb, upd_same, ha]
          · rw [upd_ne hb]
        rw [eu] at J
        refine wpAt_of_wpAny (wpAny_mono ((pss_cons (X := cxI P w K mg base qual (defScope st) fI cda cc A outer s H3) (ps_ost (pe_var (i := 0) rfl (.inl T.lS)) (pe_var (i := 1) rfl (.inl T.lP))) (pss_one (ps_ost (pe_var (i := 0) rfl (.inl T.lS)) (pe_var (i := 2) rfl (.inl T.lM))))).run _ _ _ H3 { nx := fun _ H' => Q .non H', rt := Q } J ?_) (fun f s' hs => ?_) fun _ _ z => z.elim)
        · refine ⟨_, rfl, _, rfl, a, D, rfl, Z.cls, Z.nP, .inl ⟨ha, fun dx hdx hne => ⟨_, rfl, _, rfl, a, D, rfl, Z.cls, Z.nM, .inr ⟨dx, [("place", .int i)], upd_same, ?_, (by show 1 ≤ 900; omega), hq dx hdx hne⟩⟩⟩⟩
          rw [upd_ne hne, upd_same]
        · cases f with
          | ret u =>
            obtain ⟨v, σ', H', J, rv, q⟩ := hs
            exact ⟨v, H', J.os, J.bare, J.base, J.hok, rv, q⟩
          | next =>
            obtain ⟨σ', H', J, q⟩ := hs
            exact ⟨V.non, H', J.os, J.bare, J.base, J.hok, rfl, q⟩
          | brk =>
            obtain ⟨_, _, _, q⟩ := hs
            exact False.elim q
          | cont =>
            obtain ⟨_, _, _, q⟩ := hs
            exact False.elim q
  exact ks_wpAt_mono (lc _) (fun _ _ z => z) fun _ _ z => z.elim
end VS
namespace VX
open PySem PySem.Spec PyProof.Rows L2
open VS (IniText IniAt cxI inv_ini line_eq)
def tx0 (m : String) (i : Int) : Str := Str.empty ++ Str.ofString m ++ Str.ofString " at " ++ Str.ofString (toString i)
section
variable {M : Model} {prog : Program} {w : World} {A : Around} {E : Value → Shared → Prop} {h : Heap} {g : Array GenState} {d : Drawn} {t : Nat} {os : OsState}
variable {nm q : Str} {C N : Addr} {bs bm : List Value} {hdct : Bool} {sn : List Str} {sub : List Value} {ab : Bool} {col : Option Bool} {dd : Option Addr} {k0 k1 k2 k3 k5 : Option Value}
theorem call_vt {u e t0 : Addr} {rest : List Value} {Q : Value → Shared → Prop}
    (hC : h.get? C = some (excClassObj nm q C N bs bm hdct sn sub ab col dd k0 k1 k2 k3 k5 "ValueError.__new__")) (he : h.get? e = some (HandSPX.excO C t0)) (hu : h.get? u = some (PySem.W.kxs_mw "ValueError.__init__" e)) (hz : rest.length ≤ sizeLine)
    (hq : ∀ h2, (∀ b o, b ≠ e → (h.push (PySem.W.kdv_tup rest)).get? b = some o → h2.get? b = some o) → h2.get? e = some (HandSPX.excO C h.objs.size) → Q .none ⟨h2, g, d, t, os⟩) :
    wpAny (model prog w) A (call (.ref u) rest) Q E ⟨h, g, d, t, os⟩ := by
  refine wpAny_call (codeAny_of_tree ?_)
  show wpAny _ A.in1 (callAny (.ref u) ⟨rest, []⟩) _ _ _
  simp only [callAny]
  refine wpAny_bind (wpAny_load hu ?_)
  simp only [PySem.W.kxs_mw, show (Value.type "method-wrapper" == Value.type "method" || Value.type "method-wrapper" == Value.type "builtin_function_or_method" || Value.type "method-wrapper" == Value.type "method-wrapper") = true by decide, if_true]
  refine PySem.W.KFB.if_so (by decide) ?_
  refine wpAny_bind (PySem.W.check_bound_init PySem.F.excBase_ValueError.toExcCallFacts hC he rfl ?_)
  refine wpAny_bind (wpAny_pure (wpAny_pure ?_))
  refine ⟨plainId_quiet PySem.F.excBase_ValueError.init.plain _, codeAny_builtin PySem.F.excBase_ValueError.initEntry ?_⟩
  rw [Around.under_plainId PySem.F.excBase_ValueError.init.plain _]
  wp_walk
  refine hq _ (fun b o hb ho => ?_) ?_
  · rw [Heap.get?_update_other _ _ (Ne.symm hb)]
    exact ho
  · rw [Heap.get?_update_self _ (Heap.get?_push_of_some _ he) rfl]
    rfl
end
theorem tup_new {h : Heap} {us : List Value} : IsTup (h.push (PySem.W.kdv_tup us)) h.objs.size us.toArray := IsTup.new _ _
def spIni (D : Addr) : Sp := fun vs H Q _ => ∃ (a t0 : Addr) (i : Int) (m : String), vs = [.ref a, .int i, .str (Str.ofString m)] ∧ i.natAbs.log2 < 1920 ∧ (toString i).length ≤ 1000000 ∧ m.length ≤ 1000000 ∧ H a = some (exoT a D none t0) ∧
  ∀ dx t1, upd H t1 (.tup [V.str (tx0 m i)]) dx = none → dx ≠ a → H t1 = none → t1 ≠ a → Q .non (upd (upd (upd (upd (upd H t1 (.tup [V.str (tx0 m i)])) a (exoT a D none t1)) dx (exd dx [("place", .int i)])) a (exoT a D (some dx) t1)) dx (exd dx [("message", .str (Str.ofString m)), ("place", .int i)]))
theorem ini_t {P : Program} {w : World} {K : PySem.W.Frag} {mg : Str → Option Value} {base : Heap} {k : Nat} {D fI : Addr} {fd : FuncData} {st : Stmt} {qual : Str} (T : IniText st) (Z : IniAt P K D fI fd st qual) (hsup : mg "super" = none) :
    FnOk P w K mg base (CX P w) (k + 1) fI fd ["self", "place", "message"] (spIni D) := by
  refine ⟨fun vs H Q E ⟨a, t0, i, m, e, _⟩ => by rw [e]; rfl, fun A outer s H args us vs Q E hr e0 hb r hsp => ?_⟩
  obtain ⟨oc, od, kV, doc, pm, an, cda, ct, osl, cc, ccl, cdd, cvs, ccs, file, tf, cl, cld, csl, rfl, lk, hcd, lcd, hv2, hfile, lcc⟩ := Z.ex
  obtain ⟨a, t0, i, m, rfl, i1, i2, m1, ha, hq⟩ := hsp
  obtain ⟨p0, p1, p2, p3, p4, p5, p6, p7, p8, p9, p10, p11, p12, p13, p14, p15, p16, p17, p18, j, hbody, hev⟩ := T.body
  have KX : K.In s.heap := e0.mod.kin.keeps fun b o e => (e0.bs b o e).1
  have lim : s.heap.NoLimit := e0.mod.nolimit.keeps fun b o e => (e0.bs b o e).1
  have hloc : ∀ x ∈ (["self", "place", "message"] : List Str).zip us, (defScope st).names.lookup x.1 = some .local := fun ⟨n, v⟩ hx => by
    have hn := (List.of_mem_zip hx).1
    simp only [List.mem_cons, List.not_mem_nil, or_false] at hn
    rcases hn with rfl | rfl | rfl
    · exact T.lS
    · exact T.lP
    · exact T.lM
  refine ks_codeAny_call_defAt (fd := PySem.W.ksFn "__init__" qual (defArgs st) (defBody st) (defScope st) .none kV doc pm an (.ref cda) ct cc) hr.depth (KX _ _ lk) rfl lim (PySem.W.codeRec_of KX hcd) rfl hb T.nocell hloc (fun h1 hns keep => ?_) T.co T.gen T.kind
  have I : Inv (cxI P w K mg base qual (defScope st) fI cda cc A outer s H) [] [some (.ref a), some (.int i), some (.str (Str.ofString m))] H { s with heap := h1, toks := s.toks + ((["self", "place", "message"] : List Str).zip us).length } :=
    inv_ini T lcc hr.hd e0 rfl r hns keep
  generalize hS : ({ s with heap := h1, toks := s.toks + ((["self", "place", "message"] : List Str).zip us).length } : Shared) = s1 at I ⊢
  have lc : ∀ B : List Stmt, PySem.wpAt (model P w) (A.deeper (PySem.W.ksEnv qual (defScope st) s.heap.objs.size fI (.ref cda) cc)) (.func B (PySem.W.ksEnv qual (defScope st) s.heap.objs.size fI (.ref cda) cc)) (execs (defBody st) (PySem.W.ksEnv qual (defScope st) s.heap.objs.size fI (.ref cda) cc))
      (fun f s' => CR (CX P w) outer P w H s Q E (.ok (.ret (match f with | .ret v => v | _ => .none))) s') (fun _ _ => False) s1 := fun B => by
    rw [hbody]
    obtain ⟨pl, hev⟩ := hev (PySem.W.ksEnv qual (defScope st) s.heap.objs.size fI (.ref cda) cc)
    refine ks_wpAt_execs_cons (ks_wpAt_Expr_any (ks_wpAt_MethodCall ?_ hev) (by show interactive _ = false; unfold interactive; rw [show (PySem.W.ksEnv qual (defScope st) s.heap.objs.size fI (.ref cda) cc).scope.kind = .function from T.kind]; rfl))
    obtain ⟨nm, q, N, bs, bm, sn, sub, ab, col, dd, k0, k1, k2, k3, k5, hC, hbm⟩ := Z.cls.cls
    have hcl : PySem.W.clsIn K D = some { name := nm, bases := bs, mro := .ref D :: bm, ns := N, qualname := q, hasDict := true, slotNames := sn, subclasses := sub, abstract := ab, collection := col, hasDel := false } := by unfold PySem.W.clsIn; rw [hC] <;> rfl
    have hark : ∃ ar : Arg, ((defArgs st).posonlyargs ++ (defArgs st).args).head? = some ar ∧ ar.arg = "self" := by
      have z := T.arg
      cases y : ((defArgs st).posonlyargs ++ (defArgs st).args).head? with
      | none => rw [y] at z; cases z
      | some ar => rw [y] at z; exact ⟨ar, rfl, Option.some.inj z⟩
    obtain ⟨ar, har, hself⟩ := hark
    refine ks_wpAt_super_base (env := PySem.W.ksEnv qual (defScope st) s.heap.objs.size fI (.ref cda) cc) T.gS T.fC (by decide) rfl (I.kIn _ _ lk) rfl har rfl (I.kIn _ _ lcd) rfl hv2 hfile Z.htop ?_
    obtain ⟨mb, b1, b2⟩ := I.mod.blt
    refine PySem.W.ks_loadName_global T.kind T.gS (Calls.loadGlobal_builtin (env := PySem.W.ksEnv qual (defScope st) s.heap.objs.size fI (.ref cda) cc) (I.mod.glob.keeps I.bk) hsup (b1.keeps I.bk) ((b2 "super" (by decide)).trans (by first | boot_by_name | rfl | kernel_rfl)) ⟨rfl, ?_⟩)
    refine wpAny_loadName_free T.kind T.fC rfl ⟨_, I.kIn _ _ lcc, rfl⟩ ?_
    rw [hself]
    obtain ⟨m', hn, hl⟩ := id I.loc
    obtain ⟨u, ru, lu⟩ := hl 0 "self" (.ref a) rfl rfl (.inl T.lS)
    obtain rfl : u = Value.ref a := ru
    have hm' : m' "self" = some (.ref a) := by
      rcases lu with ⟨_, e⟩ | ⟨e, _⟩
      · exact e
      · have e : (defScope st).names.lookup ("self" : Str) = some .cell ∨ (defScope st).names.lookup ("self" : Str) = some .free := e
        rw [T.lS] at e
        rcases e with e | e <;> cases e
    refine wpAny_loadName_local T.kind T.lS hn hm' ?_
    have ho := exoT_at I.hok ha
    have hD := I.kIn _ _ hC
    obtain ⟨hh, g, d, tk, os⟩ := s1
    refine ks_wpAny_isType_cls hD rfl ⟨rfl, ?_⟩
    refine ks_wpAny_call_super hD rfl ho rfl (fun c z => by cases z) (PySem.W.looks_mroIn I.kIn Z.sub) (fun h2 e2 keep2 => ?_)
    have I2 := I.kept (t' := tk) keep2
    have ho2 := keep2 _ _ ho
    have J2 : PySem.W.InstAt h2 a (eob D none t0) D none := ⟨ho2, rfl, rfl, trivial⟩
    have hIs : PySem.W.Looks (model P w) h2 (isInstance (.ref a) (.type "ValueError")) true := J2.type.andThen (PySem.W.looks_subIn I2.kIn Z.isV)
    have hsu := Z.sup
    unfold PySem.W.ks_superIn at hsu
    rw [hcl] at hsu
    refine PySem.W.kxs_getMethod PySem.W.kxs_ValueError e2 (PySem.W.looks_opaque I2.kIn Z.noany) (l₀ := .ref D :: bm) ?_ rfl I2.kIn hsu hIs (PySem.W.ks_ne I2.kIn J2 hcl) (by decide) ?_
    · exact fun A Q E s k q => wpAny_bind ((PySem.W.looks_clsIn I2.kIn hcl) A _ E s k (wpAny_pure q))
    have keep3 : ∀ b o, h2.get? b = some o → (h2.push (PySem.W.kxs_mw "ValueError.__init__" a)).get? b = some o := fun b o z => Heap.get?_push_of_some _ z
    have I3 := I2.kept (t' := tk + 1) keep3
    have I4 : Inv (cxI P w K mg base qual (defScope st) fI cda cc A outer s H) [(h2.objs.size, PySem.W.kxs_mw "ValueError.__init__" a)] [some (.ref a), some (.int i), some (.str (Str.ofString m))] H ⟨h2.push (PySem.W.kxs_mw "ValueError.__init__" a), g, d, tk + 1, os⟩ := I3.pins_of fun p hp => by
      rw [List.mem_singleton] at hp
      subst hp
      refine ⟨Heap.get?_push_size _ rfl, I2.hok.fresh (Nat.le_refl _), Nat.ne_of_gt I2.lt, I2.nofs (Nat.le_refl _), fun v z => by cases z⟩
    refine PySem.W.kxs_callWith (i := "ValueError.__init__") (x := a) (by rfl) (Calls.evalArgs_plain ?_)
    have pj : PJ (cxI P w K mg base qual (defScope st) fI cda cc A outer s H) [.FormattedValue (.Name "message" p3) (-1) none p4, .Constant (.str " at ") j p5, .FormattedValue (.Name "place" p6) (-1) none p7] [tFmt (tVar 2), tC (.str " at "), tFmt (tVar 1)] :=
      .cons (pe_fmt (pe_var rfl (.inl T.lM))) (.cons pe_str (.cons (pe_fmt (pe_var rfl (.inl T.lP))) .nil))
    have pa : PA (cxI P w K mg base qual (defScope st) fI cda cc A outer s H) [.JoinedStr [.FormattedValue (.Name "message" p3) (-1) none p4, .Constant (.str " at ") j p5, .FormattedValue (.Name "place" p6) (-1) none p7] p8] _ := pa_cons (pe_joined pj) pa_nil
    refine wpAny_mono (pa.run p9 [(h2.objs.size, PySem.W.kxs_mw "ValueError.__init__" a)] _ _ H (fun vs H1 => vs = [V.str (tx0 m i)] ∧ H1 = H) I4 ?_) (fun us1 s3 ⟨vs1, H3, I5, r5, ez, eH⟩ => ?_) fun _ _ z => z.elim
    · have lm : (Str.ofString m).length ≤ 1000000 := by rw [ofString_len]; exact m1
      have li : (Str.ofString (toString i)).length ≤ 1000000 := by rw [ofString_len]; exact i2
      have la : (Str.ofString " at ").length = 4 := by rw [ofString_len]; rfl
      have ap : ∀ x y : Str, (x ++ y).length = x.length + y.length := fun x y => Str.length_append x y
      have l0 : Str.empty.length = 0 := rfl
      have ls : sizeLine = 16777216 := line_eq
      have e4 : (Str.empty ++ Str.ofString m ++ Str.ofString " at " ++ Str.ofString (toString i)).length ≤ sizeLine := by rw [ap, ap, ap]; omega
      exact ⟨_, rfl, .inl ⟨_, rfl, by omega, _, rfl, by rw [ap]; omega, _, rfl, by rw [ap, ap]; omega, ⟨_, rfl, .inr ⟨i, rfl, i1, _, rfl, e4, rfl, rfl⟩⟩⟩⟩
    · subst ez; subst eH
      cases r5 with
      | @cons _ u0 _ ur ru rn =>
        cases rn
        refine ⟨(I5.pin (h2.objs.size, PySem.W.kxs_mw "ValueError.__init__" a) (List.mem_append_right _ (List.mem_singleton.mpr rfl))).1, ?_⟩
        obtain ⟨h3, g3, d3, tk3, os3⟩ := s3
        have ho3 := exoT_at I5.hok ha
        have ht1 : H3 h3.objs.size = none := I5.hok.fresh (Nat.le_refl _)
        have na1 : h3.objs.size ≠ a := Nat.ne_of_gt (Heap.lt_size ho3)
        refine call_vt (I5.kIn _ _ hC) ho3 (I5.pin (h2.objs.size, PySem.W.kxs_mw "ValueError.__init__" a) (List.mem_append_right _ (List.mem_singleton.mpr rfl))).1 (by show 1 ≤ sizeLine; rw [sizeLine_eq]; omega) fun h4 k4 hx4 => ?_
        have J0 := I5.laid (t' := tk3) (a := h3.objs.size) (o := .tup [V.str (tx0 m i)]) (h' := h3.push (PySem.W.kdv_tup [u0])) (fun b o z => Heap.get?_push_of_some _ z) (Nat.le_refl _) ⟨by show 1 ≤ sizeLine; rw [sizeLine_eq]; omega, [u0], .cons ru .nil, tup_new⟩
        have ha0 : upd H3 h3.objs.size (.tup [V.str (tx0 m i)]) a = some (exoT a D none t0) := by rw [upd_ne (Ne.symm na1)]; exact ha
        have J := J0.write (t' := tk3) (x := a) (e := a) (o := exoT a D none h3.objs.size) (h' := h4) (by rw [ha0]; exact True.intro) (.inl rfl) k4 ⟨_, hx4⟩ (exoT_ok hx4)
        generalize hH4 : upd (upd H3 h3.objs.size (.tup [V.str (tx0 m i)])) a (exoT a D none h3.objs.size) = H4 at J
        have e4 : H4 a = some (exoT a D none h3.objs.size) := by rw [← hH4, upd_same]
        refine wpAt_of_wpAny (wpAny_mono ((pss_cons (X := cxI P w K mg base qual (defScope st) fI cda cc A outer s H3) (VX.ps_ost (pe_var (i := 0) rfl (.inl T.lS)) (pe_var (i := 1) rfl (.inl T.lP))) (pss_one (VX.ps_ost (pe_var (i := 0) rfl (.inl T.lS)) (pe_var (i := 2) rfl (.inl T.lM))))).run _ _ _ H4 { nx := fun _ H' => Q .non H', rt := Q } J ?_) (fun f s' hs => ?_) fun _ _ z => z.elim)
        · refine ⟨_, rfl, _, rfl, a, D, _, rfl, Z.cls, Z.nP, .inl ⟨e4, fun dx hdx hne => ⟨_, rfl, _, rfl, a, D, _, rfl, Z.cls, Z.nM, .inr ⟨dx, [("place", .int i)], upd_same, ?_, (by show 1 ≤ 900; omega), ?_⟩⟩⟩⟩
          · rw [upd_ne hne, upd_same]
          · subst hH4
            rw [upd_ne hne] at hdx
            exact hq dx h3.objs.size hdx hne ht1 na1
        · cases f with
          | ret u =>
            obtain ⟨v, σ', H', J, rv, q⟩ := hs
            exact ⟨v, H', J.os, J.bare, J.base, J.hok, rv, q⟩
          | next =>
            obtain ⟨σ', H', J, q⟩ := hs
            exact ⟨V.non, H', J.os, J.bare, J.base, J.hok, rfl, q⟩
          | brk =>
            obtain ⟨_, _, _, q⟩ := hs
            exact False.elim q
          | cont =>
            obtain ⟨_, _, _, q⟩ := hs
            exact False.elim q
  exact ks_wpAt_mono (lc _) (fun _ _ z => z) fun _ _ z => z.elim
end VX
namespace VX
open PySem PySem.Spec PyProof.Rows L2 VS
def noneB (xs : List Expr) : Bool := match xs with | [] => true | _ => false
def mRaise (x : String) : Ms := fun _ sc s => match s with
  | .Raise (some (.Call fn xs [] _)) none _ => if (isBi sc x fn && !noneB xs) = true then some xs else none
  | _ => none
theorem mRaise_shape {x : String} {N : List Str} {sc : Scope} {s : Stmt} {xs : List Expr} (h : mRaise x N sc s = some xs) : ∃ p pos pos' e es, s = .Raise (some (.Call (.Name (Str.ofString x) p) (e :: es) [] pos)) none pos' ∧ xs = e :: es ∧ glB sc (Str.ofString x) = true := by
  unfold mRaise at h
  split at h
  · rename_i fn ys pos pos'
    split at h
    · rename_i hb
      cases h
      obtain ⟨h1, h2⟩ := and_of hb
      obtain ⟨p, rfl, hg⟩ := bi_shape h1
      cases xs with
      | nil => cases h2
      | cons e es => exact ⟨p, pos, pos', e, es, rfl, rfl, hg⟩
    · cases h
  · cases h
def wRaise (x : String) : WS := fun ds _ _ M E => ∃ (i : Int) (m : String), ds = [.int i, .str m] ∧ i.natAbs.log2 < 1920 ∧ (toString i).length ≤ 1000000 ∧ m.length ≤ 1000000 ∧ E x (some [("message", .str m), ("place", .int i)]) M
structure ExFor (G : Glob) (x : String) : Prop where
  ex : ∃ (D fI : Addr) (fd : FuncData), G.mg (Str.ofString x) = some (.ref D) ∧ OexC G.K D ∧ PySem.W.findIn G.K (.ref D) "__init__" = some (some (.ref fI)) ∧ PySem.W.typeIn G.K (.ref fI) = some (.type "function") ∧
    FnOk G.prog G.w G.K G.mg G.base (CX G.prog G.w) 1 fI fd ["self", "place", "message"] (spIni D) ∧ Binds G.K fd ["self", "place", "message"] []
theorem passF {P : Program} {w : World} {X : Cx} (hP : X.prog = P) (hw : X.w = w) : Passes (CX P w) X (fun _ _ _ => False) := fun _ _ _ _ _ _ _ h => by
  obtain ⟨_, _, _, _, _, _, _, _, _, _, _, _, _, _, _, z⟩ := h
  exact z.elim
theorem ps_raiseO {G : Glob} {k n : Nat} {x : String} (o : ExFor G x) (hk2 : 2 ≤ k) : PsF G k (mRaise x) (wRaise x) n := ⟨fun {C X} K hG hk {es e xs} hl hm hx ha => by
  subst hG; subst hk
  obtain ⟨p, pos, pos', e0, es0, rfl, rfl, hg⟩ := mRaise_shape hm
  obtain ⟨g1, g2⟩ := gl_of hg
  obtain ⟨D, fI, fd, hmg, T, iC, tI, F0, hb⟩ := o.ex
  have F1 : FnOk X.prog X.w X.K X.mg X.base (CX X.prog X.w) 1 fI fd ["self", "place", "message"] (spIni D) := by
    rw [K.g.prog, K.g.w, K.g.K, K.g.mg, K.g.base]; exact F0
  have T1 : OexC X.K D := by rw [K.g.K]; exact T
  have iC1 : PySem.W.findIn X.K (.ref D) "__init__" = some (some (.ref fI)) := by rw [K.g.K]; exact iC
  have tI1 : PySem.W.typeIn X.K (.ref fI) = some (.type "function") := by rw [K.g.K]; exact tI
  have hb1 : Binds X.K fd ["self", "place", "message"] [] := by rw [K.g.K]; exact hb
  have hm1 : X.mg (Str.ofString x) = some (.ref D) := by rw [K.g.mg]; exact hmg
  obtain ⟨p1, p2⟩ := one_arg K.toCtx hx
  refine PS.imp (VX.ps_raise K.g.calm K.tk (pmk T1 iC1 tI1 F1 (K.room.mono hk2) hb1 (passF rfl rfl) g1 hm1 (all_pa K.toCtx ha _ hx) g2 (star_of p1) (p2 _))) fun Dn σ H ⟨σd, M, R, F, Kd, s, q, w⟩ => ?_
  refine ⟨σd, M, R, F, _, s, q, fun ds M1 vs F1' H1 hn q1 e1 gd r1 => ?_⟩
  obtain ⟨i, m, rfl, i1, i2, i3, hE⟩ := q1
  cases r1 with
  | cons ra rr =>
    cases ra
    cases rr with
    | cons rb rr =>
      cases rb
      cases rr
      refine ⟨by show 2 ≤ 1000; omega, fun a t0 hfa => ⟨a, t0, i, m, rfl, i1, i2, i3, upd_same, fun dx t1 hdx hne ht hta => ?_⟩⟩
      have hdt : dx ≠ t1 := fun z => by rw [z, upd_same] at hdx; cases hdx
      rw [upd_ne hdt, upd_ne hne] at hdx
      rw [upd_ne hta] at ht
      refine ⟨rfl, dx, t1, tx0 m i, [("message", .str (Str.ofString m)), ("place", .int i)], ?_, upd_same, hdx, ?_, ?_, ?_⟩
      · rw [upd_ne (Ne.symm hne), upd_same]
      · rw [upd_ne (Ne.symm hdt), upd_ne hta, upd_ne (Ne.symm hdt), upd_ne hta, upd_same]
      · intro dx' fs' m' i' e1 e2 e3 e4
        cases e1
        rw [upd_same] at e2
        cases e2
        cases e3
        cases e4
        rfl
      have eh : ∀ o1 o2 o3 o4 o5 o6 o7 : HO, upd (del (upd (upd (upd (upd (upd (upd H1 a o1) t1 o2) a o3) dx o4) a o5) dx o6) a) dx o7 = upd (upd H1 t1 o2) dx o7 := fun o1 o2 o3 o4 o5 o6 o7 => by
        funext b
        by_cases h1 : b = dx
        · rw [h1, upd_same, upd_same]
        · rw [upd_ne h1, upd_ne h1]
          by_cases h2 : b = a
          · rw [h2, L2.del_same, upd_ne (Ne.symm hta), hfa]
          · rw [L2.del_ne h2, upd_ne h1, upd_ne h2, upd_ne h1, upd_ne h2]
            by_cases h3 : b = t1
            · rw [h3, upd_same, upd_same]
            · rw [upd_ne h3, upd_ne h3, upd_ne h2]
      rw [eh]
      have hR : R = C.R := by
        rcases s.e with z | z
        · rw [z] at hE; exact hE.elim
        · exact z
      subst hR
      exact ⟨x, _, M1, F1', hE, s.f0.trans e1, (gd.side ht).side (by rw [upd_ne hdt]; exact hdx), hmg, ⟨D, rfl⟩, _, upd_same, .cons (.str m) (.cons (.int i) .nil)⟩⟩
theorem takes_len {X : Cx} {W : WX} (t : VX.Takes X W) : VX.Takes X (fun c d σ H => σ.length = X.N.length → W c d σ H) := fun u s' ⟨tt, f, a, B, sI, pins, σ, H, cls, d, e, I, nb, up, sky, na, os, ag, kn, w⟩ =>
  t u s' ⟨tt, f, a, B, sI, pins, σ, H, cls, d, e, I, nb, up, sky, na, os, ag, kn, w I.len⟩
theorem try_body {G : Glob} {k : Nat} {c : Sts} {B : List Stmt} {X : Cx} {W : WX} {pn : List (Addr × Obj)} {xe : Value → Shared → Prop} (g : CtxG G X) (room : Room k X.A) (kind : X.env.scope.kind = .function) (hfn : ∀ x, X.fn x = true) (stk : X.stack = X.env :: X.outer) (frm : X.env.frame = some X.env.locals)
    (tk : VX.Takes (X.tr pn xe) W) (own : PassesOwn (model X.prog X.w) X.A X.env xe) (hm : isSs X.N X.env.scope c B = true) (ok : okSs G k c) :
    L2.PSs (X.tr pn xe) B (fun D σ H => ∃ C' : Cq, C'.G = G ∧ C'.k = k ∧ (∀ cls d σ' H', excK C' cls d H' → σ'.length = X.N.length → W cls d σ' H') ∧ rSs C' c D σ H) := ⟨fun pins s σ H D I ⟨C', hG, hk, hW, hr⟩ => by
  subst hG; subst hk
  have tk1 := takes_len tk
  have K : CtxS C' (X.tr pn xe) :=
    { g := ⟨g.prog, g.w, g.K, g.mg, g.base, g.calm, g.nd, g.un⟩
      room := room
      pass := VX.passes_call tk1 fun cls d σ H' h => hW cls d σ H' h
      kind := kind
      own := own
      fn := hfn
      tk := tk1.imp fun cls d σ H' h => hW cls d σ H' h
      stk := stk
      frm := frm }
  exact (sSs c K ok B hm).run pins s σ H D I hr⟩
end VX
namespace VX
open PySem PySem.Spec PyProof.Rows L2 VS
section
variable {X : Cx} {a D t S : Addr} {oe : Obj} {pn : List (Addr × Obj)} {d : Option Addr} {cls : Value}
theorem call_strE (hs : PySem.W.findIn X.K (.ref D) "__str__" = some (some (.builtin "BaseException.__str__"))) (hB : PySem.W.subIn X.K (.ref D) (.type "BaseException") = some true) (hu : X.A.units + 65 < cLine) (hz : Zt cls d t oe) (hf : ∃ vs, oe.data = .fields vs) :
    CallR (X.suite a ((a, oe) :: pn)) (.type "str") (fun xs H Q => xs = [V.ref a] ∧ cls = .ref D ∧ ∃ tx, H t = some (.tup [V.str tx]) ∧ Q (.str tx) H) := by
  intro pins s σ H xs us Q I r h
  obtain ⟨rfl, rfl, tx, ht, q⟩ := h
  cases r with
  | cons ra rr =>
    cases rr
    cases ra
    obtain ⟨ha, _⟩ := I.pin (a, oe) (List.mem_append_left _ List.mem_cons_self)
    obtain ⟨vs, hd⟩ := hf
    have hx : ObjOk X.prog X.w H s.heap t (.tup [V.str tx]) := I.hok t _ ht
    obtain ⟨_, its, rv, o, ho, hc, n, hdt⟩ := hx
    cases rv with
    | cons r0 r1 =>
      cases r1
      obtain ⟨tk, rfl⟩ := r0
      refine PySem.P.str_of_C_one (A := (X.suite a ((a, oe) :: pn)).A) (K := X.K) (C := D) (t0 := t) (m := tx) (tk := tk) (show X.A.units + 2 < cLine by omega) ⟨I.kIn, oe, vs, ha, hz.1.1, hd, hz.2 vs hd⟩ ⟨o, n, ho, hc, hdt⟩ hs hB ?_
      exact ⟨V.str tx, H, I, ⟨tk, rfl⟩, q⟩
structure IsC (K : PySem.W.Frag) (D : Addr) : Prop where
  cl : (PySem.W.clsIn K D).isSome = true
  ha : PySem.W.findIn K (.ref D) "__class__" = some (some (.builtin "object.__class__"))
  hn : PySem.W.specialIn K (.builtin "object.__class__") "__get__" = some (some (.builtin "getset_descriptor.__get__"))
  ht : PySem.W.takesIn K (.builtin "object.__class__") = some true
  hm : PySem.W.mroIn K D (.type "object") = some true
theorem call_isT (T : XfC X.K D) (C : IsC X.K D) (hk : PySem.W.kitOne X.K (.ref D) (.ref S) = some true) (hz : Zt cls d t oe) (hf : ∃ vs, oe.data = .fields vs) :
    CallR (X.suite a ((a, oe) :: pn)) (.builtin "isinstance") (fun xs H Q => xs = [V.ref a, V.ref S] ∧ cls = .ref D ∧ (∃ dd fs, d = some dd ∧ H dd = some (.xd fs)) ∧ Q (.bl true) H) := by
  intro pins s σ H xs us Q I r h
  obtain ⟨rfl, rfl, ⟨dd, fs, rfl, hdd⟩, q⟩ := h
  cases r with
  | cons ra rr =>
    cases rr with
    | cons rb rr =>
      cases rr
      cases ra
      cases rb
      obtain ⟨ha, _⟩ := I.pin (a, oe) (List.mem_append_left _ List.mem_cons_self)
      obtain ⟨vs, hd⟩ := hf
      have hx : ObjOk X.prog X.w H s.heap dd (.xd fs) := I.hok dd _ hdd
      obtain ⟨mA, hns, _⟩ := hx
      obtain ⟨od, ho, _⟩ := lookIn_ns hns
      have J : PySem.W.InstAt s.heap a oe D (some od) := ⟨ha, hz.1.1, by unfold PySem.W.notCls; rw [hd] <;> rfl, by rw [hz.1.2]; exact ho⟩
      exact PySem.W.kia_one (PySem.W.kitx_exc (od := some od) C.cl T.ga T.gg T.exC C.ha C.hn C.ht C.hm) I.kIn J hk (fun z => nomatch z) fun tk => ⟨.bl true, H, I.kept (t' := tk) fun _ _ z => z, rfl, q⟩
end
structure ToldText (st : Stmt) (B : List Stmt) : Prop where
  ex : ∃ (np pos pos' p1 p2 p3 p4 p5 p6 p7 p8 p9 p10 p11 p12 p13 p14 p15 p16 p17 p18 p19 p20 p21 p22 p23 p24 p25 p26 p27 p28 p29 p30 : Pos) (j j2 kx : Nat), defBody st = [.Try B [.ExceptHandler (some (.Name "TextError" np)) (some "error")
    [.Assign [.Name "_law_right" p1] (.BoolOp .And [.Call (.Name "isinstance" p2) [.Name "error" p3, .Name "SettleError" p4] [] p5, .Compare (.Call (.Name "str" p6) [.Name "error" p7] [] p8) [.Eq] [.BinOp (.BinOp (.Attribute (.Name "error" p9) "message" p10) .Add (.Constant (.str " at ") j p11) p12) .Add (.Call (.Name "str" p13) [.Attribute (.Name "error" p14) "place" p15] [] p16) p17] p18] p19) p20,
     .Return (some (.Tuple [.IfExp (.Name "_law_right" p21) (.Attribute (.Name "error" p22) "message" p23) (.Constant (.str "other") j2 p24) p25, .Attribute (.Name "error" p26) "place" p27, .List [] p28] kx p29)) p30] pos'] [] [] pos]
structure HdFor (G : Glob) (D S : Addr) : Prop where
  mg : G.mg (Str.ofString "TextError") = some (.ref D)
  mgS : G.mg (Str.ofString "SettleError") = some (.ref S)
  exm : PySem.W.exmOne G.K (.ref D) (.ref D) = some true
  xf : XfC G.K D
  isC : IsC G.K D
  kit : PySem.W.kitOne G.K (.ref D) (.ref S) = some true
  st : PySem.W.findIn G.K (.ref D) "__str__" = some (some (.builtin "BaseException.__str__"))
  nM : PySem.W.findIn G.K (.ref D) "message" = some none
  nP : PySem.W.findIn G.K (.ref D) "place" = some none
  bI : G.mg "isinstance" = none
  bS : G.mg "str" = none
def EX (Q : DK) : XP := fun cl fs M' => cl = "TextError" ∧ ∃ (m : String) (i : Int), fs = some [("message", .str m), ("place", .int i)] ∧ i.natAbs.log2 < 1920 ∧ m.length ≤ 1000000 ∧ (toString i).length ≤ 1000000 ∧ Q (.tup [.str m, .int i, .lst []]) M'
abbrev toldN : List Str := ["_law_text_here", "_law_right", "error"]
theorem told_ok {G : Glob} {x qual : Str} {st : Stmt} {f : Addr} {fd : FuncData} {ps : List Str} {k : Nat} {sp : VS.Spec} {B : List Stmt} {D S : Addr} (c : Sts) (Fn : L2.Fun G.K x qual st f fd) (Sc : FnScope toldN ps (defScope st))
    (T : ToldText st B) (hl1 : (defScope st).names.lookup ("error" : Str) = some .local) (hl2 : (defScope st).names.lookup ("_law_right" : Str) = some .local) (hg : glB (defScope st) (Str.ofString "TextError") = true) (hg2 : glB (defScope st) (Str.ofString "SettleError") = true)
    (hg3 : glB (defScope st) (Str.ofString "isinstance") = true) (hg4 : glB (defScope st) (Str.ofString "str") = true) (Hd : HdFor G D S) (hm : isSs toldN (defScope st) c B = true) (ok : okSs G k c)
    (hsp : ∀ ds M Q E, ds.length = ps.length → sp ds M Q E → dSs (EX Q) c { nx := fun _ _ => False, rt := Q } (startD toldN.length ds) M) :
    FnOk G.prog G.w G.K G.mg G.base (CX G.prog G.w) (k + 1) f fd ps (toSp G ps.length sp) := by
  refine okX Fn Sc (fun vs H Q E ⟨ds, F, M, R, Qd, Ed, hl, g, r, _⟩ => by rw [r.length, hl]) fun cdv A outer s H vs Q E hr ⟨ds, F, M, R, Qd, Ed, hl, g, r, hs, w, wx⟩ => ?_
  obtain ⟨np, pos, pos', p1, p2, p3, p4, p5, p6, p7, p8, p9, p10, p11, p12, p13, p14, p15, p16, p17, p18, p19, p20, p21, p22, p23, p24, p25, p26, p27, p28, p29, p30, j, j2, kx, hbody⟩ := T.ex
  have gX : CtxG G (cxOf (CX G.prog G.w) G.prog G.w G.K G.mg G.base toldN qual (defScope st) f cdv A outer s H E) :=
    ⟨rfl, rfl, rfl, rfl, rfl, rfl, Sc.nd, by have := hr.un; show (A.deeper (envOfC qual (defScope st) s.heap.objs.size f cdv)).units + 65 < cLine; omega⟩
  obtain ⟨g1, g2⟩ := gl_of (X := cxOf (CX G.prog G.w) G.prog G.w G.K G.mg G.base toldN qual (defScope st) f cdv A outer s H E) hg
  obtain ⟨g3, g4⟩ := gl_of (X := cxOf (CX G.prog G.w) G.prog G.w G.K G.mg G.base toldN qual (defScope st) f cdv A outer s H E) hg2
  obtain ⟨g5, g6⟩ := gl_of (X := cxOf (CX G.prog G.w) G.prog G.w G.K G.mg G.base toldN qual (defScope st) f cdv A outer s H E) hg3
  obtain ⟨g7, g8⟩ := gl_of (X := cxOf (CX G.prog G.w) G.prog G.w G.K G.mg G.base toldN qual (defScope st) f cdv A outer s H E) hg4
  have nm : Names (cxOf (CX G.prog G.w) G.prog G.w G.K G.mg G.base toldN qual (defScope st) f cdv A outer s H E) (Str.ofString "TextError") (.ref D) := ⟨g1, g2, .inl Hd.mg⟩
  have er : ∀ {a : Addr} {pn : List (Addr × Obj)} {p : Pos}, PE ((cxOf (CX G.prog G.w) G.prog G.w G.K G.mg G.base toldN qual (defScope st) f cdv A outer s H E).suite a pn) (.Name "error" p) (tVar 2) := fun {a pn p} => pe_var rfl (.inl hl1)
  rw [hbody]
  refine ⟨_, pss_one (VX.ps_try_as (X := cxOf (CX G.prog G.w) G.prog G.w G.K G.mg G.base toldN qual (defScope st) f cdv A outer s H E) (i := 2) (Wout := fun _ _ _ _ => False) rfl rfl Sc.nd rfl hl1 nm takes0
    (fun W pn xe tk own => try_body gX hr Sc.kind (fun _ => rfl) rfl rfl tk own hm ok)
    (fun a t oe cls d pn hz hf => pss_cons
      (ps_set (X := (cxOf (CX G.prog G.w) G.prog G.w G.K G.mg G.base toldN qual (defScope st) f cdv A outer s H E).suite a ((a, oe) :: pn)) (i := 1) Sc.nd rfl (.inl hl2)
        (pe_and (pe_callB (call_isT Hd.xf Hd.isC Hd.kit hz hf) g5 Hd.bI (by first | rfl | boot_by_name) (pa_cons er (pa_cons (pe_glob g3 Hd.mgS (v := .ref S) rfl) pa_nil)))
          (pe_one (pe_cmpR op_eq (pe_callTy (call_strE Hd.st Hd.xf.exC gX.un hz hf) g7 Hd.bS (by first | rfl | boot_by_name) (pa_cons er pa_nil))
            (pe_op op_add_str (pe_op op_add_str (pe_xf Hd.xf Hd.nM hz.1 hf er) pe_str) (pe_callTy call_str_int g7 Hd.bS (by first | rfl | boot_by_name) (pa_cons (pe_xf Hd.xf Hd.nP hz.1 hf er) pa_nil))) (by rfl)))))
      (pss_one (ps_ret (pe_tup (pa_cons (pe_ifExp (pt_val (pe_var (i := 1) rfl (.inl hl2))) (pe_xf Hd.xf Hd.nM hz.1 hf er) pe_str) (pa_cons (pe_xf Hd.xf Hd.nP hz.1 hf er) (pa_cons (pe_lst pa_nil) pa_nil)))))))), ?_⟩
  refine ⟨{ G := G, R := R, F0 := F, E := EX Qd, k := k }, rfl, rfl, fun cls d σ' H' h hlen => ?_, startD toldN.length ds, M, R, F, _, ⟨.inr rfl, Ex.refl F, ?_, g⟩, hsp ds M Qd Ed hl hs, ?_⟩
  · obtain ⟨c', fs, M', F', ⟨rfl, m, i, rfl, i1, m1, l1, hq⟩, ex, gd, hmg, _, hd⟩ := h
    have hmg' : G.mg (Str.ofString "TextError") = some cls := hmg
    rw [Hd.mg] at hmg'
    cases hmg'
    cases d with
    | none => exact hd.elim
    | some da =>
      obtain ⟨xfs, hx, rf⟩ := hd
      cases rf with
      | cons rm rr =>
        cases rm
        cases rr with
        | cons rj rr =>
          cases rj
          cases rr
          refine ⟨true, Hd.exm, fun _ a t ha ⟨tx, ht, htx⟩ => ?_, fun z => by cases z⟩
          have l3 : σ'.length = 3 := hlen
          obtain ⟨s0, s1, s2, rfl⟩ : ∃ s0 s1 s2, σ' = [s0, s1, s2] := by
            match σ', l3 with
            | [s0, s1, s2], _ => exact ⟨s0, s1, s2, rfl⟩
          have etx : tx = Str.empty ++ Str.ofString m ++ Str.ofString " at " ++ Str.ofString (toString i) := htx da _ _ _ rfl hx rfl rfl
          have e0 : [s0, s1, s2].set 2 (some (V.ref a)) = [s0, s1, some (V.ref a)] := rfl
          rw [e0]
          refine ⟨V.ref a, rfl, rfl, rfl, ⟨da, _, rfl, hx⟩, true, rfl, ?_⟩
          rw [if_pos rfl]
          refine ⟨V.ref a, rfl, rfl, rfl, tx, ht, ?_⟩
          refine ⟨V.ref a, rfl, rfl, rfl, da, _, V.str (Str.ofString m), rfl, hx, rfl, ?_⟩
          have lm : (Str.ofString m).length ≤ 1000000 := by rw [VS.ofString_len]; exact m1
          have li : (Str.ofString (toString i)).length ≤ 1000000 := by rw [VS.ofString_len]; exact l1
          have la : (Str.ofString " at ").length = 4 := by rw [VS.ofString_len]; rfl
          have ls : sizeLine = 16777216 := line_eq
          have ap : ∀ x y : Str, (x ++ y).length = x.length + y.length := fun x y => Str.length_append x y
          refine ⟨_, _, rfl, rfl, by omega, ?_⟩
          refine ⟨V.ref a, rfl, rfl, rfl, da, _, V.int i, rfl, hx, rfl, i, rfl, i1, ?_⟩
          refine ⟨_, _, rfl, rfl, by rw [ap]; omega, ?_⟩
          refine ⟨rfl, ?_⟩
          have he : ∀ s : Str, Str.empty ++ s = s := fun ⟨c⟩ => by
            show (⟨#[] ++ c⟩ : Str) = ⟨c⟩
            rw [Array.empty_append]
          have hd : decide (V.str tx = V.str (Str.ofString m ++ Str.ofString " at " ++ Str.ofString (toString i))) = true := decide_eq_true (by rw [etx, he])
          rw [hd]
          refine ⟨V.bl true, rfl, true, rfl, ?_⟩
          show if true = true then _ else _
          rw [if_pos rfl]
          refine ⟨V.ref a, rfl, rfl, rfl, da, _, V.str (Str.ofString m), rfl, hx, rfl, ?_⟩
          refine ⟨V.ref a, rfl, rfl, rfl, da, _, V.int i, rfl, hx, rfl, ?_⟩
          refine ⟨Nat.zero_le _, fun p hp => ?_⟩
          refine ⟨by show 3 ≤ sizeLine; omega, fun p2 hp2 => ?_⟩
          obtain ⟨gd1, e1⟩ := gd.new (o := .lst []) hp
          exact (w.mono (ex.trans e1)).new gd1 hp2 (rp_new_tup (gd1.fresh hp2).2.1 (.cons (.str m) (.cons (.int i) (.cons (rp_new_lst (gd.fresh hp).2.1 .nil) .nil)))) hq
  · have := env_start (G := G) (toldN.length - ds.length) r
    unfold startD L2.start
    rw [r.length]
    exact this
  · exact ⟨fun _ _ _ _ _ q => q.elim, fun d M v F' H' q e g r => w d M v F' H' q e g r, fun _ _ _ _ _ q => q.elim, fun _ _ _ _ _ q => q.elim⟩
end VX
namespace VS
open PySem PySem.Spec PyProof.Rows L2
inductive Sg | many | som | may
def Sg.nm : Sg → String
  | .many => "many" | .som => "some" | .may => "maybe"
def Sg.sg : Sg → String
  | .many => "*" | .som => "+" | .may => "?"
inductive Ct | empty | ty (s : String) | suf (k : Sg) (c : Ct) | bin (b : Bool) (c d : Ct)
def kbN (b : Bool) : String := if b = true then "row" else "choice"
def encT : Ct → D
  | .empty => .tup [.str "empty"] | .ty s => .tup [.str "type", .str s] | .suf k c => .tup [.str k.nm, encT c] | .bin b c d => .tup [.str (kbN b), .tup [encT c, encT d]]
def hdT : Ct → String
  | .empty => "empty" | .ty _ => "type" | .suf k _ => k.nm | .bin b _ _ => kbN b
def htT : Ct → Nat
  | .empty => 1 | .ty _ => 1 | .suf _ c => htT c + 1 | .bin _ c d => max (htT c) (htT d) + 1
def tysT : Ct → List String
  | .empty => [] | .ty s => [s] | .suf _ c => tysT c | .bin _ c d => tysT c ++ tysT d
def szT : Ct → Nat
  | .empty => 1 | .ty _ => 1 | .suf _ c => szT c + 1 | .bin _ c d => szT c + szT d + 1
def wfT : Ct → Bool
  | .empty => true | .ty s => decide (s ∈ ["t", "u", "vv"]) | .suf _ c => wfT c
  | .bin b c d => wfT c && wfT d && !decide (hdT c = kbN b) && !decide (hdT d = kbN b)
theorem htT_pos (c : Ct) : 1 ≤ htT c := by cases c <;> simp [htT]
theorem szT_pos (c : Ct) : 1 ≤ szT c := by cases c <;> simp [szT]
theorem tys_sz : ∀ c : Ct, (tysT c).length ≤ szT c
  | .empty => Nat.zero_le _
  | .ty _ => Nat.le_refl _
  | .suf _ c => by have := tys_sz c; show (tysT c).length ≤ szT c + 1; omega
  | .bin _ c d => by have := tys_sz c; have := tys_sz d; show (tysT c ++ tysT d).length ≤ szT c + szT d + 1; rw [List.length_append]; omega
section
variable {M : Store} {Q : DK} {s : String} {k : Sg} {b : Bool} {c d : Ct}
theorem ixT0 : wIx (encT c) (.int 0) M Q = Q (.str (hdT c)) M := by cases c <;> exact w_ixT at_0
theorem ixT1 : wIx (encT (.ty s)) (.int 1) M Q = Q (.str s) M := w_ixT at_1
theorem ixS1 : wIx (encT (.suf k c)) (.int 1) M Q = Q (encT c) M := w_ixT at_1
theorem ixB1' : wIx (encT (.bin b c d)) (.int 1) M Q = Q (.tup [encT c, encT d]) M := w_ixT at_1
end
theorem wfT_bin {b : Bool} {c d : Ct} (h : wfT (.bin b c d) = true) : wfT c = true ∧ wfT d = true ∧ hdT c ≠ kbN b ∧ hdT d ≠ kbN b := by
  obtain ⟨w1, w4⟩ := and_of (show (wfT c && wfT d && !decide (hdT c = kbN b) && !decide (hdT d = kbN b)) = true from h)
  obtain ⟨w1, w3⟩ := and_of w1
  obtain ⟨w1, w2⟩ := and_of w1
  have n3 : hdT c ≠ kbN b := by intro z; rw [decide_eq_true z] at w3; cases w3
  have n4 : hdT d ≠ kbN b := by intro z; rw [decide_eq_true z] at w4; cases w4
  exact ⟨w1, w2, n3, n4⟩
structure Rl where
  k : String
  nm : String
  c : Ct
def encRl (r : Rl) : D := .tup [.str r.k, .str r.nm, encT r.c]
structure RlOk (R : List Rl) : Prop where
  len : R.length ≤ 3
  pos : 0 < R.length
  nod : (R.map (·.k)).Nodup
  ks : ∀ r ∈ R, r.k ∈ ["t", "u", "vv"] ∧ r.nm ∈ ["a", "b", "ab"]
  cs : ∀ r ∈ R, htT r.c ≤ 5 ∧ szT r.c ≤ 13 ∧ (tysT r.c).length ≤ 4 ∧ wfT r.c = true ∧ ∀ s ∈ tysT r.c, s ∈ R.map (·.k)
end VS
namespace VS
open PySem PySem.Spec PyProof.Rows L2
def Adv (p : Addr) (M M' : Store) : Prop := ∀ a, a ≠ p → M a ≠ none → M' a = M a
theorem Adv.refl (p : Addr) (M : Store) : Adv p M M := fun _ _ _ => rfl
theorem Adv.trans {p : Addr} {M M1 M2 : Store} (a : Adv p M M1) (b : Adv p M1 M2) : Adv p M M2 := fun x hx h => by rw [b x hx (by rw [a x hx h]; exact h), a x hx h]
theorem Adv.put {p : Addr} {M M1 : Store} {o : MO} (a : Adv p M M1) : Adv p M (M1.put p o) := fun x hx h => by rw [put_ne hx]; exact a x hx h
theorem Adv.new {p q : Addr} {M M1 : Store} {o : MO} (a : Adv p M M1) (h : M q = none) : Adv p M (M1.put q o) := fun x hx hm => by
  rw [put_ne fun z => hm (by rw [z]; exact h)]; exact a x hx hm
theorem Adv.dr {p : Addr} {M M1 M2 : Store} (a : Adv p M M1) (d : Dr M1 M2) : Adv p M M2 := fun x hx hm => by rw [d x (by rw [a x hx hm]; exact hm)]; exact a x hx hm
theorem Adv.non {p q : Addr} {M M1 : Store} (a : Adv p M M1) (hq : q ≠ p) (h : M1 q = none) : M q = none := by
  cases e : M q with
  | none => rfl
  | some o =>
    have := a q hq (by rw [e]; exact fun z => by cases z)
    rw [h, e] at this; cases this
structure At (all : List Tk) (k : Nat) (l r : List String) : Prop where
  e : (all.map (·.v)).drop k = l ++ r
  w : ∀ t ∈ all, t.w = wordB t.v
theorem At.app {all : List Tk} {k : Nat} {l m r : List String} (h : At all k (l ++ m) r) : At all k l (m ++ r) := ⟨by rw [h.e, List.append_assoc], h.w⟩
theorem At.next {all : List Tk} {k : Nat} {l r : List String} (h : At all k l r) : At all (k + l.length) [] r := ⟨by rw [← List.drop_drop, h.e, List.drop_left]; rfl, h.w⟩
theorem At.shift {all : List Tk} {k : Nat} {l r m s : List String} (h : At all k l r) (e : r = m ++ s) : At all (k + l.length) m s := ⟨by rw [h.next.e, List.nil_append, e], h.w⟩
theorem At.head {all : List Tk} {k : Nat} {s : String} {l r : List String} (h : At all k (s :: l) r) : ∃ a, all[k]? = some ⟨wordB s, s, a⟩ := by
  have h0 : (all.map (·.v))[k]? = some s := by
    have := congrArg (fun l => l[0]?) h.e
    simpa [List.getElem?_drop] using this
  rw [List.getElem?_map] at h0
  cases e : all[k]? with
  | none => rw [e] at h0; cases h0
  | some t =>
    rw [e] at h0
    have hv : t.v = s := by simpa using h0
    have hw := h.w t (List.mem_of_getElem? e)
    obtain ⟨w, v, a⟩ := t
    have hv : v = s := hv
    have hw : w = wordB v := hw
    subst hv; subst hw
    exact ⟨a, rfl⟩
theorem At.tail {all : List Tk} {k : Nat} {s : String} {l r : List String} (h : At all k (s :: l) r) : At all (k + 1) l r := by
  have e : (all.map (·.v)).drop (k + 1) = [] ++ (l ++ r) := (At.app (l := [s]) (m := l) (r := r) h).next.e
  exact ⟨e, h.w⟩
theorem At.end_ {all : List Tk} {k : Nat} (h : At all k [] []) : all[k]? = Option.none := by
  have h0 : (all.map (·.v))[k]? = Option.none := by
    have := congrArg (fun l => l[0]?) h.e
    simpa [List.getElem?_drop] using this
  rw [List.getElem?_map] at h0
  cases e : all[k]? with
  | none => rfl
  | some t => rw [e] at h0; cases h0
def NotW (s : String) (r : List String) : Prop := ∀ x r', r = x :: r' → x ≠ s
def Ad2 (p q : Addr) (M M' : Store) : Prop := ∀ a, a ≠ p → a ≠ q → M a ≠ none → M' a = M a
section
variable {p q : Addr} {M M1 M2 : Store}
theorem Ad2.refl (p q : Addr) (M : Store) : Ad2 p q M M := fun _ _ _ _ => rfl
theorem Ad2.trans (a : Ad2 p q M M1) (b : Ad2 p q M1 M2) : Ad2 p q M M2 := fun x hx hy h => by rw [b x hx hy (by rw [a x hx hy h]; exact h), a x hx hy h]
theorem Ad2.putp {o : MO} (a : Ad2 p q M M1) : Ad2 p q M (M1.put p o) := fun x hx hy h => by rw [put_ne hx]; exact a x hx hy h
theorem Ad2.putq {o : MO} (a : Ad2 p q M M1) : Ad2 p q M (M1.put q o) := fun x hx hy h => by rw [put_ne hy]; exact a x hx hy h
theorem Ad2.new {z : Addr} {o : MO} (a : Ad2 p q M M1) (h : M z = none) : Ad2 p q M (M1.put z o) := fun x hx hy hm => by
  rw [put_ne fun e => hm (by rw [e]; exact h)]; exact a x hx hy hm
theorem Ad2.dr (a : Ad2 p q M M1) (d : Dr M1 M2) : Ad2 p q M M2 := fun x hx hy hm => by rw [d x (by rw [a x hx hy hm]; exact hm)]; exact a x hx hy hm
theorem Ad2.non {z : Addr} (a : Ad2 p q M M1) (hp : z ≠ p) (hq : z ≠ q) (h : M1 z = none) : M z = none := by
  cases e : M z with
  | none => rfl
  | some o =>
    have := a z hp hq (by rw [e]; exact fun z => by cases z)
    rw [h, e] at this; cases this
end
end VS
namespace VS
open PySem PySem.Spec PyProof.Rows L2
abbrev mRaise := VX.mRaise
abbrev wRaise := VX.wRaise
def tryB (st : Stmt) : List Stmt := match defBody st with | [.Try b _ _ _ _] => b | _ => []
end VS
namespace VS
open PySem PySem.Spec PyProof.Rows L2
inductive LexB (S : List Char) : List Char → Nat → Nat → Prop
  | bad {c : Char} {r : List Char} {p : Nat} : isLet c = false → c ∉ S → c ≠ ' ' → c ≠ '\n' → LexB S (c :: r) p p
  | ws {c : Char} {r : List Char} {p e : Nat} : (c = ' ' ∨ c = '\n') → LexB S r (p + 1) e → LexB S (c :: r) p e
  | sign {c : Char} {r : List Char} {p e : Nat} : c ∈ S → isLet c = false → LexB S r (p + 1) e → LexB S (c :: r) p e
  | word {w r : List Char} {p e : Nat} : w ≠ [] → (∀ c ∈ w, isLet c = true) → (∀ c r', r = c :: r' → isLet c = false) → LexB S r (p + w.length) e → LexB S (w ++ r) p e
theorem LexB.le {S : List Char} {l : List Char} {p e : Nat} (h : LexB S l p e) : e < p + l.length := by
  induction h with
  | bad _ _ _ _ => rw [List.length_cons]; omega
  | ws _ _ ih => rw [List.length_cons]; omega
  | sign _ _ _ ih => rw [List.length_cons]; omega
  | word hw _ _ _ ih => rw [List.length_append]; omega
theorem Lex.less {S T : List Char} (hST : ∀ c ∈ S, c ∈ T ∨ (c ∉ T ∧ c ≠ ' ' ∧ c ≠ '\n')) {l : List Char} {p : Nat} {ts : List Tk} (h : Lex S l p ts) :
    ((∀ t ∈ ts, t.w = true ∨ ∃ c ∈ T, t.v = String.singleton c) ∧ Lex T l p ts) ∨ ∃ d t r, ts = d ++ t :: r ∧ (∀ t ∈ d, t.w = true ∨ ∃ c ∈ T, t.v = String.singleton c) ∧ t.w = false ∧ (∀ c ∈ T, t.v ≠ String.singleton c) ∧ LexB T l p t.at_ := by
  induction h with
  | nil => exact .inl ⟨fun t h => (by cases h), .nil⟩
  | ws hc _ ih =>
    rcases ih with ⟨a, b⟩ | ⟨d, t, r, e, a, b1, b, c⟩
    · exact .inl ⟨a, .ws hc b⟩
    · exact .inr ⟨d, t, r, e, a, b1, b, .ws hc c⟩
  | @sign c r p ts hc hl _ ih =>
    rcases hST c hc with hT | ⟨hT, n1, n2⟩
    · rcases ih with ⟨a, b⟩ | ⟨d, t, r, e, a, b1, b, c'⟩
      · refine .inl ⟨fun t ht => ?_, .sign hT hl b⟩
        rcases List.mem_cons.mp ht with rfl | ht
        · exact .inr ⟨c, hT, rfl⟩
        · exact a t ht
      · refine .inr ⟨_ :: d, t, r, by rw [e]; rfl, fun t ht => ?_, b1, b, .sign hT hl c'⟩
        rcases List.mem_cons.mp ht with rfl | ht
        · exact .inr ⟨c, hT, rfl⟩
        · exact a t ht
    · refine .inr ⟨[], _, ts, rfl, fun t h => (by cases h), rfl, fun c' hc' z => ?_, .bad hl hT n1 n2⟩
      have : c = c' := by
        have := congrArg String.toList z
        simpa using this
      subst this
      exact hT hc'
  | word hw hl hr _ ih =>
    rcases ih with ⟨a, b⟩ | ⟨d, t, r, e, a, b1, b, c⟩
    · refine .inl ⟨fun t ht => ?_, .word hw hl hr b⟩
      rcases List.mem_cons.mp ht with rfl | ht
      · exact .inl rfl
      · exact a t ht
    · refine .inr ⟨_ :: d, t, r, by rw [e]; rfl, fun t ht => ?_, b1, b, .word hw hl hr c⟩
      rcases List.mem_cons.mp ht with rfl | ht
      · exact .inl rfl
      · exact a t ht
theorem Lex.at_lt {S : List Char} {l : List Char} {p : Nat} {ts : List Tk} (h : Lex S l p ts) : ∀ t ∈ ts, t.at_ < p + l.length := by
  induction h with
  | nil => intro t h; cases h
  | ws _ _ ih => intro t ht; have := ih t ht; rw [List.length_cons]; omega
  | sign _ _ _ ih =>
    intro t ht
    rw [List.length_cons]
    rcases List.mem_cons.mp ht with rfl | ht
    · show _ < _; dsimp only; omega
    · have := ih t ht; omega
  | word hw _ _ _ ih =>
    intro t ht
    rw [List.length_append]
    have := List.length_pos_iff.mpr hw
    rcases List.mem_cons.mp ht with rfl | ht
    · show _ < _; dsimp only; omega
    · have := ih t ht; omega
theorem Lex.v_le {S : List Char} {l : List Char} {p : Nat} {ts : List Tk} (h : Lex S l p ts) : ∀ t ∈ ts, t.v.length ≤ l.length := by
  induction h with
  | nil => intro t h; cases h
  | ws _ _ ih => intro t ht; have := ih t ht; rw [List.length_cons]; omega
  | sign _ _ _ ih =>
    intro t ht
    rw [List.length_cons]
    rcases List.mem_cons.mp ht with rfl | ht
    · show (String.singleton _).length ≤ _; rw [show ∀ c : Char, (String.singleton c).length = 1 from fun c => by rw [← String.length_toList]; simp]; omega
    · have := ih t ht; omega
  | word hw _ _ _ ih =>
    intro t ht
    rw [List.length_append]
    rcases List.mem_cons.mp ht with rfl | ht
    · show (String.ofList _).length ≤ _; rw [← String.length_toList, String.toList_ofList]; omega
    · have := ih t ht; omega
def errF (m : String) (e : Nat) : Option (List (String × D)) := some [("message", .str m), ("place", .int (e : Int))]
theorem small_nat {n : Nat} (h : n ≤ 100000) : (n : Int).natAbs.log2 < 1920 ∧ (toString (n : Int)).length ≤ 1000000 := by
  refine ⟨?_, ?_⟩
  · have : (n : Int).natAbs = n := rfl
    rw [this]
    have h2 : n < 2 ^ 20 := by omega
    by_cases h0 : n = 0
    · subst h0; decide
    · have := (Nat.log2_lt h0).mpr h2
      omega
  · have h10 : (n : Int) < 10 ^ 10 := by
      have : (10 : Int) ^ 10 = 10000000000 := by decide
      rw [this]; omega
    have := PyProof.Rows.toString_length_le (v := (n : Int)) (k := 10) (by omega) (by decide) h10
    rw [ofString_len] at this
    omega
theorem w_raise {x m : String} {e : Nat} {K : EndsD} {σ : Env} {M : Store} {E : XP} (h : e ≤ 100000) (hm : m.length ≤ 100) (q : E x (errF m e) M) : wRaise x [.int (e : Int), .str m] K σ M E :=
  ⟨e, m, rfl, (small_nat h).1, (small_nat h).2, by omega, q⟩
inductive LexO (S : List Char) : List Char → Nat → List Tk → Option Nat → Prop
  | nil {p : Nat} : LexO S [] p [] none
  | bad {c : Char} {r : List Char} {p : Nat} : isLet c = false → c ∉ S → c ≠ ' ' → c ≠ '\n' → LexO S (c :: r) p [] (some p)
  | ws {c : Char} {r : List Char} {p : Nat} {ts : List Tk} {o : Option Nat} : (c = ' ' ∨ c = '\n') → LexO S r (p + 1) ts o → LexO S (c :: r) p ts o
  | sign {c : Char} {r : List Char} {p : Nat} {ts : List Tk} {o : Option Nat} : c ∈ S → isLet c = false → LexO S r (p + 1) ts o → LexO S (c :: r) p (⟨false, String.singleton c, p⟩ :: ts) o
  | word {w r : List Char} {p : Nat} {ts : List Tk} {o : Option Nat} : w ≠ [] → (∀ c ∈ w, isLet c = true) → (∀ c r', r = c :: r' → isLet c = false) → LexO S r (p + w.length) ts o → LexO S (w ++ r) p (⟨true, String.ofList w, p⟩ :: ts) o
theorem Lex.o {S : List Char} {l : List Char} {p : Nat} {ts : List Tk} (h : Lex S l p ts) : LexO S l p ts none := by
  induction h with
  | nil => exact .nil
  | ws a _ ih => exact .ws a ih
  | sign a b _ ih => exact .sign a b ih
  | word a b c _ ih => exact .word a b c ih
theorem LexB.o {S : List Char} {l : List Char} {p e : Nat} (h : LexB S l p e) : ∃ ts, LexO S l p ts (some e) := by
  induction h with
  | bad a b c d => exact ⟨[], .bad a b c d⟩
  | ws a _ ih => obtain ⟨ts, z⟩ := ih; exact ⟨ts, .ws a z⟩
  | sign a b _ ih => obtain ⟨ts, z⟩ := ih; exact ⟨_, .sign a b z⟩
  | word a b c _ ih => obtain ⟨ts, z⟩ := ih; exact ⟨_, .word a b c z⟩
theorem LexO.len {S : List Char} {l : List Char} {p : Nat} {ts : List Tk} {o : Option Nat} (h : LexO S l p ts o) : ts.length ≤ l.length := by
  induction h with
  | nil => exact Nat.le_refl _
  | bad _ _ _ _ => exact Nat.zero_le _
  | ws _ _ ih => rw [List.length_cons]; omega
  | sign _ _ _ ih => rw [List.length_cons, List.length_cons]; omega
  | word hw _ _ _ ih =>
    rw [List.length_append, List.length_cons]
    have := List.length_pos_iff.mpr hw
    omega
end VS
namespace VS.K42
open PySem PySem.Spec PyProof.Rows L2 VS
def top (i : Nat) : PySem.Stmt := PySem.Challenge.pw_soonsettled_k42_errors_of_events.main.body.getD i (.Pass ⟨0, 0, 0, 0⟩)
def g_NAME_MOST : D := .int 8
def g_END : D := .str ")"
abbrev s_is_letter : PySem.Stmt := top 6
def n_is_letter : List Str := ["char"]
theorem sc_is_letter : FnScope n_is_letter ["char"] (defScope s_is_letter) := ⟨by decide +kernel, by decide +kernel, by decide +kernel, by decide +kernel, by decide +kernel, by decide +kernel, by decide +kernel⟩
def c_is_letter : Sts :=
  (.cons (.ret (.cmp2 .le .le (.c (.str "a")) (.v 0) (.c (.str "z"))))
  .nil)
theorem m_is_letter : isSs n_is_letter (defScope s_is_letter) (c_is_letter ) (defBody s_is_letter) = true :=
  by_bare (c0 := eSs (c_is_letter )) rfl (by decide +kernel)
abbrev s_word_end : PySem.Stmt := top 7
def n_word_end : List Str := ["text", "start", "at"]
theorem sc_word_end : FnScope n_word_end ["text", "start"] (defScope s_word_end) := ⟨by decide +kernel, by decide +kernel, by decide +kernel, by decide +kernel, by decide +kernel, by decide +kernel, by decide +kernel⟩
def c_word_end (p_is_letter : Spec) : Sts :=
  (.cons (.asg 2 (.v 1))
  (.cons (.whl (.and (.cons (.val (.cmp .lt (.v 2) (.bi .len (.cons (.v 0) .nil)))) (.cons (.val (.call "is_letter" p_is_letter (.cons (.ix (.v 0) (.v 2)) .nil))) .nil)))
  (.cons (.aug .add 2 (.c (.int 1)))
  .nil))
  (.cons (.ret (.v 2))
  .nil)))
theorem m_word_end (p_is_letter : Spec) : isSs n_word_end (defScope s_word_end) (c_word_end p_is_letter) (defBody s_word_end) = true :=
  by_bare (c0 := eSs (c_word_end sp0)) rfl (by decide +kernel)
abbrev s_tokens : PySem.Stmt := top 8
def n_tokens : List Str := ["text", "signs", "found", "at", "char", "end"]
theorem sc_tokens : FnScope n_tokens ["text", "signs"] (defScope s_tokens) := ⟨by decide +kernel, by decide +kernel, by decide +kernel, by decide +kernel, by decide +kernel, by decide +kernel, by decide +kernel⟩
def c_tokens (p_is_letter p_word_end : Spec) : Sts :=
  (.cons (.asg 2 (.mlst .nil))
  (.cons (.asg 3 (.c (.int 0)))
  (.cons (.whl (.val (.cmp .lt (.v 3) (.bi .len (.cons (.v 0) .nil))))
  (.cons (.asg 4 (.ix (.v 0) (.v 3)))
  (.cons (.iff (.val (.call "is_letter" p_is_letter (.cons (.v 4) .nil)))
  (.cons (.asg 5 (.call "word_end" p_word_end (.cons (.v 0) (.cons (.v 3) .nil))))
  (.cons (.ex (.mth .append (.v 2) (.cons (.tup (.cons (.c (.str "word")) (.cons (.sl (.v 0) true true (.v 3) (.v 5)) (.cons (.v 3) .nil)))) .nil)))
  (.cons (.asg 3 (.v 5))
  (.cons .cnt
  .nil))))
  .nil)
  (.cons (.iff (.val (.cmp .in_ (.v 4) (.v 1)))
  (.cons (.ex (.mth .append (.v 2) (.cons (.tup (.cons (.c (.str "sign")) (.cons (.v 4) (.cons (.v 3) .nil)))) .nil)))
  .nil)
  (.cons (.iff (.val (.cmp .nin (.v 4) (.tup (.cons (.c (.str " ")) (.cons (.c (.str "\n")) .nil)))))
  (.cons (.pr (mRaise "TextError") (wRaise "TextError") (.cons (.v 3) (.cons (.c (.str "unknown character")) .nil)))
  .nil)
  .nil)
  .nil))
  (.cons (.aug .add 3 (.c (.int 1)))
  .nil)))))
  (.gh (frzG 2) (.cons (.ret (.v 2))
  .nil)))))
theorem m_tokens (p_is_letter p_word_end : Spec) : isSs n_tokens (defScope s_tokens) (c_tokens p_is_letter p_word_end) (defBody s_tokens) = true :=
  by_bare (c0 := eSs (c_tokens sp0 sp0)) rfl (by decide +kernel)
abbrev s_Reader___init__ : PySem.Stmt := L2.inClass (top 9) 0
def n_Reader___init__ : List Str := ["self", "text", "signs"]
theorem sc_Reader___init__ : FnScope n_Reader___init__ ["self", "text", "signs"] (defScope s_Reader___init__) := ⟨by decide +kernel, by decide +kernel, by decide +kernel, by decide +kernel, by decide +kernel, by decide +kernel, by decide +kernel⟩
def c_Reader___init__ (p_tokens : Spec) : Sts :=
  (.cons (.fld "Reader" (.v 0) "size" (.bi .len (.cons (.v 1) .nil)))
  (.cons (.fld "Reader" (.v 0) "parts" (.call "tokens" p_tokens (.cons (.v 1) (.cons (.v 2) .nil))))
  (.cons (.fld "Reader" (.v 0) "taken" (.c (.int 0)))
  .nil)))
theorem m_Reader___init__ (p_tokens : Spec) : isSs n_Reader___init__ (defScope s_Reader___init__) (c_Reader___init__ p_tokens) (defBody s_Reader___init__) = true :=
  by_bare (c0 := eSs (c_Reader___init__ sp0)) rfl (by decide +kernel)
abbrev s_Reader_kind : PySem.Stmt := L2.inClass (top 9) 1
def n_Reader_kind : List Str := ["self"]
theorem sc_Reader_kind : FnScope n_Reader_kind ["self"] (defScope s_Reader_kind) := ⟨by decide +kernel, by decide +kernel, by decide +kernel, by decide +kernel, by decide +kernel, by decide +kernel, by decide +kernel⟩
def c_Reader_kind : Sts :=
  (.cons (.ret (.ife (.val (.cmp .lt (.attr "Reader" (.v 0) "taken") (.bi .len (.cons (.attr "Reader" (.v 0) "parts") .nil)))) (.ix (.ix (.attr "Reader" (.v 0) "parts") (.attr "Reader" (.v 0) "taken")) (.c (.int 0))) (.c (.str "end"))))
  .nil)
theorem m_Reader_kind : isSs n_Reader_kind (defScope s_Reader_kind) (c_Reader_kind ) (defBody s_Reader_kind) = true :=
  by_bare (c0 := eSs (c_Reader_kind )) rfl (by decide +kernel)
abbrev s_Reader_value : PySem.Stmt := L2.inClass (top 9) 2
def n_Reader_value : List Str := ["self"]
theorem sc_Reader_value : FnScope n_Reader_value ["self"] (defScope s_Reader_value) := ⟨by decide +kernel, by decide +kernel, by decide +kernel, by decide +kernel, by decide +kernel, by decide +kernel, by decide +kernel⟩
def c_Reader_value : Sts :=
  (.cons (.ret (.ife (.val (.cmp .lt (.attr "Reader" (.v 0) "taken") (.bi .len (.cons (.attr "Reader" (.v 0) "parts") .nil)))) (.ix (.ix (.attr "Reader" (.v 0) "parts") (.attr "Reader" (.v 0) "taken")) (.c (.int 1))) (.c .non)))
  .nil)
theorem m_Reader_value : isSs n_Reader_value (defScope s_Reader_value) (c_Reader_value ) (defBody s_Reader_value) = true :=
  by_bare (c0 := eSs (c_Reader_value )) rfl (by decide +kernel)
abbrev s_Reader_spot : PySem.Stmt := L2.inClass (top 9) 3
def n_Reader_spot : List Str := ["self"]
theorem sc_Reader_spot : FnScope n_Reader_spot ["self"] (defScope s_Reader_spot) := ⟨by decide +kernel, by decide +kernel, by decide +kernel, by decide +kernel, by decide +kernel, by decide +kernel, by decide +kernel⟩
def c_Reader_spot : Sts :=
  (.cons (.ret (.ife (.val (.cmp .lt (.attr "Reader" (.v 0) "taken") (.bi .len (.cons (.attr "Reader" (.v 0) "parts") .nil)))) (.ix (.ix (.attr "Reader" (.v 0) "parts") (.attr "Reader" (.v 0) "taken")) (.c (.int 2))) (.attr "Reader" (.v 0) "size")))
  .nil)
theorem m_Reader_spot : isSs n_Reader_spot (defScope s_Reader_spot) (c_Reader_spot ) (defBody s_Reader_spot) = true :=
  by_bare (c0 := eSs (c_Reader_spot )) rfl (by decide +kernel)
abbrev s_Reader_fail : PySem.Stmt := L2.inClass (top 9) 4
def n_Reader_fail : List Str := ["self"]
theorem sc_Reader_fail : FnScope n_Reader_fail ["self"] (defScope s_Reader_fail) := ⟨by decide +kernel, by decide +kernel, by decide +kernel, by decide +kernel, by decide +kernel, by decide +kernel, by decide +kernel⟩
def c_Reader_fail (p_Reader_spot p_Reader_kind : Spec) : Sts :=
  (.cons (.pr (mRaise "TextError") (wRaise "TextError") (.cons (.meth "Reader" "spot" p_Reader_spot (.v 0) .nil) (.cons (.ife (.val (.cmp .eq (.meth "Reader" "kind" p_Reader_kind (.v 0) .nil) (.c (.str "end")))) (.c (.str "unexpected end")) (.c (.str "unexpected token"))) .nil)))
  .nil)
theorem m_Reader_fail (p_Reader_spot p_Reader_kind : Spec) : isSs n_Reader_fail (defScope s_Reader_fail) (c_Reader_fail p_Reader_spot p_Reader_kind) (defBody s_Reader_fail) = true :=
  by_bare (c0 := eSs (c_Reader_fail sp0 sp0)) rfl (by decide +kernel)
abbrev s_Reader_is_sign : PySem.Stmt := L2.inClass (top 9) 5
def n_Reader_is_sign : List Str := ["self", "sign"]
theorem sc_Reader_is_sign : FnScope n_Reader_is_sign ["self", "sign"] (defScope s_Reader_is_sign) := ⟨by decide +kernel, by decide +kernel, by decide +kernel, by decide +kernel, by decide +kernel, by decide +kernel, by decide +kernel⟩
def c_Reader_is_sign (p_Reader_kind p_Reader_value : Spec) : Sts :=
  (.cons (.ret (.and (.cons (.cmp .eq (.meth "Reader" "kind" p_Reader_kind (.v 0) .nil) (.c (.str "sign"))) (.cons (.cmp .eq (.meth "Reader" "value" p_Reader_value (.v 0) .nil) (.v 1)) .nil))))
  .nil)
theorem m_Reader_is_sign (p_Reader_kind p_Reader_value : Spec) : isSs n_Reader_is_sign (defScope s_Reader_is_sign) (c_Reader_is_sign p_Reader_kind p_Reader_value) (defBody s_Reader_is_sign) = true :=
  by_bare (c0 := eSs (c_Reader_is_sign sp0 sp0)) rfl (by decide +kernel)
abbrev s_Reader_accept : PySem.Stmt := L2.inClass (top 9) 7
def n_Reader_accept : List Str := ["self", "sign"]
theorem sc_Reader_accept : FnScope n_Reader_accept ["self", "sign"] (defScope s_Reader_accept) := ⟨by decide +kernel, by decide +kernel, by decide +kernel, by decide +kernel, by decide +kernel, by decide +kernel, by decide +kernel⟩
def c_Reader_accept (p_Reader_is_sign : Spec) : Sts :=
  (.cons (.iff (.not (.val (.meth "Reader" "is_sign" p_Reader_is_sign (.v 0) (.cons (.v 1) .nil))))
  (.cons (.ret (.c (.bl false)))
  .nil)
  .nil)
  (.cons (.augF "Reader" (.v 0) "taken" (.c (.int 1)))
  (.cons (.ret (.c (.bl true)))
  .nil)))
theorem m_Reader_accept (p_Reader_is_sign : Spec) : isSs n_Reader_accept (defScope s_Reader_accept) (c_Reader_accept p_Reader_is_sign) (defBody s_Reader_accept) = true :=
  by_bare (c0 := eSs (c_Reader_accept sp0)) rfl (by decide +kernel)
abbrev s_Reader_need : PySem.Stmt := L2.inClass (top 9) 8
def n_Reader_need : List Str := ["self", "sign"]
theorem sc_Reader_need : FnScope n_Reader_need ["self", "sign"] (defScope s_Reader_need) := ⟨by decide +kernel, by decide +kernel, by decide +kernel, by decide +kernel, by decide +kernel, by decide +kernel, by decide +kernel⟩
def c_Reader_need (p_Reader_accept p_Reader_fail : Spec) : Sts :=
  (.cons (.iff (.not (.val (.meth "Reader" "accept" p_Reader_accept (.v 0) (.cons (.v 1) .nil))))
  (.cons (.ex (.meth "Reader" "fail" p_Reader_fail (.v 0) .nil))
  .nil)
  .nil)
  .nil)
theorem m_Reader_need (p_Reader_accept p_Reader_fail : Spec) : isSs n_Reader_need (defScope s_Reader_need) (c_Reader_need p_Reader_accept p_Reader_fail) (defBody s_Reader_need) = true :=
  by_bare (c0 := eSs (c_Reader_need sp0 sp0)) rfl (by decide +kernel)
abbrev s_Reader_name : PySem.Stmt := L2.inClass (top 9) 9
def n_Reader_name : List Str := ["self"]
theorem sc_Reader_name : FnScope n_Reader_name ["self"] (defScope s_Reader_name) := ⟨by decide +kernel, by decide +kernel, by decide +kernel, by decide +kernel, by decide +kernel, by decide +kernel, by decide +kernel⟩
def c_Reader_name (p_Reader_kind p_Reader_value p_Reader_fail : Spec) : Sts :=
  (.cons (.iff (.or (.cons (.val (.cmp .ne (.meth "Reader" "kind" p_Reader_kind (.v 0) .nil) (.c (.str "word")))) (.cons (.val (.cmp .gt (.bi .len (.cons (.meth "Reader" "value" p_Reader_value (.v 0) .nil) .nil)) (.g "NAME_MOST" g_NAME_MOST))) .nil)))
  (.cons (.ex (.meth "Reader" "fail" p_Reader_fail (.v 0) .nil))
  .nil)
  .nil)
  (.cons (.augF "Reader" (.v 0) "taken" (.c (.int 1)))
  (.cons (.ret (.ix (.ix (.attr "Reader" (.v 0) "parts") (.bin .sub (.attr "Reader" (.v 0) "taken") (.c (.int 1)))) (.c (.int 1))))
  .nil)))
theorem m_Reader_name (p_Reader_kind p_Reader_value p_Reader_fail : Spec) : isSs n_Reader_name (defScope s_Reader_name) (c_Reader_name p_Reader_kind p_Reader_value p_Reader_fail) (defBody s_Reader_name) = true :=
  by_bare (c0 := eSs (c_Reader_name sp0 sp0 sp0)) rfl (by decide +kernel)
abbrev s_read_events : PySem.Stmt := top 12
def n_read_events : List Str := ["text", "reader", "events", "depth"]
theorem sc_read_events : FnScope n_read_events ["text"] (defScope s_read_events) := ⟨by decide +kernel, by decide +kernel, by decide +kernel, by decide +kernel, by decide +kernel, by decide +kernel, by decide +kernel⟩
def c_read_events (p_Reader_kind p_Reader_accept p_Reader_fail p_Reader_name p_Reader_need p_Reader___init__ : Spec) : Sts :=
  (.cons (.asg 1 (.pr (mrCall "Reader") (mkW "Reader" p_Reader___init__) (.cons (.v 0) (.cons (.c (.str "()")) .nil))))
  (.cons (.asg 2 (.mlst .nil))
  (.cons (.asg 3 (.c (.int 0)))
  (.cons (.whl (.val (.cmp .ne (.meth "Reader" "kind" p_Reader_kind (.v 1) .nil) (.c (.str "end"))))
  (.cons (.iff (.and (.cons (.val (.cmp .gt (.v 3) (.c (.int 0)))) (.cons (.val (.meth "Reader" "accept" p_Reader_accept (.v 1) (.cons (.c (.str ")")) .nil))) .nil)))
  (.cons (.ex (.mth .append (.v 2) (.cons (.g "END" g_END) .nil)))
  (.cons (.aug .sub 3 (.c (.int 1)))
  (.cons .cnt
  .nil)))
  .nil)
  (.cons (.iff (.and (.cons (.val (.cmp .eq (.v 3) (.c (.int 0)))) (.cons (.val (.v 2)) .nil)))
  (.cons (.ex (.meth "Reader" "fail" p_Reader_fail (.v 1) .nil))
  .nil)
  .nil)
  (.cons (.ex (.mth .append (.v 2) (.cons (.meth "Reader" "name" p_Reader_name (.v 1) .nil) .nil)))
  (.cons (.ex (.meth "Reader" "need" p_Reader_need (.v 1) (.cons (.c (.str "(")) .nil)))
  (.cons (.aug .add 3 (.c (.int 1)))
  .nil))))))
  (.gh (frzG 2) (.cons (.ret (.v 2))
  .nil))))))
theorem m_read_events (p_Reader_kind p_Reader_accept p_Reader_fail p_Reader_name p_Reader_need p_Reader___init__ : Spec) : isSs n_read_events (defScope s_read_events) (c_read_events p_Reader_kind p_Reader_accept p_Reader_fail p_Reader_name p_Reader_need p_Reader___init__) (defBody s_read_events) = true :=
  by_bare (c0 := eSs (c_read_events sp0 sp0 sp0 sp0 sp0 sp0)) rfl (by decide +kernel)
abbrev s_law_draw : PySem.Stmt := top 14
def n_law_draw : List Str := ["_law_script"]
theorem sc_law_draw : FnScope n_law_draw ["_law_script"] (defScope s_law_draw) := ⟨by decide +kernel, by decide +kernel, by decide +kernel, by decide +kernel, by decide +kernel, by decide +kernel, by decide +kernel⟩
def c_law_draw : Sts :=
  (.cons (.ret (.mlst (.cons (.bi .list (.cons (.v 0) .nil)) (.cons (.c (.int 0)) (.cons (.c (.int 0)) (.cons (.c (.int 17)) .nil))))))
  .nil)
theorem m_law_draw : isSs n_law_draw (defScope s_law_draw) (c_law_draw ) (defBody s_law_draw) = true :=
  by_bare (c0 := eSs (c_law_draw )) rfl (by decide +kernel)
abbrev s_law_next : PySem.Stmt := top 15
def n_law_next : List Str := ["_law_draw_here", "_law_many", "_law_found", "_law_cell"]
theorem sc_law_next : FnScope n_law_next ["_law_draw_here", "_law_many"] (defScope s_law_next) := ⟨by decide +kernel, by decide +kernel, by decide +kernel, by decide +kernel, by decide +kernel, by decide +kernel, by decide +kernel⟩
def c_law_next : Sts :=
  (.cons (.iff (.val (.cmp .gt (.ix (.v 0) (.c (.int 2))) (.c (.int 0))))
  (.cons (.asg 2 (.bin .mod (.bi .int (.cons (.ix (.v 0) (.c (.int 2))) .nil)) (.v 1)))
  (.cons (.sto (.v 0) (.c (.int 2)) (.bin .fdiv (.ix (.v 0) (.c (.int 2))) (.v 1)))
  (.cons (.ret (.v 2))
  .nil)))
  .nil)
  (.cons (.iff (.val (.cmp .lt (.ix (.v 0) (.c (.int 1))) (.bi .len (.cons (.ix (.v 0) (.c (.int 0))) .nil))))
  (.cons (.asg 3 (.bi .abs (.cons (.ix (.ix (.v 0) (.c (.int 0))) (.ix (.v 0) (.c (.int 1)))) .nil)))
  (.cons (.sto (.v 0) (.c (.int 1)) (.bin .add (.ix (.v 0) (.c (.int 1))) (.c (.int 1))))
  (.cons (.iff (.val (.cmp .ge (.v 3) (.bin .pow (.c (.int 10)) (.c (.int 18)))))
  (.cons (.sto (.v 0) (.c (.int 2)) (.bin .fdiv (.v 3) (.v 1)))
  (.cons (.ret (.bin .mod (.bi .int (.cons (.v 3) .nil)) (.v 1)))
  .nil))
  .nil)
  (.cons (.sto (.v 0) (.c (.int 3)) (.bin .mod (.bi .int (.cons (.bin .add (.bin .add (.bin .mul (.ix (.v 0) (.c (.int 3))) (.c (.int 48271))) (.v 3)) (.c (.int 11))) .nil)) (.c (.int 2147483647))))
  .nil))))
  (.cons (.sto (.v 0) (.c (.int 3)) (.bin .mod (.bi .int (.cons (.bin .add (.bin .mul (.ix (.v 0) (.c (.int 3))) (.c (.int 48271))) (.c (.int 12345))) .nil)) (.c (.int 2147483647))))
  .nil))
  (.cons (.ret (.bin .mod (.bin .fdiv (.bi .int (.cons (.bin .mod (.bin .mul (.ix (.v 0) (.c (.int 3))) (.c (.int 69621))) (.c (.int 2147483629))) .nil)) (.c (.int 7))) (.v 1)))
  .nil)))
theorem m_law_next : isSs n_law_next (defScope s_law_next) (c_law_next ) (defBody s_law_next) = true :=
  by_bare (c0 := eSs (c_law_next )) rfl (by decide +kernel)
abbrev s_law_same : PySem.Stmt := top 16
def n_law_same : List Str := ["_law_actual", "_law_due_here", "_law_k"]
theorem sc_law_same : FnScope n_law_same ["_law_actual", "_law_due_here"] (defScope s_law_same) := ⟨by decide +kernel, by decide +kernel, by decide +kernel, by decide +kernel, by decide +kernel, by decide +kernel, by decide +kernel⟩
def c_law_same (p_law_same : Spec) : Sts :=
  (.cons (.iff (.val (.isi2 (.v 1) "list" "tuple"))
  (.cons (.iff (.or (.cons (.val (.cmp .ne (.isi (.v 1) "list") (.isi (.v 0) "list"))) (.cons (.val (.cmp .ne (.isi (.v 1) "tuple") (.isi (.v 0) "tuple"))) .nil)))
  (.cons (.ret (.c (.bl false)))
  .nil)
  .nil)
  (.cons (.iff (.val (.cmp .ne (.bi .len (.cons (.v 0) .nil)) (.bi .len (.cons (.v 1) .nil))))
  (.cons (.ret (.c (.bl false)))
  .nil)
  .nil)
  (.cons (.ret (.bi .all (.cons (.lc (.call "_law_same" p_law_same (.cons (.ix (.v 0) (.v 2)) (.cons (.ix (.v 1) (.v 2)) .nil))) [("_law_k", 2)] (.nm 2) (.rng1 (.bi .len (.cons (.v 1) .nil))) .nil) .nil)))
  .nil)))
  .nil)
  (.cons (.iff (.val (.cmp .is_ (.v 1) (.c .non)))
  (.cons (.ret (.cmp .is_ (.v 0) (.c .non)))
  .nil)
  .nil)
  (.cons (.iff (.val (.cmp .ne (.isi (.v 1) "bool") (.isi (.v 0) "bool")))
  (.cons (.ret (.c (.bl false)))
  .nil)
  .nil)
  (.cons (.iff (.val (.isi (.v 1) "str"))
  (.cons (.ret (.and (.cons (.isi (.v 0) "str") (.cons (.cmp .eq (.v 0) (.v 1)) .nil))))
  .nil)
  .nil)
  (.cons (.ret (.and (.cons (.isi (.v 0) "int") (.cons (.cmp .eq (.v 0) (.v 1)) .nil))))
  .nil)))))
theorem m_law_same (p_law_same : Spec) : isSs n_law_same (defScope s_law_same) (c_law_same p_law_same) (defBody s_law_same) = true :=
  by_bare (c0 := eSs (c_law_same sp0)) rfl (by decide +kernel)
abbrev s_law_tokens : PySem.Stmt := top 17
def n_law_tokens : List Str := ["_law_draw_here", "_law_tokens_here", "_law_level", "_law_k", "_law_form"]
theorem sc_law_tokens : FnScope n_law_tokens ["_law_draw_here"] (defScope s_law_tokens) := ⟨by decide +kernel, by decide +kernel, by decide +kernel, by decide +kernel, by decide +kernel, by decide +kernel, by decide +kernel⟩
def c_law_tokens (p_law_next : Spec) : Sts :=
  (.cons (.asg 1 (.mlst .nil))
  (.cons (.asg 2 (.c (.int 0)))
  (.cons (.for_ (.nm 3) (.rng1 (.call "_law_next" p_law_next (.cons (.v 0) (.cons (.c (.int 12)) .nil))))
  (.cons (.asg 4 (.call "_law_next" p_law_next (.cons (.v 0) (.cons (.c (.int 14)) .nil))))
  (.cons (.iff (.val (.cmp .lt (.v 4) (.c (.int 6))))
  (.cons (.asg 1 (.bin .add (.v 1) (.lst (.cons (.ix (.lst (.cons (.c (.str "a")) (.cons (.c (.str "bc")) (.cons (.c (.str "abcdefgh")) .nil)))) (.call "_law_next" p_law_next (.cons (.v 0) (.cons (.c (.int 3)) .nil)))) (.cons (.c (.str "(")) .nil)))))
  (.cons (.asg 2 (.bin .add (.v 2) (.c (.int 1))))
  .nil))
  (.cons (.iff (.and (.cons (.val (.cmp .lt (.v 4) (.c (.int 11)))) (.cons (.val (.cmp .gt (.v 2) (.c (.int 0)))) .nil)))
  (.cons (.ex (.mth .append (.v 1) (.cons (.c (.str ")")) .nil)))
  (.cons (.asg 2 (.bin .sub (.v 2) (.c (.int 1))))
  .nil))
  (.cons (.iff (.val (.cmp .eq (.v 4) (.c (.int 11))))
  (.cons (.ex (.mth .append (.v 1) (.cons (.ix (.lst (.cons (.c (.str "a")) (.cons (.c (.str "(")) (.cons (.c (.str ")")) (.cons (.c (.str "abcdefghi")) .nil))))) (.call "_law_next" p_law_next (.cons (.v 0) (.cons (.c (.int 4)) .nil)))) .nil)))
  .nil)
  (.cons (.iff (.and (.cons (.val (.cmp .eq (.v 4) (.c (.int 12)))) (.cons (.val (.cmp .eq (.call "_law_next" p_law_next (.cons (.v 0) (.cons (.c (.int 3)) .nil))) (.c (.int 0)))) .nil)))
  (.cons (.ex (.mth .append (.v 1) (.cons (.ix (.lst (.cons (.c (.str "-")) (.cons (.c (.str "=")) (.cons (.c (.str "A")) (.cons (.c (.str "7")) .nil))))) (.call "_law_next" p_law_next (.cons (.v 0) (.cons (.c (.int 4)) .nil)))) .nil)))
  .nil)
  .nil)
  .nil))
  .nil))
  .nil))
  .nil)))
  (.gh (frzG 1) (.cons (.ret (.v 1))
  .nil)))))
theorem m_law_tokens (p_law_next : Spec) : isSs n_law_tokens (defScope s_law_tokens) (c_law_tokens p_law_next) (defBody s_law_tokens) = true :=
  by_bare (c0 := eSs (c_law_tokens sp0)) rfl (by decide +kernel)
abbrev s_law_text : PySem.Stmt := top 18
def n_law_text : List Str := ["_law_draw_here", "_law_tokens_here", "_law_text_here", "_law_places", "_law_token"]
theorem sc_law_text : FnScope n_law_text ["_law_draw_here", "_law_tokens_here"] (defScope s_law_text) := ⟨by decide +kernel, by decide +kernel, by decide +kernel, by decide +kernel, by decide +kernel, by decide +kernel, by decide +kernel⟩
def c_law_text (p_law_next : Spec) : Sts :=
  (.cons (.asg 2 (.ix (.lst (.cons (.c (.str "")) (.cons (.c (.str " ")) .nil))) (.call "_law_next" p_law_next (.cons (.v 0) (.cons (.c (.int 2)) .nil)))))
  (.cons (.asg 3 (.mlst .nil))
  (.cons (.for_ (.nm 4) (.ex (.v 1))
  (.cons (.ex (.mth .append (.v 3) (.cons (.bi .len (.cons (.v 2) .nil)) .nil)))
  (.cons (.asg 2 (.bin .add (.bin .add (.v 2) (.v 4)) (.ix (.lst (.cons (.c (.str " ")) (.cons (.c (.str "\n")) (.cons (.c (.str "  ")) .nil)))) (.call "_law_next" p_law_next (.cons (.v 0) (.cons (.c (.int 3)) .nil))))))
  .nil)))
  (.cons (.ret (.tup (.cons (.v 2) (.cons (.v 3) .nil))))
  .nil))))
theorem m_law_text (p_law_next : Spec) : isSs n_law_text (defScope s_law_text) (c_law_text p_law_next) (defBody s_law_text) = true :=
  by_bare (c0 := eSs (c_law_text sp0)) rfl (by decide +kernel)
abbrev s_law_first_wrong : PySem.Stmt := top 19
def n_law_first_wrong : List Str := ["_law_tokens_here", "_law_level", "_law_opened", "_law_named", "_law_k", "_law_token", "_law_whole"]
theorem sc_law_first_wrong : FnScope n_law_first_wrong ["_law_tokens_here"] (defScope s_law_first_wrong) := ⟨by decide +kernel, by decide +kernel, by decide +kernel, by decide +kernel, by decide +kernel, by decide +kernel, by decide +kernel⟩
def c_law_first_wrong : Sts :=
  (.cons (.asg 1 (.c (.int 0)))
  (.cons (.asg 2 (.c (.bl false)))
  (.cons (.asg 3 (.c (.bl false)))
  (.cons (.for_ (.nm 4) (.rng1 (.bi .len (.cons (.v 0) .nil)))
  (.cons (.asg 5 (.ix (.v 0) (.v 4)))
  (.cons (.asg 6 (.and (.cons (.v 2) (.cons (.cmp .eq (.v 1) (.c (.int 0))) (.cons (.not (.v 3)) .nil)))))
  (.cons (.iff (.val (.v 3))
  (.cons (.iff (.val (.cmp .ne (.v 5) (.c (.str "("))))
  (.cons (.ret (.v 4))
  .nil)
  .nil)
  (.cons (.asg 3 (.c (.bl false)))
  (.cons (.asg 1 (.bin .add (.v 1) (.c (.int 1))))
  (.cons (.asg 2 (.c (.bl true)))
  .nil))))
  (.cons (.iff (.val (.cmp .eq (.v 5) (.c (.str ")"))))
  (.cons (.iff (.val (.cmp .eq (.v 1) (.c (.int 0))))
  (.cons (.ret (.v 4))
  .nil)
  .nil)
  (.cons (.asg 1 (.bin .sub (.v 1) (.c (.int 1))))
  .nil))
  (.cons (.iff (.or (.cons (.val (.cmp .eq (.v 5) (.c (.str "(")))) (.cons (.val (.v 6)) (.cons (.val (.cmp .gt (.bi .len (.cons (.v 5) .nil)) (.c (.int 8)))) .nil))))
  (.cons (.ret (.v 4))
  .nil)
  (.cons (.asg 3 (.c (.bl true)))
  .nil))
  .nil))
  .nil))
  .nil))))
  (.cons (.ret (.neg (.c (.int 1))))
  .nil)))))
theorem m_law_first_wrong : isSs n_law_first_wrong (defScope s_law_first_wrong) (c_law_first_wrong ) (defBody s_law_first_wrong) = true :=
  by_bare (c0 := eSs (c_law_first_wrong )) rfl (by decide +kernel)
abbrev s_law_due : PySem.Stmt := top 20
def n_law_due : List Str := ["_law_tokens_here", "_law_text_here", "_law_places", "_law_k", "_law_wrong"]
theorem sc_law_due : FnScope n_law_due ["_law_tokens_here", "_law_text_here", "_law_places"] (defScope s_law_due) := ⟨by decide +kernel, by decide +kernel, by decide +kernel, by decide +kernel, by decide +kernel, by decide +kernel, by decide +kernel⟩
def c_law_due (p_law_first_wrong : Spec) : Sts :=
  (.cons (.for_ (.nm 3) (.rng1 (.bi .len (.cons (.v 0) .nil)))
  (.cons (.iff (.val (.cmp .in_ (.ix (.v 0) (.v 3)) (.tup (.cons (.c (.str "-")) (.cons (.c (.str "=")) (.cons (.c (.str "A")) (.cons (.c (.str "7")) .nil)))))))
  (.cons (.ret (.tup (.cons (.c (.str "unknown character")) (.cons (.ix (.v 2) (.v 3)) .nil))))
  .nil)
  .nil)
  .nil))
  (.cons (.asg 4 (.call "_law_first_wrong" p_law_first_wrong (.cons (.v 0) .nil)))
  (.cons (.iff (.val (.cmp .ge (.v 4) (.c (.int 0))))
  (.cons (.ret (.tup (.cons (.c (.str "unexpected token")) (.cons (.ix (.v 2) (.v 4)) .nil))))
  .nil)
  .nil)
  (.cons (.iff (.and (.cons (.val (.v 0)) (.cons (.val (.cmp .nin (.ix (.v 0) (.neg (.c (.int 1)))) (.tup (.cons (.c (.str "(")) (.cons (.c (.str ")")) .nil))))) .nil)))
  (.cons (.ret (.tup (.cons (.c (.str "unexpected end")) (.cons (.bi .len (.cons (.v 1) .nil)) .nil))))
  .nil)
  .nil)
  (.cons (.ret (.tup (.cons (.c (.str "events")) (.cons (.c (.int 0)) .nil))))
  .nil)))))
theorem m_law_due (p_law_first_wrong : Spec) : isSs n_law_due (defScope s_law_due) (c_law_due p_law_first_wrong) (defBody s_law_due) = true :=
  by_bare (c0 := eSs (c_law_due sp0)) rfl (by decide +kernel)
abbrev s_law_told : PySem.Stmt := top 21
def n_law_told : List Str := ["_law_text_here", "_law_right", "error"]
theorem sc_law_told : FnScope n_law_told ["_law_text_here"] (defScope s_law_told) := ⟨by decide +kernel, by decide +kernel, by decide +kernel, by decide +kernel, by decide +kernel, by decide +kernel, by decide +kernel⟩
def c_law_told (p_read_events : Spec) : Sts :=
  (.cons (.ret (.tup (.cons (.c (.str "events")) (.cons (.c (.int 0)) (.cons (.call "read_events" p_read_events (.cons (.v 0) .nil)) .nil)))))
  .nil)
theorem m_law_told (p_read_events : Spec) : isSs n_law_told (defScope s_law_told) (c_law_told p_read_events) (tryB s_law_told) = true :=
  by_bare (c0 := eSs (c_law_told sp0)) rfl (by decide +kernel)
abbrev s_law : PySem.Stmt := top 22
def n_law : List Str := ["_law_script", "_law_draw_here", "_law_turn", "_law_tokens_here", "_law_text_here", "_law_places", "_law_due_here", "_law_told_here", "_law_token"]
theorem sc_law : FnScope n_law ["_law_script"] (defScope s_law) := ⟨by decide +kernel, by decide +kernel, by decide +kernel, by decide +kernel, by decide +kernel, by decide +kernel, by decide +kernel⟩
def c_law (p_law_tokens p_law_text p_law_due p_law_told p_law_same p_law_draw : Spec) : Sts :=
  (.cons (.asg 1 (.call "_law_draw" p_law_draw (.cons (.v 0) .nil)))
  (.cons (.for_ (.nm 2) (.rng1 (.c (.int 4)))
  (.cons (.asg 3 (.call "_law_tokens" p_law_tokens (.cons (.v 1) .nil)))
  (.cons (.asgT (.tp (.cons (.nm 4) (.cons (.nm 5) .nil))) (.call "_law_text" p_law_text (.cons (.v 1) (.cons (.v 3) .nil))))
  (.cons (.asg 6 (.call "_law_due" p_law_due (.cons (.v 3) (.cons (.v 4) (.cons (.v 5) .nil)))))
  (.cons (.asg 7 (.call "_law_told" p_law_told (.cons (.v 4) .nil)))
  (.cons (.iff (.not (.val (.call "_law_same" p_law_same (.cons (.sl (.v 7) false true (.c .non) (.c (.int 2))) (.cons (.v 6) .nil)))))
  (.cons (.ret (.c (.bl false)))
  .nil)
  .nil)
  (.cons (.iff (.and (.cons (.val (.cmp .eq (.ix (.v 6) (.c (.int 0))) (.c (.str "events")))) (.cons (.not (.val (.call "_law_same" p_law_same (.cons (.ix (.v 7) (.c (.int 2))) (.cons (.lc (.v 8) [("_law_token", 8)] (.nm 8) (.ex (.v 3)) (.one (.val (.cmp .ne (.v 8) (.c (.str "(")))))) .nil))))) .nil)))
  (.cons (.ret (.c (.bl false)))
  .nil)
  .nil)
  .nil)))))))
  (.cons (.ret (.c (.bl true)))
  .nil)))
theorem m_law (p_law_tokens p_law_text p_law_due p_law_told p_law_same p_law_draw : Spec) : isSs n_law (defScope s_law) (c_law p_law_tokens p_law_text p_law_due p_law_told p_law_same p_law_draw) (defBody s_law) = true :=
  by_bare (c0 := eSs (c_law sp0 sp0 sp0 sp0 sp0 sp0)) rfl (by decide +kernel)
end VS.K42
namespace VS
open PySem PySem.Spec PyProof.Rows L2
namespace K42
def spLet : Spec := fun ds M Q _ => ∃ c : Char, ds = [.str (String.singleton c)] ∧ Q (.bl (isLet c)) M
theorem h_is_letter : ∀ ds M Q E, ds.length = 1 → spLet ds M Q E → dSs E c_is_letter { nx := fun _ M' => Q .non M', rt := Q } (startD n_is_letter.length ds) M := by
  rintro ds M Q E hl ⟨c, rfl, q⟩
  show dSs E c_is_letter _ [some (.str (String.singleton c))] M
  unfold c_is_letter
  simp only [dSs, dS, dT, dE, dEs, dTO, dTA, dAnd, dOr, dIt, dIf, gTg, gTgs, wipeD, List.map_cons, List.map_nil, List.set_cons_zero, List.set_cons_succ, bne_self, Bool.not_true, Bool.not_false, Bool.or_false, Bool.false_or, Bool.or_true, Bool.true_or, decide_true, decide_false, and_true, true_and, rdA, wCmp, wCmpI, le_a, le_z]
  unfold isLet at q
  cases h : decide (97 ≤ c.toNat) with
  | true => rw [h, Bool.true_and] at q; exact q
  | false => rw [h, Bool.false_and] at q; exact q
def spWordEnd : Spec := fun ds M Q _ => ∃ (t : String) (i : Nat) (w r : List Char), ds = [.str t, .int (i : Int)] ∧ t.length ≤ 100000 ∧ i ≤ t.length ∧ t.toList.drop i = w ++ r ∧ (∀ c ∈ w, isLet c = true) ∧ (∀ c r', r = c :: r' → isLet c = false) ∧ Q (.int ((i + w.length : Nat) : Int)) M
theorem h_word_end : ∀ ds M Q E, ds.length = 2 → spWordEnd ds M Q E → dSs E (c_word_end spLet) { nx := fun _ M' => Q .non M', rt := Q } (startD n_word_end.length ds) M := by
  rintro ds M Q E hl ⟨t, i, w, r, rfl, h1, hi, h2, h3, h4, q⟩
  show dSs E (c_word_end spLet) _ [some (.str t), some (.int (i : Int)), none] M
  unfold c_word_end
  have ll : line = 16777216 := rfl
  have hlen : t.toList.length = t.length := String.length_toList
  have hw : t.length - i = w.length + r.length := by rw [← hlen, ← List.length_drop, h2, List.length_append]
  simp only [dSs, dS, dT, dE, dEs, dTO, dTA, dAnd, dOr, dIt, dIf, gTg, gTgs, wipeD, List.map_cons, List.map_nil, List.set_cons_zero, List.set_cons_succ, bne_self, Bool.not_true, Bool.not_false, Bool.or_false, Bool.false_or, Bool.or_true, Bool.true_or, decide_true, decide_false, and_true, true_and, rdA]
  refine ⟨fun m σ M' => ∃ j : Nat, j ≤ w.length ∧ σ = [some (.str t), some (.int (i : Int)), some (.int ((i + j : Nat) : Int))] ∧ M' = M ∧ m = w.length - j, ⟨_, 0, Nat.zero_le _, rfl, rfl, rfl⟩, ?_⟩
  rintro m σ M' ⟨j, hj, rfl, rfl, rfl⟩
  simp only [dSs, dS, dT, dE, dEs, dTO, dTA, dAnd, dOr, dIt, dIf, gTg, gTgs, wipeD, List.map_cons, List.map_nil, List.set_cons_zero, List.set_cons_succ, bne_self, Bool.not_true, Bool.not_false, Bool.or_false, Bool.false_or, Bool.or_true, Bool.true_or, decide_true, decide_false, and_true, true_and, rdA]
  refine ⟨by omega, ?_⟩
  have at_ : t.toList[i + j]? = (w ++ r)[j]? := by rw [← h2, List.getElem?_drop]
  by_cases hlt : ((i + j : Nat) : Int) < (t.length : Int)
  · simp only [decide_eq_true hlt]
    have hlt' : i + j < t.length := by omega
    by_cases hjw : j < w.length
    · have e : t.toList[i + j]? = some w[j] := by rw [at_, List.getElem?_append_left hjw, List.getElem?_eq_getElem hjw]
      rw [w_ixS (by omega) e]
      refine ⟨w[j], rfl, ?_⟩
      rw [h3 _ (List.getElem_mem hjw)]
      simp only [dSs, dS, dT, dE, dEs, dTO, dTA, dAnd, dOr, dIt, dIf, gTg, gTgs, wipeD, List.map_cons, List.map_nil, List.set_cons_zero, List.set_cons_succ, bne_self, Bool.not_true, Bool.not_false, Bool.or_false, Bool.false_or, Bool.or_true, Bool.true_or, decide_true, decide_false, and_true, true_and, rdA, wIp]
      exact ⟨_, (by omega : w.length - (j + 1) < w.length - j), j + 1, hjw, by rw [show ((i + j : Nat) : Int) + 1 = ((i + (j + 1) : Nat) : Int) by omega], rfl⟩
    · have ej : j = w.length := by omega
      subst ej
      cases r with
      | nil => simp only [List.length_nil] at hw; omega
      | cons c r =>
        have e : t.toList[i + w.length]? = some c := by rw [at_, List.getElem?_append_right (Nat.le_refl _), Nat.sub_self]; rfl
        rw [w_ixS (by omega) e]
        refine ⟨c, rfl, ?_⟩
        rw [h4 c r rfl]
        simp only [dSs, dS, dT, dE, dEs, dTO, dTA, dAnd, dOr, dIt, dIf, gTg, gTgs, wipeD, List.map_cons, List.map_nil, List.set_cons_zero, List.set_cons_succ, bne_self, Bool.not_true, Bool.not_false, Bool.or_false, Bool.false_or, Bool.or_true, Bool.true_or, decide_true, decide_false, and_true, true_and, rdA]
        exact q
  · simp only [decide_eq_false hlt]
    have ej : j = w.length := by omega
    subst ej
    exact q
def LexK (ts : List Tk) (o : Option Nat) (M : Store) (Q : DK) (E : XP) : Prop := match o with | none => Q (.lst (ts.map tkD)) M | some e => ∀ M', Dr M M' → E "TextError" (errF "unknown character" e) M'
def spTokens : Spec := fun ds M Q E => ∃ (t S : String) (ts : List Tk) (o : Option Nat), ds = [.str t, .str S] ∧ t.length ≤ 100000 ∧ ' ' ∉ S.toList ∧ '\n' ∉ S.toList ∧ (∀ c ∈ S.toList, isLet c = false) ∧ LexO S.toList t.toList 0 ts o ∧ LexK ts o M Q E
theorem h_tokens : ∀ ds M Q E, ds.length = 2 → spTokens ds M Q E → dSs E (c_tokens spLet spWordEnd) { nx := fun _ M' => Q .non M', rt := Q } (startD n_tokens.length ds) M := by
  rintro ds M Q E hl ⟨t, S, ts, o, rfl, h1, s1, s2, s3, lx, q⟩
  show dSs E (c_tokens spLet spWordEnd) _ [some (.str t), some (.str S), none, none, none, none] M
  unfold c_tokens
  have ll : line = 16777216 := rfl
  have hlen : t.toList.length = t.length := String.length_toList
  simp only [dSs, dS, dT, dE, dEs, dTO, dTA, dAnd, dOr, dIt, dIf, gTg, gTgs, wipeD, List.map_cons, List.map_nil, List.set_cons_zero, List.set_cons_succ, bne_self, Bool.not_true, Bool.not_false, Bool.or_false, Bool.false_or, Bool.or_true, Bool.true_or, decide_true, decide_false, and_true, true_and, rdA]
  intro p hp
  have fin : o = none → ∀ (at_ : Nat) (o4 o5 : Option D), ∃ σ' M', frzG 2 [some (.str t), some (.str S), some (.ptr p), some (.int (at_ : Int)), o4, o5] (M.put p (.lst (ts.map tkD))) σ' M' ∧ getS σ' 2 fun d => Q d M' := fun eo at_ o4 o5 => by
    subst eo
    exact ⟨_, _, ⟨p, _, rfl, put_same, rfl, rfl⟩, by rw [del_put hp]; exact q⟩
  refine ⟨fun m σ M' => ∃ (i : Nat) (dn rs : List Tk) (o4 o5 : Option D), i ≤ t.length ∧ σ = [some (.str t), some (.str S), some (.ptr p), some (.int (i : Int)), o4, o5] ∧ M' = M.put p (.lst (dn.map tkD)) ∧ LexO S.toList (t.toList.drop i) i rs o ∧ dn ++ rs = ts ∧ m = t.length - i,
    ⟨_, 0, [], ts, none, none, Nat.zero_le _, rfl, rfl, lx, rfl, rfl⟩, ?_⟩
  rintro m σ M' ⟨i, dn, rs, o4, o5, hi, rfl, rfl, lx', hs, rfl⟩
  have hts := lx.len
  have dl : dn.length ≤ t.length := by
    have := congrArg List.length hs
    rw [List.length_append] at this
    omega
  simp only [dSs, dS, dT, dE, dEs, dTO, dTA, dAnd, dOr, dIt, dIf, gTg, gTgs, wipeD, List.map_cons, List.map_nil, List.set_cons_zero, List.set_cons_succ, bne_self, Bool.not_true, Bool.not_false, Bool.or_false, Bool.false_or, Bool.or_true, Bool.true_or, decide_true, decide_false, and_true, true_and, rdA]
  refine ⟨by omega, ?_⟩
  have hM : (M.put p (.lst (dn.map tkD))) p = some (.lst (dn.map tkD)) := put_same
  by_cases hlt : (i : Int) < (t.length : Int)
  · simp only [decide_eq_true hlt]
    have hlt' : i < t.toList.length := by omega
    obtain ⟨c, r, hc⟩ : ∃ c r, t.toList.drop i = c :: r := ⟨_, _, List.drop_eq_getElem_cons hlt'⟩
    have e : t.toList[i]? = some c := by
      have := congrArg (fun l => l[0]?) hc
      simpa using this
    have er : t.toList.drop (i + 1) = r := by
      have := congrArg (fun l => l.drop 1) hc
      simpa [List.drop_drop] using this
    rw [w_ixS (by omega) e]
    have inS : ∀ (QQ : DK) (MM : Store), wCmp .in_ (.str (String.singleton c)) (.str S) MM QQ = QQ (.bl (decide (c ∈ S.toList))) MM := fun QQ MM => by
      show (∃ a, String.singleton c = String.singleton a ∧ QQ (.bl (decide (a ∈ S.toList))) MM) = _
      refine propext ⟨fun ⟨a, ea, qa⟩ => ?_, fun h => ⟨c, rfl, h⟩⟩
      have : c = a := by
        have := congrArg String.toList ea
        simpa using this
      subst this; exact qa
    rw [hc] at lx'
    generalize hcr : c :: r = cr at lx'
    cases lx' with
    | nil => cases hcr
    | bad nl nS n1 n2 =>
      injection hcr with hcr1 hcr2
      subst hcr1; subst hcr2
      refine ⟨c, rfl, ?_⟩
      rw [nl]
      simp only [dSs, dS, dT, dE, dEs, dTO, dTA, dAnd, dOr, dIt, dIf, gTg, gTgs, wipeD, List.map_cons, List.map_nil, List.set_cons_zero, List.set_cons_succ, bne_self, Bool.not_true, Bool.not_false, Bool.or_false, Bool.false_or, Bool.or_true, Bool.true_or, decide_true, decide_false, and_true, true_and, rdA, inS, decide_eq_false nS]
      have e2 : ∀ QQ : DK, ∀ MM, wCmp .nin (.str (String.singleton c)) (.tup [.str " ", .str "\n"]) MM QQ = QQ (.bl true) MM := fun QQ MM => by
        have := in_strs (s := String.singleton c) (M := MM) (P := fun b => QQ (.bl (!b)) MM) [" ", "\n"]
        have hd : decide (String.singleton c ∈ [" ", "\n"]) = false := by
          apply decide_eq_false
          intro z
          simp only [List.mem_cons, List.not_mem_nil, or_false] at z
          rcases z with z | z
          · exact n1 (by have := congrArg String.toList z; simpa using this)
          · exact n2 (by have := congrArg String.toList z; simpa using this)
        rw [hd] at this
        exact this
      simp only [e2, dSs, dS, dT, dE, dEs, dTO, dTA, dAnd, dOr, dIt, dIf, gTg, gTgs, wipeD, List.map_cons, List.map_nil, List.set_cons_zero, List.set_cons_succ, bne_self, Bool.not_true, Bool.not_false, Bool.or_false, Bool.false_or, Bool.or_true, Bool.true_or, decide_true, decide_false, and_true, true_and, rdA]
      exact w_raise (by omega) (by decide) (q _ (Dr.new hp))
    | ws hw lx2 =>
      injection hcr with hcr1 hcr2
      subst hcr1; subst hcr2
      have nl : isLet c = false := by rcases hw with rfl | rfl <;> decide
      have nS : ¬ c ∈ S.toList := by rcases hw with rfl | rfl <;> assumption
      refine ⟨c, rfl, ?_⟩
      rw [nl]
      simp only [dSs, dS, dT, dE, dEs, dTO, dTA, dAnd, dOr, dIt, dIf, gTg, gTgs, wipeD, List.map_cons, List.map_nil, List.set_cons_zero, List.set_cons_succ, bne_self, Bool.not_true, Bool.not_false, Bool.or_false, Bool.false_or, Bool.or_true, Bool.true_or, decide_true, decide_false, and_true, true_and, rdA, inS, decide_eq_false nS]
      have e2 : ∀ QQ : DK, ∀ MM, wCmp .nin (.str (String.singleton c)) (.tup [.str " ", .str "\n"]) MM QQ = QQ (.bl false) MM := fun QQ MM => by
        have := in_strs (s := String.singleton c) (M := MM) (P := fun b => QQ (.bl (!b)) MM) [" ", "\n"]
        have hd : decide (String.singleton c ∈ [" ", "\n"]) = true := by rcases hw with rfl | rfl <;> decide
        rw [hd] at this
        exact this
      simp only [e2, dSs, dS, dT, dE, dEs, dTO, dTA, dAnd, dOr, dIt, dIf, gTg, gTgs, wipeD, List.map_cons, List.map_nil, List.set_cons_zero, List.set_cons_succ, bne_self, Bool.not_true, Bool.not_false, Bool.or_false, Bool.false_or, Bool.or_true, Bool.true_or, decide_true, decide_false, and_true, true_and, rdA, wIp]
      exact ⟨_, (by omega : t.length - (i + 1) < t.length - i), i + 1, dn, rs, _, _, by omega, by rw [show (i : Int) + 1 = ((i + 1 : Nat) : Int) by omega], rfl, by rw [er]; exact lx2, hs, rfl⟩
    | @sign c' r' _ ts' _ hS hn lx2 =>
      injection hcr with hcr1 hcr2
      subst hcr1; subst hcr2
      refine ⟨c, rfl, ?_⟩
      rw [hn]
      simp only [dSs, dS, dT, dE, dEs, dTO, dTA, dAnd, dOr, dIt, dIf, gTg, gTgs, wipeD, List.map_cons, List.map_nil, List.set_cons_zero, List.set_cons_succ, bne_self, Bool.not_true, Bool.not_false, Bool.or_false, Bool.false_or, Bool.or_true, Bool.true_or, decide_true, decide_false, and_true, true_and, rdA, inS, decide_eq_true hS, w_appTy hM, w_app hM, List.length_map]
      refine ⟨by omega, ?_⟩
      rw [put_put]
      simp only [dSs, dS, dT, dE, dEs, dTO, dTA, dAnd, dOr, dIt, dIf, gTg, gTgs, wipeD, List.map_cons, List.map_nil, List.set_cons_zero, List.set_cons_succ, bne_self, Bool.not_true, Bool.not_false, Bool.or_false, Bool.false_or, Bool.or_true, Bool.true_or, decide_true, decide_false, and_true, true_and, rdA, wIp]
      refine ⟨_, (by omega : t.length - (i + 1) < t.length - i), i + 1, dn ++ [⟨false, String.singleton c, i⟩], ts', _, _, by omega, by rw [show (i : Int) + 1 = ((i + 1 : Nat) : Int) by omega], by rw [List.map_append]; rfl, by rw [er]; exact lx2, by rw [List.append_assoc]; exact hs, rfl⟩
    | @word w r' _ ts' _ hw hl' hr lx2 =>
      cases w with
      | nil => exact absurd rfl hw
      | cons c' w =>
        rw [List.cons_append] at hcr
        injection hcr with hcr1 hcr2
        subst hcr1
        have hdr : t.toList.drop i = (c :: w) ++ r' := by rw [hc, hcr2]; rfl
        have hle : t.length - i = (c :: w).length + r'.length := by rw [← hlen, ← List.length_drop, hdr, List.length_append]
        refine ⟨c, rfl, ?_⟩
        rw [hl' c List.mem_cons_self]
        simp only [dSs, dS, dT, dE, dEs, dTO, dTA, dAnd, dOr, dIt, dIf, gTg, gTgs, wipeD, List.map_cons, List.map_nil, List.set_cons_zero, List.set_cons_succ, bne_self, Bool.not_true, Bool.not_false, Bool.or_false, Bool.false_or, Bool.or_true, Bool.true_or, decide_true, decide_false, and_true, true_and, rdA]
        refine ⟨t, i, c :: w, r', rfl, h1, hi, hdr, hl', hr, ?_⟩
        simp only [dSs, dS, dT, dE, dEs, dTO, dTA, dAnd, dOr, dIt, dIf, gTg, gTgs, wipeD, List.map_cons, List.map_nil, List.set_cons_zero, List.set_cons_succ, bne_self, Bool.not_true, Bool.not_false, Bool.or_false, Bool.false_or, Bool.or_true, Bool.true_or, decide_true, decide_false, and_true, true_and, rdA, w_appTy hM, optI]
        have e3 : ∀ QQ : DK, wSl (.str t) (some (i : Int)) (some ((i + (c :: w).length : Nat) : Int)) (M.put p (.lst (dn.map tkD))) QQ = QQ (.str (String.ofList (c :: w))) (M.put p (.lst (dn.map tkD))) := fun QQ => by
          show (t.length ≤ line ∧ QQ (.str (String.ofList (cutD t.toList (some (i : Int)) (some ((i + (c :: w).length : Nat) : Int))))) _) = _
          rw [cut_word hdr]
          exact propext ⟨fun h => h.2, fun h => ⟨by omega, h⟩⟩
        simp only [e3, w_app hM, List.length_map, put_put]
        refine ⟨by omega, ?_⟩
        rw [List.length_cons] at hle
        refine ⟨_, (by rw [List.length_cons]; omega : t.length - (i + (c :: w).length) < t.length - i), i + (c :: w).length, dn ++ [⟨true, String.ofList (c :: w), i⟩], ts', _, _, by rw [List.length_cons]; omega, rfl, by rw [List.map_append]; rfl, ?_, by rw [List.append_assoc]; exact hs, rfl⟩
        have : t.toList.drop (i + (c :: w).length) = r' := by rw [← List.drop_drop, hdr, List.drop_left]
        rw [this]; exact lx2
  · simp only [decide_eq_false hlt]
    have e0 : t.toList.drop i = [] := List.drop_eq_nil_of_le (by omega)
    rw [e0] at lx'
    have : rs = [] ∧ o = none := by
      generalize hz : ([] : List Char) = z at lx'
      cases lx' with
      | nil => exact ⟨rfl, rfl⟩
      | bad _ _ _ _ => cases hz
      | ws _ _ => cases hz
      | sign _ _ _ => cases hz
      | word hw _ _ _ =>
        have := List.append_eq_nil_iff.mp hz.symm
        exact absurd this.1 hw
    obtain ⟨rfl, eo⟩ := this
    rw [List.append_nil] at hs
    subst hs
    exact fin eo i o4 o5
end K42
end VS
namespace VS
open PySem PySem.Spec PyProof.Rows L2
namespace K42
def fsR (n : Nat) (all : List Tk) (k : Nat) : List (String × D) := [("size", .int (n : Int)), ("parts", .lst (all.map tkD)), ("taken", .int (k : Int))]
def rdO (n : Nat) (all : List Tk) (k : Nat) : MO := .inst "Reader" (fsR n all k)
section
variable {n k : Nat} {all : List Tk} {M : Store} {p : Addr}
theorem rd_asI (h : M p = some (rdO n all k)) : asI M (.ptr p) = some ("Reader", fsR n all k) := by
  show (match M p with | some (.inst c fs) => some (c, fs) | _ => none) = _
  rw [h]; rfl
theorem rd_size : lookF "size" (fsR n all k) = some (.int (n : Int)) := rfl
theorem rd_parts : lookF "parts" (fsR n all k) = some (.lst (all.map tkD)) := rfl
theorem rd_taken : lookF "taken" (fsR n all k) = some (.int (k : Int)) := rfl
theorem rd_m1 : lookF "kind" (fsR n all k) = none := rfl
theorem rd_m2 : lookF "value" (fsR n all k) = none := rfl
theorem rd_m3 : lookF "spot" (fsR n all k) = none := rfl
theorem rd_m4 : lookF "fail" (fsR n all k) = none := rfl
theorem rd_m5 : lookF "is_sign" (fsR n all k) = none := rfl
theorem rd_m6 : lookF "is_word" (fsR n all k) = none := rfl
theorem rd_m7 : lookF "accept" (fsR n all k) = none := rfl
theorem rd_m8 : lookF "need" (fsR n all k) = none := rfl
theorem rd_m9 : lookF "name" (fsR n all k) = none := rfl
theorem rd_take (h : M p = some (rdO n all k)) {Q : Store → Prop} : wFld "Reader" (.ptr p) "taken" (.int ((k + 1 : Nat) : Int)) M Q = Q (M.put p (rdO n all (k + 1))) := by
  show (match M p with | some (.inst c fs) => c = "Reader" ∧ fs.length < 1000 ∧ Q (M.put p (.inst c (putFd "taken" (.int ((k + 1 : Nat) : Int)) fs))) | _ => False) = _
  rw [h]
  exact propext ⟨fun z => z.2.2, fun z => ⟨rfl, by show 3 < 1000; decide, z⟩⟩
theorem rd_plus (h : M p = some (rdO n all k)) {Q : Store → Prop} : (wIp .add (.int (k : Int)) (.int 1) M fun z M3 => wFld "Reader" (.ptr p) "taken" z M3 Q) = Q (M.put p (rdO n all (k + 1))) := by
  show wFld "Reader" (.ptr p) "taken" (.int ((k : Int) + 1)) M Q = _
  rw [show ((k : Int) + 1) = ((k + 1 : Nat) : Int) by omega, rd_take h]
end
def spRInit : Spec := fun ds M Q E => ∃ (p : Addr) (t S : String) (ts : List Tk) (o : Option Nat), ds = [.ptr p, .str t, .str S] ∧ M p = some (.inst "Reader" []) ∧ t.length ≤ 100000 ∧ ' ' ∉ S.toList ∧ '\n' ∉ S.toList ∧ (∀ c ∈ S.toList, isLet c = false) ∧ LexO S.toList t.toList 0 ts o ∧
  (o = none → Q .non (M.put p (rdO t.length ts 0))) ∧ (∀ e, o = some e → ∀ M', Adv p M M' → E "TextError" (errF "unknown character" e) M')
theorem h_Reader___init__ : ∀ ds M Q E, ds.length = 3 → spRInit ds M Q E → dSs E (c_Reader___init__ spTokens) { nx := fun _ M' => Q .non M', rt := Q } (startD n_Reader___init__.length ds) M := by
  rintro ds M Q E hl ⟨p, t, S, ts, o, rfl, hM, h1, s1, s2, s3, lx, q, qe⟩
  show dSs E (c_Reader___init__ spTokens) _ [some (.ptr p), some (.str t), some (.str S)] M
  unfold c_Reader___init__
  have ll : line = 16777216 := rfl
  have fld : ∀ {f : String} {d : D} {fs : List (String × D)} {M : Store} {Q : Store → Prop}, M p = some (.inst "Reader" fs) → fs.length < 1000 → Q (M.put p (.inst "Reader" (putFd f d fs))) → wFld "Reader" (.ptr p) f d M Q := fun {f d fs M Q} h hf hq => by
    show (match M p with | some (.inst c fs) => c = "Reader" ∧ fs.length < 1000 ∧ Q (M.put p (.inst c (putFd f d fs))) | _ => False)
    rw [h]; exact ⟨rfl, hf, hq⟩
  simp only [dSs, dS, dT, dE, dEs, dTO, dTA, dAnd, dOr, dIt, dIf, gTg, gTgs, wipeD, List.map_cons, List.map_nil, List.set_cons_zero, List.set_cons_succ, bne_self, Bool.not_true, Bool.not_false, Bool.or_false, Bool.false_or, Bool.or_true, Bool.true_or, decide_true, decide_false, and_true, true_and, rdA]
  refine ⟨by omega, fld hM (by show 0 < 1000; decide) ?_⟩
  refine ⟨t, S, ts, o, rfl, h1, s1, s2, s3, lx, ?_⟩
  cases o with
  | some e => exact fun M' d => qe e rfl M' ((Adv.refl p M).put.dr d)
  | none =>
    unfold LexK
    dsimp only
    refine fld put_same ?_ ?_
    · show 1 < 1000; decide
    refine fld put_same ?_ ?_
    · show 2 < 1000; decide
    rw [put_put, put_put]
    exact q rfl
def kindK : Option Tk → String
  | none => "end" | some t => kindT t.w
def valK : Option Tk → D
  | none => .non | some t => .str t.v
def isSg (s : String) : Option Tk → Bool
  | none => false | some t => !t.w && decide (t.v = s)
def isWd (s : String) : Option Tk → Bool
  | none => false | some t => t.w && decide (t.v = s)
def spotK (n : Nat) : Option Tk → Nat
  | none => n | some t => t.at_
def spKind : Spec := fun ds M Q _ => ∃ p n all k, ds = [.ptr p] ∧ M p = some (rdO n all k) ∧ Q (.str (kindK all[k]?)) M
def spValue : Spec := fun ds M Q _ => ∃ p n all k, ds = [.ptr p] ∧ M p = some (rdO n all k) ∧ Q (valK all[k]?) M
def spSpot : Spec := fun ds M Q _ => ∃ p n all k, ds = [.ptr p] ∧ M p = some (rdO n all k) ∧ Q (.int (spotK n all[k]? : Nat)) M
def spIsSign : Spec := fun ds M Q _ => ∃ p n all k s, ds = [.ptr p, .str s] ∧ M p = some (rdO n all k) ∧ Q (.bl (isSg s all[k]?)) M
def spIsWord : Spec := fun ds M Q _ => ∃ p n all k s, ds = [.ptr p, .str s] ∧ M p = some (rdO n all k) ∧ Q (.bl (isWd s all[k]?)) M
def spAccept : Spec := fun ds M Q _ => ∃ p n all k s, ds = [.ptr p, .str s] ∧ M p = some (rdO n all k) ∧ (isSg s all[k]? = true → Q (.bl true) (M.put p (rdO n all (k + 1)))) ∧ (isSg s all[k]? = false → Q (.bl false) M)
def msgK : Option Tk → String
  | none => "unexpected end" | some _ => "unexpected token"
structure RdOk (n : Nat) (all : List Tk) : Prop where
  n : n ≤ 100000
  a : ∀ t ∈ all, t.at_ ≤ 100000
  v : ∀ t ∈ all, t.v.length ≤ 100000
theorem RdOk.spot {n : Nat} {all : List Tk} (h : RdOk n all) (k : Nat) : spotK n all[k]? ≤ 100000 := by
  cases e : all[k]? with
  | none => exact h.n
  | some t => exact h.a t (List.mem_of_getElem? e)
def ErrK (n : Nat) (all : List Tk) (k : Nat) (M : Store) (E : XP) : Prop := E "TextError" (errF (msgK all[k]?) (spotK n all[k]?)) M
def nmOk : Option Tk → Bool
  | some t => t.w && decide (t.v.length ≤ 8) | none => false
def spFail : Spec := fun ds M _ E => ∃ p n all k, ds = [.ptr p] ∧ M p = some (rdO n all k) ∧ RdOk n all ∧ ErrK n all k M E
def spNeed : Spec := fun ds M Q E => ∃ p n all k s, ds = [.ptr p, .str s] ∧ M p = some (rdO n all k) ∧ RdOk n all ∧ (isSg s all[k]? = true → Q .non (M.put p (rdO n all (k + 1)))) ∧ (isSg s all[k]? = false → ErrK n all k M E)
def spName : Spec := fun ds M Q E => ∃ p n all k, ds = [.ptr p] ∧ M p = some (rdO n all k) ∧ RdOk n all ∧ (∀ v a, all[k]? = some ⟨true, v, a⟩ → v.length ≤ 8 → Q (.str v) (M.put p (rdO n all (k + 1)))) ∧ (nmOk all[k]? = false → ErrK n all k M E)
theorem tk_at {all : List Tk} {k : Nat} {t : Tk} {M : Store} {Q : DK} (h : all[k]? = some t) : wIx (.lst (all.map tkD)) (.int (k : Int)) M Q = Q (tkD t) M := w_ixL (atI_natD (by rw [List.getElem?_map, h]; rfl))
theorem h_Reader_kind : ∀ ds M Q E, ds.length = 1 → spKind ds M Q E → dSs E c_Reader_kind { nx := fun _ M' => Q .non M', rt := Q } (startD n_Reader_kind.length ds) M := by
  rintro ds M Q E hl ⟨p, n, all, k, rfl, hM, q⟩
  show dSs E c_Reader_kind _ [some (.ptr p)] M
  unfold c_Reader_kind
  simp only [dSs, dS, dT, dE, dEs, dTO, dTA, dAnd, dOr, dIt, dIf, gTg, gTgs, wipeD, List.map_cons, List.map_nil, List.set_cons_zero, List.set_cons_succ, bne_self, Bool.not_true, Bool.not_false, Bool.or_false, Bool.false_or, Bool.or_true, Bool.true_or, decide_true, decide_false, and_true, true_and, rdA, rd_asI hM, rd_taken, rd_parts, List.length_map]
  cases e : all[k]? with
  | none =>
    rw [e] at q
    have : ¬ ((k : Int) < (all.length : Int)) := by have := List.getElem?_eq_none_iff.mp e; omega
    simp only [decide_eq_false this]
    exact q
  | some t =>
    rw [e] at q
    have : (k : Int) < (all.length : Int) := by have := (List.getElem?_eq_some_iff.mp e).1; omega
    simp only [decide_eq_true this, tk_at e, tkD, w_ixT at_0]
    exact q
theorem h_Reader_value : ∀ ds M Q E, ds.length = 1 → spValue ds M Q E → dSs E c_Reader_value { nx := fun _ M' => Q .non M', rt := Q } (startD n_Reader_value.length ds) M := by
  rintro ds M Q E hl ⟨p, n, all, k, rfl, hM, q⟩
  show dSs E c_Reader_value _ [some (.ptr p)] M
  unfold c_Reader_value
  simp only [dSs, dS, dT, dE, dEs, dTO, dTA, dAnd, dOr, dIt, dIf, gTg, gTgs, wipeD, List.map_cons, List.map_nil, List.set_cons_zero, List.set_cons_succ, bne_self, Bool.not_true, Bool.not_false, Bool.or_false, Bool.false_or, Bool.or_true, Bool.true_or, decide_true, decide_false, and_true, true_and, rdA, rd_asI hM, rd_taken, rd_parts, List.length_map]
  cases e : all[k]? with
  | none =>
    rw [e] at q
    have : ¬ ((k : Int) < (all.length : Int)) := by have := List.getElem?_eq_none_iff.mp e; omega
    simp only [decide_eq_false this]
    exact q
  | some t =>
    rw [e] at q
    have : (k : Int) < (all.length : Int) := by have := (List.getElem?_eq_some_iff.mp e).1; omega
    simp only [decide_eq_true this, tk_at e, tkD, w_ixT at_1]
    exact q
theorem h_Reader_is_sign : ∀ ds M Q E, ds.length = 2 → spIsSign ds M Q E → dSs E (c_Reader_is_sign spKind spValue) { nx := fun _ M' => Q .non M', rt := Q } (startD n_Reader_is_sign.length ds) M := by
  rintro ds M Q E hl ⟨p, n, all, k, s, rfl, hM, q⟩
  show dSs E (c_Reader_is_sign spKind spValue) _ [some (.ptr p), some (.str s)] M
  unfold c_Reader_is_sign
  simp only [dSs, dS, dT, dE, dEs, dTO, dTA, dAnd, dOr, dIt, dIf, gTg, gTgs, wipeD, List.map_cons, List.map_nil, List.set_cons_zero, List.set_cons_succ, bne_self, Bool.not_true, Bool.not_false, Bool.or_false, Bool.false_or, Bool.or_true, Bool.true_or, decide_true, decide_false, and_true, true_and, rdA, rd_asI hM, rd_m1, rd_m2]
  refine ⟨p, n, all, k, rfl, hM, ?_⟩
  simp only [dSs, dS, dT, dE, dEs, dTO, dTA, dAnd, dOr, dIt, dIf, gTg, gTgs, wipeD, List.map_cons, List.map_nil, List.set_cons_zero, List.set_cons_succ, bne_self, Bool.not_true, Bool.not_false, Bool.or_false, Bool.false_or, Bool.or_true, Bool.true_or, decide_true, decide_false, and_true, true_and, rdA]
  cases e : all[k]? with
  | none =>
    rw [e] at q
    simp only [kindK, show decide ("end" = "sign") = false by decide]
    exact q
  | some t =>
    rw [e] at q
    obtain ⟨w, v, a⟩ := t
    cases w with
    | true =>
      simp only [kindK, kindT, show decide ("word" = "sign") = false by decide]
      exact q
    | false =>
      simp only [kindK, kindT, show decide ("sign" = "sign") = true by decide, rd_asI hM, rd_m2, true_and]
      refine ⟨p, n, all, k, rfl, hM, ?_⟩
      rw [e]
      simp only [valK, w_eqS]
      have : isSg s (some ⟨false, v, a⟩) = decide (v = s) := by show (!false && decide (v = s)) = _; rfl
      rw [this] at q
      exact q
theorem h_Reader_accept : ∀ ds M Q E, ds.length = 2 → spAccept ds M Q E → dSs E (c_Reader_accept spIsSign) { nx := fun _ M' => Q .non M', rt := Q } (startD n_Reader_accept.length ds) M := by
  rintro ds M Q E hl ⟨p, n, all, k, s, rfl, hM, q1, q2⟩
  show dSs E (c_Reader_accept spIsSign) _ [some (.ptr p), some (.str s)] M
  unfold c_Reader_accept
  simp only [dSs, dS, dT, dE, dEs, dTO, dTA, dAnd, dOr, dIt, dIf, gTg, gTgs, wipeD, List.map_cons, List.map_nil, List.set_cons_zero, List.set_cons_succ, bne_self, Bool.not_true, Bool.not_false, Bool.or_false, Bool.false_or, Bool.or_true, Bool.true_or, decide_true, decide_false, and_true, true_and, rdA, rd_asI hM, rd_m5]
  refine ⟨p, n, all, k, s, rfl, hM, ?_⟩
  simp only [dSs, dS, dT, dE, dEs, dTO, dTA, dAnd, dOr, dIt, dIf, gTg, gTgs, wipeD, List.map_cons, List.map_nil, List.set_cons_zero, List.set_cons_succ, bne_self, Bool.not_true, Bool.not_false, Bool.or_false, Bool.false_or, Bool.or_true, Bool.true_or, decide_true, decide_false, and_true, true_and, rdA]
  cases e : isSg s all[k]? with
  | false => exact q2 e
  | true =>
    simp only [dSs, dS, dT, dE, dEs, dTO, dTA, dAnd, dOr, dIt, dIf, gTg, gTgs, wipeD, List.map_cons, List.map_nil, List.set_cons_zero, List.set_cons_succ, bne_self, Bool.not_true, Bool.not_false, Bool.or_false, Bool.false_or, Bool.or_true, Bool.true_or, decide_true, decide_false, and_true, true_and, rdA, rd_asI hM, rd_taken, rd_plus hM]
    exact q1 e
theorem h_Reader_fail : ∀ ds M Q E, ds.length = 1 → spFail ds M Q E → dSs E (c_Reader_fail spSpot spKind) { nx := fun _ M' => Q .non M', rt := Q } (startD n_Reader_fail.length ds) M := by
  rintro ds M Q E hl ⟨p, n, all, k, rfl, hM, ok, q⟩
  show dSs E (c_Reader_fail spSpot spKind) _ [some (.ptr p)] M
  unfold c_Reader_fail
  simp only [dSs, dS, dT, dE, dEs, dTO, dTA, dAnd, dOr, dIt, dIf, gTg, gTgs, wipeD, List.map_cons, List.map_nil, List.set_cons_zero, List.set_cons_succ, bne_self, Bool.not_true, Bool.not_false, Bool.or_false, Bool.false_or, Bool.or_true, Bool.true_or, decide_true, decide_false, and_true, true_and, rdA, rd_asI hM, rd_m3]
  refine ⟨p, n, all, k, rfl, hM, ?_⟩
  simp only [dSs, dS, dT, dE, dEs, dTO, dTA, dAnd, dOr, dIt, dIf, gTg, gTgs, wipeD, List.map_cons, List.map_nil, List.set_cons_zero, List.set_cons_succ, bne_self, Bool.not_true, Bool.not_false, Bool.or_false, Bool.false_or, Bool.or_true, Bool.true_or, decide_true, decide_false, and_true, true_and, rdA, rd_asI hM, rd_m1]
  refine ⟨p, n, all, k, rfl, hM, ?_⟩
  have sp := ok.spot k
  unfold ErrK at q
  cases e : all[k]? with
  | none =>
    rw [e] at q sp
    simp only [kindK, dSs, dS, dT, dE, dEs, dTO, dTA, dAnd, dOr, dIt, dIf, gTg, gTgs, wipeD, List.map_cons, List.map_nil, List.set_cons_zero, List.set_cons_succ, bne_self, Bool.not_true, Bool.not_false, Bool.or_false, Bool.false_or, Bool.or_true, Bool.true_or, decide_true, decide_false, and_true, true_and, rdA]
    exact w_raise sp (by decide) q
  | some t =>
    rw [e] at q sp
    have : decide (kindT t.w = "end") = false := by cases t.w <;> decide
    simp only [kindK, dSs, dS, dT, dE, dEs, dTO, dTA, dAnd, dOr, dIt, dIf, gTg, gTgs, wipeD, List.map_cons, List.map_nil, List.set_cons_zero, List.set_cons_succ, bne_self, Bool.not_true, Bool.not_false, Bool.or_false, Bool.false_or, Bool.or_true, Bool.true_or, decide_true, decide_false, and_true, true_and, rdA, this]
    exact w_raise sp (by decide) q
theorem h_Reader_need : ∀ ds M Q E, ds.length = 2 → spNeed ds M Q E → dSs E (c_Reader_need spAccept spFail) { nx := fun _ M' => Q .non M', rt := Q } (startD n_Reader_need.length ds) M := by
  rintro ds M Q E hl ⟨p, n, all, k, s, rfl, hM, ok, q, qe⟩
  show dSs E (c_Reader_need spAccept spFail) _ [some (.ptr p), some (.str s)] M
  unfold c_Reader_need
  simp only [dSs, dS, dT, dE, dEs, dTO, dTA, dAnd, dOr, dIt, dIf, gTg, gTgs, wipeD, List.map_cons, List.map_nil, List.set_cons_zero, List.set_cons_succ, bne_self, Bool.not_true, Bool.not_false, Bool.or_false, Bool.false_or, Bool.or_true, Bool.true_or, decide_true, decide_false, and_true, true_and, rdA, rd_asI hM, rd_m7]
  refine ⟨p, n, all, k, s, rfl, hM, fun e => ?_, fun e => ?_⟩
  · simp only [dSs, dS, dT, dE, dEs, dTO, dTA, dAnd, dOr, dIt, dIf, gTg, gTgs, wipeD, List.map_cons, List.map_nil, List.set_cons_zero, List.set_cons_succ, bne_self, Bool.not_true, Bool.not_false, Bool.or_false, Bool.false_or, Bool.or_true, Bool.true_or, decide_true, decide_false, and_true, true_and, rdA]
    exact q e
  · simp only [dSs, dS, dT, dE, dEs, dTO, dTA, dAnd, dOr, dIt, dIf, gTg, gTgs, wipeD, List.map_cons, List.map_nil, List.set_cons_zero, List.set_cons_succ, bne_self, Bool.not_true, Bool.not_false, Bool.or_false, Bool.false_or, Bool.or_true, Bool.true_or, decide_true, decide_false, and_true, true_and, rdA, rd_asI hM, rd_m4]
    exact ⟨p, n, all, k, rfl, hM, ok, qe e⟩
theorem h_Reader_name : ∀ ds M Q E, ds.length = 1 → spName ds M Q E → dSs E (c_Reader_name spKind spValue spFail) { nx := fun _ M' => Q .non M', rt := Q } (startD n_Reader_name.length ds) M := by
  rintro ds M Q E hl ⟨p, n, all, k, rfl, hM, ok, q, qe⟩
  show dSs E (c_Reader_name spKind spValue spFail) _ [some (.ptr p)] M
  unfold c_Reader_name
  have ll : line = 16777216 := rfl
  simp only [dSs, dS, dT, dE, dEs, dTO, dTA, dAnd, dOr, dIt, dIf, gTg, gTgs, wipeD, List.map_cons, List.map_nil, List.set_cons_zero, List.set_cons_succ, bne_self, Bool.not_true, Bool.not_false, Bool.or_false, Bool.false_or, Bool.or_true, Bool.true_or, decide_true, decide_false, and_true, true_and, rdA, rd_asI hM, rd_m1, rd_m2, rd_m4]
  refine ⟨p, n, all, k, rfl, hM, ?_⟩
  have fail : nmOk all[k]? = false → ∀ X, spFail [.ptr p] M X E := fun e X => ⟨p, n, all, k, rfl, hM, ok, qe e⟩
  cases e : all[k]? with
  | none =>
    simp only [kindK, dSs, dS, dT, dE, dEs, dTO, dTA, dAnd, dOr, dIt, dIf, gTg, gTgs, wipeD, List.map_cons, List.map_nil, List.set_cons_zero, List.set_cons_succ, bne_self, Bool.not_true, Bool.not_false, Bool.or_false, Bool.false_or, Bool.or_true, Bool.true_or, decide_true, decide_false, and_true, true_and, rdA, show decide ("end" = "word") = false by decide, rd_asI hM, rd_m4]
    exact fail (by rw [e]; rfl) _
  | some t =>
    obtain ⟨w, v, a⟩ := t
    cases w with
    | false =>
      simp only [kindK, kindT, dSs, dS, dT, dE, dEs, dTO, dTA, dAnd, dOr, dIt, dIf, gTg, gTgs, wipeD, List.map_cons, List.map_nil, List.set_cons_zero, List.set_cons_succ, bne_self, Bool.not_true, Bool.not_false, Bool.or_false, Bool.false_or, Bool.or_true, Bool.true_or, decide_true, decide_false, and_true, true_and, rdA, show decide ("sign" = "word") = false by decide, rd_asI hM, rd_m4]
      exact fail (by rw [e]; rfl) _
    | true =>
      simp only [dSs, dS, dT, dE, dEs, dTO, dTA, dAnd, dOr, dIt, dIf, gTg, gTgs, wipeD, List.map_cons, List.map_nil, List.set_cons_zero, List.set_cons_succ, bne_self, Bool.not_true, Bool.not_false, Bool.or_false, Bool.false_or, Bool.or_true, Bool.true_or, decide_true, decide_false, and_true, true_and, rdA, kindK, kindT, show decide ("word" = "word") = true by decide, rd_asI hM, rd_m2]
      refine ⟨p, n, all, k, rfl, hM, ?_⟩
      rw [e]
      have hv8 : v.length ≤ 100000 := ok.v _ (List.mem_of_getElem? e)
      simp only [dSs, dS, dT, dE, dEs, dTO, dTA, dAnd, dOr, dIt, dIf, gTg, gTgs, wipeD, List.map_cons, List.map_nil, List.set_cons_zero, List.set_cons_succ, bne_self, Bool.not_true, Bool.not_false, Bool.or_false, Bool.false_or, Bool.or_true, Bool.true_or, decide_true, decide_false, and_true, true_and, rdA, valK, g_NAME_MOST]
      refine ⟨by omega, ?_⟩
      by_cases h8 : v.length ≤ 8
      · simp only [decide_eq_false (show ¬ ((8 : Int) < (v.length : Int)) by omega), dSs, dS, dT, dE, dEs, dTO, dTA, dAnd, dOr, dIt, dIf, gTg, gTgs, wipeD, List.map_cons, List.map_nil, List.set_cons_zero, List.set_cons_succ, bne_self, Bool.not_true, Bool.not_false, Bool.or_false, Bool.false_or, Bool.or_true, Bool.true_or, decide_true, decide_false, and_true, true_and, rdA, rd_asI hM, rd_taken]
        simp only [rd_plus hM, rd_asI (put_same (M := M) (a := p) (o := rdO n all (k + 1))), rd_parts, rd_taken, dSs, dS, dT, dE, dEs, dTO, dTA, dAnd, dOr, dIt, dIf, gTg, gTgs, wipeD, List.map_cons, List.map_nil, List.set_cons_zero, List.set_cons_succ, bne_self, Bool.not_true, Bool.not_false, Bool.or_false, Bool.false_or, Bool.or_true, Bool.true_or, decide_true, decide_false, and_true, true_and, rdA]
        rw [show ((k + 1 : Nat) : Int) - 1 = (k : Int) by omega]
        simp only [tk_at e, tkD, w_ixT at_1]
        exact q v a e h8
      · simp only [decide_eq_true (show ((8 : Int) < (v.length : Int)) by omega), dSs, dS, dT, dE, dEs, dTO, dTA, dAnd, dOr, dIt, dIf, gTg, gTgs, wipeD, List.map_cons, List.map_nil, List.set_cons_zero, List.set_cons_succ, bne_self, Bool.not_true, Bool.not_false, Bool.or_false, Bool.false_or, Bool.or_true, Bool.true_or, decide_true, decide_false, and_true, true_and, rdA, rd_asI hM, rd_m4]
        exact fail (by rw [e]; show (true && decide (v.length ≤ 8)) = false; rw [decide_eq_false h8]; rfl) _
end K42
end VS
namespace VS
open PySem PySem.Spec PyProof.Rows L2
namespace K42
theorem h_Reader_spot : ∀ ds M Q E, ds.length = 1 → spSpot ds M Q E → dSs E c_Reader_spot { nx := fun _ M' => Q .non M', rt := Q } (startD n_Reader_spot.length ds) M := by
  rintro ds M Q E hl ⟨p, n, all, k, rfl, hM, q⟩
  show dSs E c_Reader_spot _ [some (.ptr p)] M
  unfold c_Reader_spot
  simp only [dSs, dS, dT, dE, dEs, dTO, dTA, dAnd, dOr, dIt, dIf, gTg, gTgs, wipeD, List.map_cons, List.map_nil, List.set_cons_zero, List.set_cons_succ, bne_self, Bool.not_true, Bool.not_false, Bool.or_false, Bool.false_or, Bool.or_true, Bool.true_or, decide_true, decide_false, and_true, true_and, rdA, rd_asI hM, rd_taken, rd_parts, List.length_map]
  cases e : all[k]? with
  | none =>
    rw [e] at q
    have : ¬ ((k : Int) < (all.length : Int)) := by have := List.getElem?_eq_none_iff.mp e; omega
    simp only [decide_eq_false this, rd_asI hM, rd_size]
    exact q
  | some t =>
    rw [e] at q
    have : (k : Int) < (all.length : Int) := by have := (List.getElem?_eq_some_iff.mp e).1; omega
    simp only [decide_eq_true this, tk_at e, tkD, w_ixT at_2]
    exact q
end K42
end VS
namespace VS
open PySem PySem.Spec PyProof.Rows L2
namespace K42
theorem h_draw : ∀ ds M Q E, ds.length = 1 → spDraw ds M Q E → dSs E c_law_draw { nx := fun _ M' => Q .non M', rt := Q } (startD n_law_draw.length ds) M := by
  rintro ds M Q E hl ⟨ns, rfl, h63, q⟩
  refine .inl ?_
  intro p hp
  exact q p _ hp (fun a ha => put_ne ha) ⟨ns, 0, 0, 17, put_same, by decide, by decide, by decide, by decide, h63⟩
theorem h_next : ∀ ds M Q E, ds.length = 2 → spNext ds M Q E → dSs E c_law_next { nx := fun _ M' => Q .non M', rt := Q } (startD n_law_next.length ds) M := by
  rintro ds M Q E hl ⟨d, m, rfl, m0, m1, ⟨cells, i, p, s, hM, i0, p0, s0, s1, hc⟩, q⟩
  show dSs E c_law_next _ [some (.ptr d), some (.int m), none, none] M
  have c1 : ∀ x : Int, CMul x 48271 := fun x => .inr (by decide)
  have c2 : ∀ x : Int, CMul x 69621 := fun x => .inr (by decide)
  have fin : ∀ (M' : Store) (cells : List Int) (i p s : Int), (∀ a, a ≠ d → M' a = M a) → M' d = some (.lst [.lst (cells.map D.int), .int i, .int p, .int s]) → 0 ≤ i → 0 ≤ p → 0 ≤ s → s < 2147483648 → cells.length ≤ 63 → Q (.int (s * 69621 % 2147483629 / 7 % m)) M' :=
    fun M' cells i p s ho hM i0 p0 s0 s1 hc => q _ M' (Int.emod_nonneg _ (by omega)) (Int.emod_lt_of_pos _ m0) ⟨cells, i, p, s, hM, i0, p0, s0, s1, hc⟩ ho
  unfold c_law_next
  simp only [dSs, dS, dT, dE, dEs, getS_z, getS_s, List.set_cons_zero, List.set_cons_succ, w_ixP hM at_0, w_ixP hM at_1, w_ixP hM at_2, w_ixP hM at_3, w_gt, w_lt, w_ge, w_truB, w_int, w_mod, w_fdiv, w_mul, w_add, w_lenL, w_pow, w_abs, m0, c1, c2, true_and]
  by_cases hp : 0 < p
  · simp only [decide_eq_true hp]
    refine ⟨by omega, ?_⟩
    rw [w_stoP hM (k := 2) (by rfl)]
    exact q _ _ (Int.emod_nonneg _ (by omega)) (Int.emod_lt_of_pos _ m0) ⟨cells, i, p / m, s, put_same, i0, Int.ediv_nonneg p0 (by omega), s0, s1, hc⟩ (fun a ha => put_ne ha)
  · simp only [decide_eq_false hp]
    by_cases hi : i < ((cells.map D.int).length : Nat)
    · simp only [decide_eq_true hi]
      have hi' : i.toNat < cells.length := by rw [List.length_map] at hi; omega
      have ei : ((i.toNat : Nat) : Int) = i := by omega
      have hx : atI (cells.map D.int) i = some (.int cells[i.toNat]) := by
        have z : atI (cells.map D.int) ((i.toNat : Nat) : Int) = some (.int cells[i.toNat]) := atI_natD (by rw [List.getElem?_map, List.getElem?_eq_getElem hi']; rfl)
        rw [ei] at z
        exact z
      rw [w_ixL hx]
      simp only [w_abs, w_ixP hM at_1, w_add]
      rw [w_stoP hM (k := 1) (by rfl)]
      simp only [List.set_cons_succ, List.set_cons_zero]
      generalize ea : (if cells[i.toNat] < 0 then -cells[i.toNat] else cells[i.toNat]) = x
      have x0 : 0 ≤ x := by rw [← ea]; split <;> omega
      have hM1 : (M.put d (.lst [.lst (cells.map D.int), .int (i + 1), .int p, .int s])) d = some (.lst [.lst (cells.map D.int), .int (i + 1), .int p, .int s]) := put_same
      refine ⟨by decide, ?_⟩
      simp only [w_ge, w_truB]
      by_cases hx : (10 : Int) ^ Int.toNat 18 ≤ x
      · simp only [decide_eq_true hx]
        simp only [w_fdiv, m0, true_and]
        refine ⟨by omega, ?_⟩
        rw [w_stoP hM1 (k := 2) (by rfl)]
        simp only [w_int, w_mod, m0, true_and]
        exact q _ _ (Int.emod_nonneg _ (by omega)) (Int.emod_lt_of_pos _ m0) ⟨cells, i + 1, x / m, s, put_same, by omega, Int.ediv_nonneg x0 (by omega), s0, s1, hc⟩ (fun a ha => by rw [put_ne ha, put_ne ha])
      · simp only [decide_eq_false hx]
        simp only [w_ixP hM1 at_3, w_mul, c1, w_add, w_int, w_mod, true_and]
        refine ⟨by decide, ?_⟩
        rw [w_stoP hM1 (k := 3) (by rfl)]
        simp only [List.set_cons_succ, List.set_cons_zero]
        rw [w_ixP put_same at_3]
        simp only [w_mul, c2, w_mod, w_int, w_fdiv, true_and]
        refine ⟨by decide, by decide, m0, ?_⟩
        exact fin _ cells (i + 1) p _ (fun a ha => by rw [put_ne ha, put_ne ha]) put_same (by omega) p0 (Int.emod_nonneg _ (by decide)) (Int.lt_trans (Int.emod_lt_of_pos _ (by decide)) (by decide)) hc
    · simp only [decide_eq_false hi]
      refine ⟨by decide, ?_⟩
      rw [w_stoP hM (k := 3) (by rfl)]
      simp only [List.set_cons_succ, List.set_cons_zero]
      rw [w_ixP put_same at_3]
      simp only [w_mul, c2, w_mod, w_int, w_fdiv, true_and]
      refine ⟨by decide, by decide, m0, ?_⟩
      exact fin _ cells i p _ (fun a ha => put_ne ha) put_same i0 p0 (Int.emod_nonneg _ (by decide)) (Int.lt_trans (Int.emod_lt_of_pos _ (by decide)) (by decide)) hc
end K42
end VS
namespace VS
open PySem PySem.Spec PyProof.Rows L2
namespace K42
theorem h_same (n : Nat) : ∀ ds M Q E, ds.length = 2 → spSame (n + 1) ds M Q E → dSs E (c_law_same (spSame n)) { nx := fun _ M' => Q .non M', rt := Q } (startD n_law_same.length ds) M := by
  rintro ds M Q E hl ⟨x, rfl, hx, q⟩
  show dSs E (c_law_same (spSame n)) _ [some x, some x, none] M
  unfold c_law_same
  have go : ∀ xs : List D, (decide (xs.length ≤ line) && xs.all (plainD n)) = true → ∀ f : D → Store → (Option D → Store → Prop) → Prop, (∀ k : Nat, k < xs.length → ∀ y, xs[k]? = some y → plainD n y = true → ∀ kk : Option D → Store → Prop, kk (some (.bl true)) M → f (.int k) M kk) →
      (-2 ^ 62 ≤ (xs.length : Int) ∧ (xs.length : Int) < 2 ^ 62) ∧ ((xs.length : Nat) : Int).toNat ≤ line ∧ lcGo (fun _ => True) f (rngD 0 xs.length) [] M fun d M1 => wBi .all [d] M1 Q := fun xs h f hf => by
    obtain ⟨h1, h2⟩ := and_of h
    have h1 := of_decide_eq_true h1
    have hl : line = 16777216 := rfl
    refine ⟨⟨by omega, by omega⟩, by omega, ?_⟩
    refine lcGo_map (fun M' => M' = M) (fun _ => some (.bl true)) (fun _ _ => trivial) _ _ M _ (fun y hy M' k e hk => ?_) rfl (fun M' e => ?_)
    · subst e
      obtain ⟨j, hj, rfl⟩ := rng_mem hy
      exact hf j hj xs[j] (List.getElem?_eq_getElem hj) (List.all_eq_true.mp h2 _ (List.getElem_mem hj)) k (hk _ rfl)
    · subst e
      refine .inl ?_
      rw [List.nil_append, filterMap_some]
      have e : (rngD 0 (xs.length : Int)).map (fun _ => D.bl true) = ((rngD 0 (xs.length : Int)).map fun _ => true).map D.bl := by rw [List.map_map]; rfl
      rw [e]
      refine all_bl _ ?_
      have : (((rngD 0 (xs.length : Int)).map fun _ => true).all id) = true := by rw [List.all_map, List.all_eq_true]; intro _ _; rfl
      rw [this]
      exact q
  cases x with
  | non => simp only [dSs, dS, dT, dE, dEs, dTO, dTA, dAnd, dOr, dIt, dIf, gTg, gTgs, wipeD, List.map_cons, List.map_nil, List.set_cons_zero, List.set_cons_succ, bne_self, Bool.not_true, Bool.not_false, Bool.or_false, Bool.false_or, Bool.or_true, Bool.true_or, decide_true, decide_false, and_true, true_and, rdA]; exact q
  | bl b => simp only [dSs, dS, dT, dE, dEs, dTO, dTA, dAnd, dOr, dIt, dIf, gTg, gTgs, wipeD, List.map_cons, List.map_nil, List.set_cons_zero, List.set_cons_succ, bne_self, Bool.not_true, Bool.not_false, Bool.or_false, Bool.false_or, Bool.or_true, Bool.true_or, decide_true, decide_false, and_true, true_and, rdA]; exact q
  | int i => simp only [dSs, dS, dT, dE, dEs, dTO, dTA, dAnd, dOr, dIt, dIf, gTg, gTgs, wipeD, List.map_cons, List.map_nil, List.set_cons_zero, List.set_cons_succ, bne_self, Bool.not_true, Bool.not_false, Bool.or_false, Bool.false_or, Bool.or_true, Bool.true_or, decide_true, decide_false, and_true, true_and, rdA]; exact q
  | str s => simp only [dSs, dS, dT, dE, dEs, dTO, dTA, dAnd, dOr, dIt, dIf, gTg, gTgs, wipeD, List.map_cons, List.map_nil, List.set_cons_zero, List.set_cons_succ, bne_self, Bool.not_true, Bool.not_false, Bool.or_false, Bool.false_or, Bool.or_true, Bool.true_or, decide_true, decide_false, and_true, true_and, rdA]; exact q
  | lst xs =>
    simp only [dSs, dS, dT, dE, dEs, dTO, dTA, dAnd, dOr, dIt, dIf, gTg, gTgs, wipeD, List.map_cons, List.map_nil, List.set_cons_zero, List.set_cons_succ, bne_self, Bool.not_true, Bool.not_false, Bool.or_false, Bool.false_or, Bool.or_true, Bool.true_or, decide_true, decide_false, and_true, true_and, rdA]
    refine go xs hx _ fun k hk y hy py kk hkk => ?_
    rw [w_ixL (atI_natD hy), w_ixL (atI_natD hy)]
    exact ⟨y, rfl, py, hkk⟩
  | tup xs =>
    simp only [dSs, dS, dT, dE, dEs, dTO, dTA, dAnd, dOr, dIt, dIf, gTg, gTgs, wipeD, List.map_cons, List.map_nil, List.set_cons_zero, List.set_cons_succ, bne_self, Bool.not_true, Bool.not_false, Bool.or_false, Bool.false_or, Bool.or_true, Bool.true_or, decide_true, decide_false, and_true, true_and, rdA]
    refine go xs hx _ fun k hk y hy py kk hkk => ?_
    rw [w_ixT (atI_natD hy), w_ixT (atI_natD hy)]
    exact ⟨y, rfl, py, hkk⟩
  | _ => cases hx
end K42
end VS
namespace VS
open PySem PySem.Spec PyProof.Rows L2
inductive Wr where
  | bad (k : Nat) | half | ok
def wr : List String → Nat → Bool → Bool → Nat → Wr
  | [], _, _, nm, _ => if nm = true then .half else .ok
  | s :: r, lv, op, nm, k =>
    if nm = true then (if s = "(" then wr r (lv + 1) true false (k + 1) else .bad k)
    else if s = ")" then (if lv = 0 then .bad k else wr r (lv - 1) op false (k + 1))
    else if s = "(" ∨ (op = true ∧ lv = 0) ∨ 8 < s.length then .bad k
    else wr r lv op true (k + 1)
def evS (l : List String) : List String := l.filter fun s => decide (s ≠ "(")
def sgE : List Char := ['(', ')']
structure TkE (t : Tk) : Prop where
  w : t.w = wordB t.v
  s : t.w = true ∨ t.v = "(" ∨ t.v = ")"
theorem TkE.paren {t : Tk} (h : TkE t) : (t.v = "(" → t.w = false) ∧ (t.v = ")" → t.w = false) ∧ (t.w = false → t.v = "(" ∨ t.v = ")") := by
  refine ⟨fun e => ?_, fun e => ?_, fun e => ?_⟩
  · rw [h.w, e]; decide
  · rw [h.w, e]; decide
  · rcases h.s with z | z
    · rw [e] at z; cases z
    · exact z
namespace K42
def ResE (all : List Tk) (n : Nat) (Q : DK) (E : XP) (M : Store) : Prop := match wr (all.map (·.v)) 0 false false 0 with
  | .bad k => ∀ M', Dr M M' → E "TextError" (errF "unexpected token" (spotK n all[k]?)) M'
  | .half => ∀ M', Dr M M' → E "TextError" (errF "unexpected end" n) M'
  | .ok => ∀ M', Dr M M' → Q (.lst (sts (evS (all.map (·.v))))) M'
def spRe : Spec := fun ds M Q E => ∃ (t : String) (ts : List Tk) (o : Option Nat), ds = [.str t] ∧ t.length ≤ 100000 ∧ LexO sgE t.toList 0 ts o ∧
  (∀ e, o = some e → ∀ M', Dr M M' → E "TextError" (errF "unknown character" e) M') ∧ (o = none → RdOk t.length ts ∧ (∀ x ∈ ts, TkE x) ∧ ResE ts t.length Q E M)
theorem drop_at {ts : List Tk} {k : Nat} {t : Tk} (h : ts[k]? = some t) : (ts.map (·.v)).drop k = t.v :: (ts.map (·.v)).drop (k + 1) := by
  have hk := (List.getElem?_eq_some_iff.mp h).1
  rw [List.drop_eq_getElem_cons (by rw [List.length_map]; exact hk), List.getElem_map, (List.getElem?_eq_some_iff.mp h).2]
theorem take_tk {ts : List Tk} {k : Nat} {t : Tk} (h : ts[k]? = some t) : (ts.map (·.v)).take (k + 1) = (ts.map (·.v)).take k ++ [t.v] := by
  rw [List.take_succ, List.getElem?_map, h]; rfl
theorem ev_snoc {l : List String} {s : String} : evS (l ++ [s]) = if s = "(" then evS l else evS l ++ [s] := by
  unfold evS
  rw [List.filter_append]
  by_cases h : s = "("
  · rw [if_pos h, List.filter_cons_of_neg (by simp [h])]; simp
  · rw [if_neg h, List.filter_cons_of_pos (by simp [h])]; rfl
theorem sg_at {ts : List Tk} (hE : ∀ x ∈ ts, TkE x) {k : Nat} {t : Tk} (h : ts[k]? = some t) {s : String} (hs : s = "(" ∨ s = ")") : isSg s ts[k]? = decide (t.v = s) := by
  rw [h]
  show (!t.w && decide (t.v = s)) = _
  by_cases e : t.v = s
  · obtain ⟨p1, p2, _⟩ := (hE t (List.mem_of_getElem? h)).paren
    have : t.w = false := by
      rcases hs with rfl | rfl
      · exact p1 e
      · exact p2 e
    rw [this, decide_eq_true e]; rfl
  · rw [decide_eq_false e, Bool.and_false]
theorem h_read_events : ∀ ds M Q E, ds.length = 1 → spRe ds M Q E → dSs E (c_read_events spKind spAccept spFail spName spNeed spRInit) { nx := fun _ M' => Q .non M', rt := Q } (startD n_read_events.length ds) M := by
  rintro ds M Q E hl ⟨t, ts, o, rfl, ht, lx, bad0, fin⟩
  show dSs E (c_read_events spKind spAccept spFail spName spNeed spRInit) _ [some (.str t), none, none, none] M
  unfold c_read_events
  have ll : line = 16777216 := rfl
  have tlen : ts.length ≤ 100000 := by have := lx.len; rw [String.length_toList] at this; omega
  simp only [dSs, dS, dT, dE, dEs, dTO, dTA, dAnd, dOr, dIt, dIf, gTg, gTgs, wipeD, List.map_cons, List.map_nil, List.set_cons_zero, List.set_cons_succ, bne_self, Bool.not_true, Bool.not_false, Bool.or_false, Bool.false_or, Bool.or_true, Bool.true_or, decide_true, decide_false, and_true, true_and, rdA, dEg, g_END]
  intro p hp
  refine ⟨p, t, "()", ts, o, rfl, put_same, ht, by decide, by decide, by decide, lx, fun eo => ?_, fun e eo M' ad => ?_⟩
  case refine_2 =>
    refine bad0 e eo M' fun x hx => ?_
    have xp : x ≠ p := fun z => by subst z; exact hx hp
    rw [ad x xp (by rw [put_ne xp]; exact hx), put_ne xp]
  obtain ⟨ok, hE, res⟩ := fin eo
  refine ⟨rfl, ?_⟩
  rw [put_put]
  intro e he
  have ep : e ≠ p := fun z => by subst z; rw [put_same] at he; cases he
  have he0 : M e = none := by rwa [put_ne ep] at he
  have key : ∀ (k : Nat) (xs : List D), Dr M (((M.put p (rdO t.length ts k)).put e (.lst xs))) := fun k xs a ha => by
    rw [put_ne (fun z => by subst z; exact ha he0 : a ≠ e), put_ne (fun z => by subst z; exact ha hp : a ≠ p)]
  have rd : ∀ (k : Nat) (xs : List D), ((M.put p (rdO t.length ts k)).put e (.lst xs)) p = some (rdO t.length ts k) := fun k xs => by rw [put_ne (Ne.symm ep), put_same]
  have st : ∀ (k k' : Nat) (xs : List D), ((M.put p (rdO t.length ts k)).put e (.lst xs)).put p (rdO t.length ts k') = (M.put p (rdO t.length ts k')).put e (.lst xs) := fun k k' xs => by
    rw [put_comm ep, put_put]
  have eq0 : wr (ts.map (·.v)) 0 false false 0 = wr ((ts.map (·.v)).drop 0) 0 false false 0 := rfl
  have bad : ∀ {k : Nat} {tk : Tk} (M' : Store), ts[k]? = some tk → wr (ts.map (·.v)) 0 false false 0 = .bad k → Dr M M' → ErrK t.length ts k M' E := fun {k tk} M' hk hw d => by
    unfold ResE at res
    rw [hw] at res
    unfold ErrK
    rw [hk]
    have := res M' d
    rw [hk] at this
    exact this
  refine ⟨fun m σ M' => ∃ (k lv : Nat) (op : Bool), k ≤ ts.length ∧ σ = [some (.str t), some (.ptr p), some (.ptr e), some (.int (lv : Int))] ∧ M' = (M.put p (rdO t.length ts k)).put e (.lst (sts (evS ((ts.map (·.v)).take k)))) ∧
    wr (ts.map (·.v)) 0 false false 0 = wr ((ts.map (·.v)).drop k) lv op false k ∧ (op = true ↔ evS ((ts.map (·.v)).take k) ≠ []) ∧ (0 < lv → op = true) ∧ lv ≤ k ∧ m = ts.length - k, ⟨_, 0, 0, false, Nat.zero_le _, rfl, rfl, eq0, by simp [evS], fun z => by omega, Nat.le_refl _, rfl⟩, ?_⟩
  rintro m σ M' ⟨k, lv, op, hk, rfl, rfl, hw, hop, hlv, lvk, rfl⟩
  have evl : (sts (evS ((ts.map (·.v)).take k))).length ≤ 100000 := by
    rw [sts_len]
    refine Nat.le_trans (List.length_filter_le _ _) ?_
    rw [List.length_take, List.length_map]; omega
  have hr := rd k (sts (evS ((ts.map (·.v)).take k)))
  simp only [dSs, dS, dT, dE, dEs, dTO, dTA, dAnd, dOr, dIt, dIf, gTg, gTgs, wipeD, List.map_cons, List.map_nil, List.set_cons_zero, List.set_cons_succ, bne_self, Bool.not_true, Bool.not_false, Bool.or_false, Bool.false_or, Bool.or_true, Bool.true_or, decide_true, decide_false, and_true, true_and, rdA, dEg, g_END, rd_asI hr, rd_m1]
  refine ⟨p, _, ts, k, rfl, hr, ?_⟩
  cases ek : ts[k]? with
  | none =>
    have hkl : ts.length ≤ k := List.getElem?_eq_none_iff.mp ek
    have : (ts.map (·.v)).drop k = [] := List.drop_eq_nil_of_le (by rw [List.length_map]; exact hkl)
    rw [this] at hw
    have hw : wr (ts.map (·.v)) 0 false false 0 = .ok := hw
    have : (ts.map (·.v)).take k = ts.map (·.v) := List.take_of_length_le (by rw [List.length_map]; exact hkl)
    unfold ResE at res
    rw [hw] at res
    simp only [dSs, dS, dT, dE, dEs, dTO, dTA, dAnd, dOr, dIt, dIf, gTg, gTgs, wipeD, List.map_cons, List.map_nil, List.set_cons_zero, List.set_cons_succ, bne_self, Bool.not_true, Bool.not_false, Bool.or_false, Bool.false_or, Bool.or_true, Bool.true_or, decide_true, decide_false, and_true, true_and, rdA, kindK]
    refine ⟨_, _, ⟨e, _, rfl, put_same, rfl, rfl⟩, ?_⟩
    simp only [dSs, dS, dT, dE, dEs, dTO, dTA, dAnd, dOr, dIt, dIf, gTg, gTgs, wipeD, List.map_cons, List.map_nil, List.set_cons_zero, List.set_cons_succ, bne_self, Bool.not_true, Bool.not_false, Bool.or_false, Bool.false_or, Bool.or_true, Bool.true_or, decide_true, decide_false, and_true, true_and, rdA]
    rw [this]
    refine res _ fun a ha => ?_
    rw [del_ne (fun z => by subst z; exact ha he0 : a ≠ e)]
    exact key k _ a ha
  | some tk =>
    have hE1 := hE tk (List.mem_of_getElem? ek)
    obtain ⟨pa1, pa2, pa3⟩ := hE1.paren
    rw [drop_at ek] at hw
    have hkk : k < ts.length := (List.getElem?_eq_some_iff.mp ek).1
    have kd : decide (kindK (some tk) = "end") = false := by
      show decide (kindT tk.w = "end") = false
      cases tk.w <;> decide
    simp only [dSs, dS, dT, dE, dEs, dTO, dTA, dAnd, dOr, dIt, dIf, gTg, gTgs, wipeD, List.map_cons, List.map_nil, List.set_cons_zero, List.set_cons_succ, bne_self, Bool.not_true, Bool.not_false, Bool.or_false, Bool.false_or, Bool.or_true, Bool.true_or, decide_true, decide_false, and_true, true_and, rdA, kd]
    -- a name and a '(' behind it
    have name_ : (tk.v = ")" → lv = 0) → (op = true → lv ≠ 0) → ∀ (σ4 : Env) (nx : Env → Store → Prop), σ4 = [some (.str t), some (.ptr p), some (.ptr e), some (.int (lv : Int))] →
        (∀ M'', M'' = (M.put p (rdO t.length ts (k + 2))).put e (.lst (sts (evS ((ts.map (·.v)).take (k + 2))))) → k + 2 ≤ ts.length → wr (ts.map (·.v)) 0 false false 0 = wr ((ts.map (·.v)).drop (k + 2)) (lv + 1) true false (k + 2) → evS ((ts.map (·.v)).take (k + 2)) ≠ [] → nx [some (.str t), some (.ptr p), some (.ptr e), some (.int ((lv + 1 : Nat) : Int))] M'') →
        dSs E (.cons (.ex (.mth .append (.v 2) (.cons (.meth "Reader" "name" spName (.v 1) .nil) .nil)))
  (.cons (.ex (.meth "Reader" "need" spNeed (.v 1) (.cons (.c (.str "(")) .nil)))
  (.cons (.aug .add 3 (.c (.int 1)))
  .nil))) { nx := nx, rt := Q } σ4 ((M.put p (rdO t.length ts k)).put e (.lst (sts (evS ((ts.map (·.v)).take k))))) := by
      intro h1 h2 σ4 nx e4 hnx
      subst e4
      have hpe : ((M.put p (rdO t.length ts k)).put e (.lst (sts (evS ((ts.map (·.v)).take k))))) e = some (.lst (sts (evS ((ts.map (·.v)).take k)))) := put_same
      simp only [dSs, dS, dT, dE, dEs, dTO, dTA, dAnd, dOr, dIt, dIf, gTg, gTgs, wipeD, List.map_cons, List.map_nil, List.set_cons_zero, List.set_cons_succ, bne_self, Bool.not_true, Bool.not_false, Bool.or_false, Bool.false_or, Bool.or_true, Bool.true_or, decide_true, decide_false, and_true, true_and, rdA, w_appTy hpe, rd_asI hr, rd_m9]
      refine ⟨p, _, ts, k, rfl, hr, ok, fun v a hv hv8 => ?_, fun hnm => ?_⟩
      · rw [ek] at hv
        cases Option.some.inj hv
        have nv1 : v ≠ "(" := fun z => by have := pa1 z; cases this
        have nv2 : v ≠ ")" := fun z => by have := pa2 z; cases this
        rw [st k (k + 1)]
        have hr1 := rd (k + 1) (sts (evS ((ts.map (·.v)).take k)))
        have hpe1 : ((M.put p (rdO t.length ts (k + 1))).put e (.lst (sts (evS ((ts.map (·.v)).take k))))) e = some (.lst (sts (evS ((ts.map (·.v)).take k)))) := put_same
        simp only [dSs, dS, dT, dE, dEs, dTO, dTA, dAnd, dOr, dIt, dIf, gTg, gTgs, wipeD, List.map_cons, List.map_nil, List.set_cons_zero, List.set_cons_succ, bne_self, Bool.not_true, Bool.not_false, Bool.or_false, Bool.false_or, Bool.or_true, Bool.true_or, decide_true, decide_false, and_true, true_and, rdA, w_app hpe1]
        refine ⟨by omega, ?_⟩
        rw [put_put]
        have e1 : sts (evS ((ts.map (·.v)).take k)) ++ [D.str v] = sts (evS ((ts.map (·.v)).take (k + 1))) := by
          rw [take_tk ek, ev_snoc, if_neg nv1, sts_app]; rfl
        rw [e1]
        have hr2 := rd (k + 1) (sts (evS ((ts.map (·.v)).take (k + 1))))
        have hw1 : wr (ts.map (·.v)) 0 false false 0 = wr ((ts.map (·.v)).drop (k + 1)) lv op true (k + 1) := by
          rw [hw]
          show (if false = true then _ else if v = ")" then _ else if v = "(" ∨ (op = true ∧ lv = 0) ∨ 8 < v.length then _ else _) = _
          rw [if_neg Bool.false_ne_true, if_neg nv2, if_neg]
          rintro (z | ⟨z1, z2⟩ | z)
          · exact nv1 z
          · exact h2 z1 z2
          · omega
        simp only [dSs, dS, dT, dE, dEs, dTO, dTA, dAnd, dOr, dIt, dIf, gTg, gTgs, wipeD, List.map_cons, List.map_nil, List.set_cons_zero, List.set_cons_succ, bne_self, Bool.not_true, Bool.not_false, Bool.or_false, Bool.false_or, Bool.or_true, Bool.true_or, decide_true, decide_false, and_true, true_and, rdA, rd_asI hr2, rd_m8]
        refine ⟨p, _, ts, k + 1, "(", rfl, hr2, ok, fun hs => ?_, fun hs => ?_⟩
        · cases e2 : ts[k + 1]? with
          | none => rw [e2] at hs; cases hs
          | some t2 =>
            rw [sg_at hE e2 (.inl rfl), decide_eq_true_iff] at hs
            rw [drop_at e2, hs] at hw1
            rw [st (k + 1) (k + 2)]
            try simp only [dSs, dS, dT, dE, dEs, dTO, dTA, dAnd, dOr, dIt, dIf, gTg, gTgs, wipeD, List.map_cons, List.map_nil, List.set_cons_zero, List.set_cons_succ, bne_self, Bool.not_true, Bool.not_false, Bool.or_false, Bool.false_or, Bool.or_true, Bool.true_or, decide_true, decide_false, and_true, true_and, rdA]
            have e3 : evS ((ts.map (·.v)).take (k + 2)) = evS ((ts.map (·.v)).take (k + 1)) := by
              rw [take_tk e2, ev_snoc, if_pos hs]
            have ne : evS ((ts.map (·.v)).take (k + 2)) ≠ [] := by
              rw [e3, take_tk ek, ev_snoc, if_neg nv1]; simp
            rw [← e3]
            refine hnx _ rfl ?_ hw1 ne
            have := (List.getElem?_eq_some_iff.mp e2).1
            omega
        · have d1 := key (k + 1) (sts (evS ((ts.map (·.v)).take (k + 1))))
          cases e2 : ts[k + 1]? with
          | none =>
            rw [List.drop_eq_nil_of_le (by rw [List.length_map]; exact List.getElem?_eq_none_iff.mp e2)] at hw1
            have hw1 : wr (ts.map (·.v)) 0 false false 0 = .half := hw1
            unfold ResE at res
            rw [hw1] at res
            unfold ErrK
            rw [e2]
            exact res _ d1
          | some t2 =>
            rw [sg_at hE e2 (.inl rfl), decide_eq_false_iff_not] at hs
            rw [drop_at e2] at hw1
            refine bad _ e2 (hw1.trans ?_) d1
            show (if true = true then (if t2.v = "(" then _ else Wr.bad (k + 1)) else _) = _
            rw [if_pos rfl, if_neg hs]
      · refine bad _ ek (hw.trans ?_) (key k _)
        rw [ek] at hnm
        have hnm : (tk.w && decide (tk.v.length ≤ 8)) = false := hnm
        show (if false = true then _ else if tk.v = ")" then (if lv = 0 then Wr.bad k else _) else if tk.v = "(" ∨ (op = true ∧ lv = 0) ∨ 8 < tk.v.length then Wr.bad k else _) = _
        rw [if_neg Bool.false_ne_true]
        by_cases z : tk.v = ")"
        · rw [if_pos z, if_pos (h1 z)]
        · rw [if_neg z, if_pos]
          rw [Bool.and_eq_false_iff] at hnm
          rcases hnm with g | g
          · rcases pa3 g with y | y
            · exact .inl y
            · exact absurd y z
          · have := of_decide_eq_false g
            exact .inr (.inr (by omega))
    by_cases h0 : lv = 0
    · subst h0
      rw [decide_eq_false (show ¬ ((0 : Int) < ((0 : Nat) : Int)) by omega)]
      have hpe : ((M.put p (rdO t.length ts k)).put e (.lst (sts (evS ((ts.map (·.v)).take k))))) e = some (.lst (sts (evS ((ts.map (·.v)).take k)))) := put_same
      simp only [dSs, dS, dT, dE, dEs, dTO, dTA, dAnd, dOr, dIt, dIf, gTg, gTgs, wipeD, List.map_cons, List.map_nil, List.set_cons_zero, List.set_cons_succ, bne_self, Bool.not_true, Bool.not_false, Bool.or_false, Bool.false_or, Bool.or_true, Bool.true_or, decide_true, decide_false, and_true, true_and, rdA, decide_eq_true (show (((0 : Nat) : Int) = 0) by omega), w_truP hpe]
      cases op with
      | true =>
        have hne := hop.mp rfl
        have : (!(sts (evS ((ts.map (·.v)).take k))).isEmpty) = true := by
          cases z : evS ((ts.map (·.v)).take k) with
          | nil => exact absurd z hne
          | cons a b => rfl
        rw [this]
        simp only [dSs, dS, dT, dE, dEs, dTO, dTA, dAnd, dOr, dIt, dIf, gTg, gTgs, wipeD, List.map_cons, List.map_nil, List.set_cons_zero, List.set_cons_succ, bne_self, Bool.not_true, Bool.not_false, Bool.or_false, Bool.false_or, Bool.or_true, Bool.true_or, decide_true, decide_false, and_true, true_and, rdA, rd_asI hr, rd_m4]
        refine ⟨p, _, ts, k, rfl, hr, ok, bad _ ek (hw.trans ?_) (key k _)⟩
        show (if false = true then _ else if tk.v = ")" then Wr.bad k else if tk.v = "(" ∨ (true = true ∧ 0 = 0) ∨ 8 < tk.v.length then Wr.bad k else _) = _
        rw [if_neg Bool.false_ne_true]
        by_cases z : tk.v = ")"
        · rw [if_pos z]
        · rw [if_neg z, if_pos (.inr (.inl ⟨rfl, rfl⟩))]
      | false =>
        have hemp : evS ((ts.map (·.v)).take k) = [] := by
          cases z : evS ((ts.map (·.v)).take k) with
          | nil => rfl
          | cons a b => exact absurd (hop.mpr (by rw [z]; exact fun y => by cases y)) Bool.false_ne_true
        have : (!(sts (evS ((ts.map (·.v)).take k))).isEmpty) = false := by rw [hemp]; rfl
        rw [this]
        have := name_ (fun _ => rfl) (fun z => by cases z) _ (fun σ' M' => ∃ m', m' < ts.length - k ∧ (fun m σ M' => ∃ (k lv : Nat) (op : Bool), k ≤ ts.length ∧ σ = [some (.str t), some (.ptr p), some (.ptr e), some (.int (lv : Int))] ∧ M' = (M.put p (rdO t.length ts k)).put e (.lst (sts (evS ((ts.map (·.v)).take k)))) ∧
    wr (ts.map (·.v)) 0 false false 0 = wr ((ts.map (·.v)).drop k) lv op false k ∧ (op = true ↔ evS ((ts.map (·.v)).take k) ≠ []) ∧ (0 < lv → op = true) ∧ lv ≤ k ∧ m = ts.length - k) m' σ' M') rfl fun M'' e1 g1 g2 g3 => ⟨_, (by omega : ts.length - (k + 2) < ts.length - k), k + 2, 0 + 1, true, g1, rfl, e1, g2, ⟨fun _ => g3, fun _ => rfl⟩, fun _ => rfl, by omega, rfl⟩
        simp only [dSs, dS, dT, dE, dEs, dTO, dTA, dAnd, dOr, dIt, dIf, gTg, gTgs, wipeD, List.map_cons, List.map_nil, List.set_cons_zero, List.set_cons_succ, bne_self, Bool.not_true, Bool.not_false, Bool.or_false, Bool.false_or, Bool.or_true, Bool.true_or, decide_true, decide_false, and_true, true_and, rdA] at this ⊢
        exact this
    · rw [decide_eq_true (show (0 : Int) < (lv : Int) by omega)]
      simp only [dSs, dS, dT, dE, dEs, dTO, dTA, dAnd, dOr, dIt, dIf, gTg, gTgs, wipeD, List.map_cons, List.map_nil, List.set_cons_zero, List.set_cons_succ, bne_self, Bool.not_true, Bool.not_false, Bool.or_false, Bool.false_or, Bool.or_true, Bool.true_or, decide_true, decide_false, and_true, true_and, rdA, rd_asI hr, rd_m7]
      refine ⟨p, _, ts, k, ")", rfl, hr, fun hs => ?_, fun hs => ?_⟩
      · rw [sg_at hE ek (.inr rfl), decide_eq_true_iff] at hs
        rw [st k (k + 1)]
        have hpe1 : ((M.put p (rdO t.length ts (k + 1))).put e (.lst (sts (evS ((ts.map (·.v)).take k))))) e = some (.lst (sts (evS ((ts.map (·.v)).take k)))) := put_same
        have e1 : sts (evS ((ts.map (·.v)).take k)) ++ [D.str ")"] = sts (evS ((ts.map (·.v)).take (k + 1))) := by
          rw [take_tk ek, ev_snoc, if_neg (by rw [hs]; decide), sts_app, hs]; rfl
        simp only [dSs, dS, dT, dE, dEs, dTO, dTA, dAnd, dOr, dIt, dIf, gTg, gTgs, wipeD, List.map_cons, List.map_nil, List.set_cons_zero, List.set_cons_succ, bne_self, Bool.not_true, Bool.not_false, Bool.or_false, Bool.false_or, Bool.or_true, Bool.true_or, decide_true, decide_false, and_true, true_and, rdA, w_appTy hpe1, w_app hpe1]
        refine ⟨by omega, ?_⟩
        rw [put_put, e1]
        refine ⟨_, (by omega : ts.length - (k + 1) < ts.length - k), k + 1, lv - 1, op, hkk, ?_, rfl, ?_, ⟨fun _ => ?_, fun _ => hlv (by omega)⟩, fun _ => hlv (by omega), by omega, rfl⟩
        · rw [show ((lv - 1 : Nat) : Int) = (lv : Int) - 1 by omega]
        · rw [hw]
          show (if false = true then _ else if tk.v = ")" then (if lv = 0 then _ else _) else _) = _
          rw [if_neg Bool.false_ne_true, if_pos hs, if_neg h0]
        · rw [take_tk ek, ev_snoc, if_neg (by rw [hs]; decide)]; simp
      · rw [sg_at hE ek (.inr rfl), decide_eq_false_iff_not] at hs
        simp only [dSs, dS, dT, dE, dEs, dTO, dTA, dAnd, dOr, dIt, dIf, gTg, gTgs, wipeD, List.map_cons, List.map_nil, List.set_cons_zero, List.set_cons_succ, bne_self, Bool.not_true, Bool.not_false, Bool.or_false, Bool.false_or, Bool.or_true, Bool.true_or, decide_true, decide_false, and_true, true_and, rdA, decide_eq_false (show ¬ ((lv : Int) = 0) by omega)]
        have := name_ (fun z => absurd z hs) (fun _ => h0) _ (fun σ' M' => ∃ m', m' < ts.length - k ∧ (fun m σ M' => ∃ (k lv : Nat) (op : Bool), k ≤ ts.length ∧ σ = [some (.str t), some (.ptr p), some (.ptr e), some (.int (lv : Int))] ∧ M' = (M.put p (rdO t.length ts k)).put e (.lst (sts (evS ((ts.map (·.v)).take k)))) ∧
    wr (ts.map (·.v)) 0 false false 0 = wr ((ts.map (·.v)).drop k) lv op false k ∧ (op = true ↔ evS ((ts.map (·.v)).take k) ≠ []) ∧ (0 < lv → op = true) ∧ lv ≤ k ∧ m = ts.length - k) m' σ' M') rfl fun M'' e1 g1 g2 g3 => ⟨_, (by omega : ts.length - (k + 2) < ts.length - k), k + 2, lv + 1, true, g1, rfl, e1, g2, ⟨fun _ => g3, fun _ => rfl⟩, fun _ => rfl, by omega, rfl⟩
        simp only [dSs, dS, dT, dE, dEs, dTO, dTA, dAnd, dOr, dIt, dIf, gTg, gTgs, wipeD, List.map_cons, List.map_nil, List.set_cons_zero, List.set_cons_succ, bne_self, Bool.not_true, Bool.not_false, Bool.or_false, Bool.false_or, Bool.or_true, Bool.true_or, decide_true, decide_false, and_true, true_and, rdA] at this ⊢
        exact this
end K42
end VS
namespace VS
open PySem PySem.Spec PyProof.Rows L2
namespace K42
def spText (S : List Char) : Spec := fun ds M Q _ => ∃ d l, ds = [.ptr d, .lst (sts l)] ∧ DrawAt M d ∧ (∀ s ∈ l, tok8 S s = true) ∧ l.length ≤ 5000 ∧ ∀ t q pl M', Grow d M M' → Grown S l t pl → t.length ≤ 2 + 20 * l.length → M' q = some (.lst (intsD pl)) → M q = none → Q (.tup [.str t, .ptr q]) M'
theorem h_text (S : List Char) : ∀ ds M Q E, ds.length = 2 → spText S ds M Q E → dSs E (c_law_text spNext) { nx := fun _ M' => Q .non M', rt := Q } (startD n_law_text.length ds) M := by
  rintro ds M Q E hl ⟨d, l, rfl, hd, hk, hlen, q⟩
  show dSs E (c_law_text spNext) _ [some (.ptr d), some (.lst (sts l)), none, none, none] M
  unfold c_law_text
  have ll : line = 16777216 := rfl
  simp only [dSs, dS, dT, dE, dEs, dTO, dTA, dAnd, dOr, dIt, dIf, gTg, gTgs, wipeD, List.map_cons, List.map_nil, List.set_cons_zero, List.set_cons_succ, bne_self, Bool.not_true, Bool.not_false, Bool.or_false, Bool.false_or, Bool.or_true, Bool.true_or, decide_true, decide_false, and_true, true_and, rdA, it_L]
  refine ⟨d, 2, rfl, by decide, by decide, hd, fun r M1 r0 r2 hd1 e1 => ?_⟩
  obtain ⟨w, hw, ew0⟩ := pick_str (ss := ["", " "]) r0 r2
  have ew : ∀ (M : Store) (Q : DK), wIx (.lst [D.str "", .str " "]) (.int r) M Q = Q (.str w) M := ew0
  have gr1 : Grow d M M1 := .next hd1 e1
  have hw1 : wsB w.toList = true ∧ w.length ≤ 1 := by
    simp only [List.mem_cons, List.not_mem_nil, or_false] at hw
    rcases hw with rfl | rfl <;> exact ⟨by decide, by decide⟩
  simp only [ew, dSs, dS, dT, dE, dEs, dTO, dTA, dAnd, dOr, dIt, dIf, gTg, gTgs, wipeD, List.map_cons, List.map_nil, List.set_cons_zero, List.set_cons_succ, bne_self, Bool.not_true, Bool.not_false, Bool.or_false, Bool.false_or, Bool.or_true, Bool.true_or, decide_true, decide_false, and_true, true_and, rdA]
  intro p hp
  have hpd : p ≠ d := Grow.ne hd1 hp
  have hp0 : M p = none := gr1.non hpd hp
  refine forGo_inv (fun j σ M' => ∃ (o : Option D) (t : String) (pl : List Nat), σ = [some (.ptr d), some (.lst (sts l)), some (.str t), some (.ptr p), o] ∧ Grow d M M' ∧ Grown S (l.take j) t pl ∧ M' p = some (.lst (intsD pl)) ∧ t.length ≤ 1 + 20 * j ∧ pl.length = j) _ (fun _ _ _ _ => trivial) ?_ ?_ ?_
  · rintro j x σ M2 nx hx ⟨o, t, pl, rfl, gr, hg, hM2, ht, hpl⟩ hn
    obtain ⟨s, hs, rfl⟩ := map_at hx
    have hj : j < l.length := (List.getElem?_eq_some_iff.mp hs).1
    obtain ⟨k1, k2⟩ := and_of (hk s (List.mem_of_getElem? hs))
    have k2 := of_decide_eq_true k2
    have etk : l.take (j + 1) = l.take j ++ [s] := by rw [List.take_succ, hs]; rfl
    simp only [dSs, dS, dT, dE, dEs, dTO, dTA, dAnd, dOr, dIt, dIf, gTg, gTgs, wipeD, List.map_cons, List.map_nil, List.set_cons_zero, List.set_cons_succ, bne_self, Bool.not_true, Bool.not_false, Bool.or_false, Bool.false_or, Bool.or_true, Bool.true_or, decide_true, decide_false, and_true, true_and, rdA, w_appTy hM2]
    refine ⟨by omega, ?_⟩
    simp only [w_app hM2, intsD_len]
    refine ⟨by omega, by omega, ?_⟩
    have gr2 : Grow d M (M2.put p (.lst (intsD pl ++ [.int (t.length : Int)]))) := gr.put hpd hp0
    refine ⟨d, 3, rfl, by decide, by decide, gr2.1, fun r' M3 r0' r3' hd3 e3 => ?_⟩
    obtain ⟨v, hv, ev0⟩ := pick_str (ss := [" ", "\n", "  "]) r0' r3'
    have ev : ∀ (M : Store) (Q : DK), wIx (.lst [D.str " ", .str "\n", .str "  "]) (.int r') M Q = Q (.str v) M := ev0
    have hv1 : wsB v.toList = true ∧ v.toList ≠ [] ∧ v.length ≤ 2 := by
      simp only [List.mem_cons, List.not_mem_nil, or_false] at hv
      rcases hv with rfl | rfl | rfl <;> exact ⟨by decide, by decide, by decide⟩
    have z1 : (t ++ s).length = t.length + s.length := String.length_append _ _
    have z2 : (t ++ s ++ v).length = (t ++ s).length + v.length := String.length_append _ _
    simp only [ev, dSs, dS, dT, dE, dEs, dTO, dTA, dAnd, dOr, dIt, dIf, gTg, gTgs, wipeD, List.map_cons, List.map_nil, List.set_cons_zero, List.set_cons_succ, bne_self, Bool.not_true, Bool.not_false, Bool.or_false, Bool.false_or, Bool.or_true, Bool.true_or, decide_true, decide_false, and_true, true_and, rdA]
    refine ⟨by omega, hn _ _ ⟨_, _, pl ++ [t.length], rfl, gr2.trans (.next hd3 e3), ?_, ?_, by omega, by rw [List.length_append]; show _ + 1 = _; omega⟩⟩
    · rw [etk]; exact hg.snoc k1 hv1.1 hv1.2.1
    · rw [e3 p hpd, put_same]; show _ = some (MO.lst (intsD (pl ++ [t.length]))); unfold intsD; rw [List.map_append]; rfl
  · exact ⟨none, w, [], rfl, gr1.put hpd hp0, .start hw1.1, put_same, by omega, rfl⟩
  · rintro σ M2 ⟨o, t, pl, rfl, gr, hg, hM2, ht, hpl⟩
    rw [sts_len] at ht
    rw [sts_len, List.take_length] at hg
    simp only [dSs, dS, dT, dE, dEs, dTO, dTA, dAnd, dOr, dIt, dIf, gTg, gTgs, wipeD, List.map_cons, List.map_nil, List.set_cons_zero, List.set_cons_succ, bne_self, Bool.not_true, Bool.not_false, Bool.or_false, Bool.false_or, Bool.or_true, Bool.true_or, decide_true, decide_false, and_true, true_and, rdA]
    exact q t p pl M2 gr hg (by omega) hM2 hp0
end K42
end VS
namespace VS
open PySem PySem.Spec PyProof.Rows L2
def tkAll : List String := ["a", "bc", "abcdefgh", "(", ")", "abcdefghi", "-", "=", "A", "7"]
def sgT : List Char := ['(', ')', '-', '=', 'A', '7']
theorem sgT_ok : SOk sgT := fun c hc => by
  simp only [sgT, List.mem_cons, List.not_mem_nil, or_false] at hc
  rcases hc with rfl | rfl | rfl | rfl | rfl | rfl <;> decide
theorem tkAll_ok : ∀ s ∈ tkAll, tok8 sgT s = true := by decide
structure TkL (l : List String) (n : Nat) : Prop where
  mem : ∀ s ∈ l, s ∈ tkAll
  len : l.length ≤ n
theorem TkL.app {l : List String} {n : Nat} (h : TkL l n) {a : List String} (ha : ∀ s ∈ a, s ∈ tkAll) (hl : a.length ≤ 2) : TkL (l ++ a) (n + 2) := ⟨fun s hs => by
  rcases List.mem_append.mp hs with z | z
  · exact h.mem s z
  · exact ha s z, by rw [List.length_append]; have := h.len; omega⟩
theorem TkL.up {l : List String} {n : Nat} (h : TkL l n) : TkL l (n + 2) := ⟨h.mem, by have := h.len; omega⟩
namespace K42
def spTk : Spec := fun ds M Q _ => ∃ d, ds = [.ptr d] ∧ DrawAt M d ∧ ∀ l M', Grow d M M' → TkL l 24 → Q (.lst (sts l)) M'
theorem w_addP {M : Store} {p : Addr} {xs ys : List D} {Q : DK} (h : M p = some (.lst xs)) : wBin .add (.ptr p) (.lst ys) M Q = (xs.length + ys.length ≤ line ∧ nuL (xs ++ ys) M Q) := by
  show wAdd (.ptr p) (.lst ys) M Q = _
  show (match asL M (.ptr p), asL M (.lst ys) with | some xs, some ys => xs.length + ys.length ≤ line ∧ nuL (xs ++ ys) M Q | _, _ => False) = _
  rw [asL_ptr h]; rfl
theorem h_tokens_law : ∀ ds M Q E, ds.length = 1 → spTk ds M Q E → dSs E (c_law_tokens spNext) { nx := fun _ M' => Q .non M', rt := Q } (startD n_law_tokens.length ds) M := by
  rintro ds M Q E hl ⟨d, rfl, hd, q⟩
  show dSs E (c_law_tokens spNext) _ [some (.ptr d), none, none, none, none] M
  unfold c_law_tokens
  have ll : line = 16777216 := rfl
  simp only [dSs, dS, dT, dE, dEs, dTO, dTA, dAnd, dOr, dIt, dIf, gTg, gTgs, wipeD, List.map_cons, List.map_nil, List.set_cons_zero, List.set_cons_succ, bne_self, Bool.not_true, Bool.not_false, Bool.or_false, Bool.false_or, Bool.or_true, Bool.true_or, decide_true, decide_false, and_true, true_and, rdA]
  intro p hp
  have hpd : p ≠ d := Grow.ne hd hp
  have gr0 : Grow d M (M.put p (.lst [])) := (Grow.refl hd).put hpd hp
  refine ⟨d, 12, rfl, by decide, by decide, gr0.1, fun r M1 r0 r12 hd1 e1 => ?_⟩
  have gr1 : Grow d M M1 := gr0.trans (.next hd1 e1)
  have hM1 : M1 p = some (.lst []) := by rw [e1 p hpd, put_same]
  obtain ⟨n, rfl⟩ : ∃ n : Nat, r = (n : Int) := ⟨r.toNat, by omega⟩
  simp only [dSs, dS, dT, dE, dEs, dTO, dTA, dAnd, dOr, dIt, dIf, gTg, gTgs, wipeD, List.map_cons, List.map_nil, List.set_cons_zero, List.set_cons_succ, bne_self, Bool.not_true, Bool.not_false, Bool.or_false, Bool.false_or, Bool.or_true, Bool.true_or, decide_true, decide_false, and_true, true_and, rdA]
  refine ⟨⟨by omega, by omega⟩, by omega, ?_⟩
  refine forGo_inv (fun j σ M' => ∃ (p : Addr) (l : List String) (lv : Int) (o3 o4 : Option D), σ = [some (.ptr d), some (.ptr p), some (.int lv), o3, o4] ∧ Grow d M M' ∧ M p = none ∧ p ≠ d ∧ M' p = some (.lst (sts l)) ∧ TkL l (2 * j) ∧ 0 ≤ lv ∧ lv ≤ j) _ (fun _ _ _ _ => trivial) ?_ ?_ ?_
  · rintro j x σ M2 nx hx ⟨p, l, lv, o3, o4, rfl, gr, hp0, hpd, hM2, ht, lv1, lv2⟩ hn
    have hj : j < n := (rng_at hx).1
    have hlen := ht.len
    simp only [dSs, dS, dT, dE, dEs, dTO, dTA, dAnd, dOr, dIt, dIf, gTg, gTgs, wipeD, List.map_cons, List.map_nil, List.set_cons_zero, List.set_cons_succ, bne_self, Bool.not_true, Bool.not_false, Bool.or_false, Bool.false_or, Bool.or_true, Bool.true_or, decide_true, decide_false, and_true, true_and, rdA]
    refine ⟨d, 14, rfl, by decide, by decide, gr.1, fun f M3 f0 f14 hd3 e3 => ?_⟩
    have gr3 : Grow d M M3 := gr.trans (.next hd3 e3)
    have hM3 : M3 p = some (.lst (sts l)) := by rw [e3 p hpd]; exact hM2
    -- one token more at the end
    have one : ∀ (ss : List String), (∀ s ∈ ss, s ∈ tkAll) → ss.length < 1000 → 0 < ss.length → ∀ (lv' : Int) (M4 : Store) (σ' : Env), Grow d M M4 → M4 p = some (.lst (sts l)) → 0 ≤ lv' → lv' ≤ (j + 1 : Nat) → (∃ o3 o4 : Option D, σ' = [some (.ptr d), some (.ptr p), some (.int lv'), o3, o4]) →
        spNext [.ptr d, .int (ss.length : Nat)] M4 (fun d1 M5 => wIx (.lst (ss.map D.str)) d1 M5 fun d2 M6 => wMt .append (.ptr p) [d2] M6 fun _ M7 => nx σ' M7) E := fun ss hss h30 hpos lv' M4 σ' gr4 hM4 l1 l2 ⟨o3, o4, es⟩ => by
      refine ⟨d, ss.length, rfl, by omega, by omega, gr4.1, fun r M5 r0 rn hd5 e5 => ?_⟩
      obtain ⟨w, hw, ew⟩ := pick_str r0 rn
      rw [ew, w_app (show M5 p = some (.lst (sts l)) by rw [e5 p hpd]; exact hM4)]
      refine ⟨by rw [sts_len]; omega, hn _ _ ⟨p, l ++ [w], lv', o3, o4, es, (gr4.trans (.next hd5 e5)).put hpd hp0, hp0, hpd, by rw [put_same, sts_app]; rfl, ht.app (fun s hs => by rw [List.mem_singleton.mp hs]; exact hss w hw) (by simp), l1, l2⟩⟩
    simp only [dSs, dS, dT, dE, dEs, dTO, dTA, dAnd, dOr, dIt, dIf, gTg, gTgs, wipeD, List.map_cons, List.map_nil, List.set_cons_zero, List.set_cons_succ, bne_self, Bool.not_true, Bool.not_false, Bool.or_false, Bool.false_or, Bool.or_true, Bool.true_or, decide_true, decide_false, and_true, true_and, rdA]
    by_cases h6 : f < 6
    · rw [decide_eq_true h6]
      simp only [dSs, dS, dT, dE, dEs, dTO, dTA, dAnd, dOr, dIt, dIf, gTg, gTgs, wipeD, List.map_cons, List.map_nil, List.set_cons_zero, List.set_cons_succ, bne_self, Bool.not_true, Bool.not_false, Bool.or_false, Bool.false_or, Bool.or_true, Bool.true_or, decide_true, decide_false, and_true, true_and, rdA]
      refine ⟨d, 3, rfl, by decide, by decide, gr3.1, fun r M4 r0 r3 hd4 e4 => ?_⟩
      obtain ⟨w, hw, ew0⟩ := pick_str (ss := ["a", "bc", "abcdefgh"]) r0 r3
      have ew : ∀ (M : Store) (Q : DK), wIx (.lst [D.str "a", .str "bc", .str "abcdefgh"]) (.int r) M Q = Q (.str w) M := ew0
      have hM4 : M4 p = some (.lst (sts l)) := by rw [e4 p hpd]; exact hM3
      have gr4 : Grow d M M4 := gr3.trans (.next hd4 e4)
      simp only [ew, dSs, dS, dT, dE, dEs, dTO, dTA, dAnd, dOr, dIt, dIf, gTg, gTgs, wipeD, List.map_cons, List.map_nil, List.set_cons_zero, List.set_cons_succ, bne_self, Bool.not_true, Bool.not_false, Bool.or_false, Bool.false_or, Bool.or_true, Bool.true_or, decide_true, decide_false, and_true, true_and, rdA]
      rw [w_addP hM4]
      refine ⟨by rw [sts_len]; show _ + 2 ≤ _; omega, .inr fun q hq => ?_⟩
      have hqd : q ≠ d := Grow.ne gr4.1 hq
      have hq0 : M q = none := gr4.non hqd hq
      simp only [dSs, dS, dT, dE, dEs, dTO, dTA, dAnd, dOr, dIt, dIf, gTg, gTgs, wipeD, List.map_cons, List.map_nil, List.set_cons_zero, List.set_cons_succ, bne_self, Bool.not_true, Bool.not_false, Bool.or_false, Bool.false_or, Bool.or_true, Bool.true_or, decide_true, decide_false, and_true, true_and, rdA]
      refine hn _ _ ⟨q, l ++ [w, "("], lv + 1, _, _, rfl, gr4.put hqd hq0, hq0, hqd, by rw [put_same, sts_app]; rfl, ht.app (fun s hs => ?_) (by simp), by omega, by omega⟩
      simp only [List.mem_cons, List.not_mem_nil, or_false] at hs hw
      rcases hs with rfl | rfl
      · rcases hw with rfl | rfl | rfl <;> decide
      · decide
    rw [decide_eq_false h6]
    simp only [dSs, dS, dT, dE, dEs, dTO, dTA, dAnd, dOr, dIt, dIf, gTg, gTgs, wipeD, List.map_cons, List.map_nil, List.set_cons_zero, List.set_cons_succ, bne_self, Bool.not_true, Bool.not_false, Bool.or_false, Bool.false_or, Bool.or_true, Bool.true_or, decide_true, decide_false, and_true, true_and, rdA]
    have keep : ∀ (M4 : Store), Grow d M M4 → M4 p = some (.lst (sts l)) → ∀ (o3 o4 : Option D), nx [some (.ptr d), some (.ptr p), some (.int lv), o3, o4] M4 := fun M4 g h o3 o4 => hn _ _ ⟨p, l, lv, o3, o4, rfl, g, hp0, hpd, h, ht.up, lv1, by omega⟩
    -- what stands behind the closing sign
    have rest : dSs E (.cons (.iff (.val (.cmp .eq (.v 4) (.c (.int 11))))
  (.cons (.ex (.mth .append (.v 1) (.cons (.ix (.lst (.cons (.c (.str "a")) (.cons (.c (.str "(")) (.cons (.c (.str ")")) (.cons (.c (.str "abcdefghi")) .nil))))) (.call "_law_next" spNext (.cons (.v 0) (.cons (.c (.int 4)) .nil)))) .nil)))
  .nil)
  (.cons (.iff (.and (.cons (.val (.cmp .eq (.v 4) (.c (.int 12)))) (.cons (.val (.cmp .eq (.call "_law_next" spNext (.cons (.v 0) (.cons (.c (.int 3)) .nil))) (.c (.int 0)))) .nil)))
  (.cons (.ex (.mth .append (.v 1) (.cons (.ix (.lst (.cons (.c (.str "-")) (.cons (.c (.str "=")) (.cons (.c (.str "A")) (.cons (.c (.str "7")) .nil))))) (.call "_law_next" spNext (.cons (.v 0) (.cons (.c (.int 4)) .nil)))) .nil)))
  .nil)
  .nil)
  .nil))
  .nil) { nx := nx, rt := Q } [some (.ptr d), some (.ptr p), some (.int lv), some x, some (.int f)] M3 := by
      simp only [dSs, dS, dT, dE, dEs, dTO, dTA, dAnd, dOr, dIt, dIf, gTg, gTgs, wipeD, List.map_cons, List.map_nil, List.set_cons_zero, List.set_cons_succ, bne_self, Bool.not_true, Bool.not_false, Bool.or_false, Bool.false_or, Bool.or_true, Bool.true_or, decide_true, decide_false, and_true, true_and, rdA]
      by_cases h11 : f = 11
      · rw [decide_eq_true h11]
        simp only [dSs, dS, dT, dE, dEs, dTO, dTA, dAnd, dOr, dIt, dIf, gTg, gTgs, wipeD, List.map_cons, List.map_nil, List.set_cons_zero, List.set_cons_succ, bne_self, Bool.not_true, Bool.not_false, Bool.or_false, Bool.false_or, Bool.or_true, Bool.true_or, decide_true, decide_false, and_true, true_and, rdA, w_appTy hM3]
        exact one ["a", "(", ")", "abcdefghi"] (by decide) (by decide) (by decide) lv M3 _ gr3 hM3 lv1 (by omega) ⟨_, _, rfl⟩
      · rw [decide_eq_false h11]
        simp only [dSs, dS, dT, dE, dEs, dTO, dTA, dAnd, dOr, dIt, dIf, gTg, gTgs, wipeD, List.map_cons, List.map_nil, List.set_cons_zero, List.set_cons_succ, bne_self, Bool.not_true, Bool.not_false, Bool.or_false, Bool.false_or, Bool.or_true, Bool.true_or, decide_true, decide_false, and_true, true_and, rdA]
        by_cases h12 : f = 12
        · rw [decide_eq_true h12]
          simp only [dSs, dS, dT, dE, dEs, dTO, dTA, dAnd, dOr, dIt, dIf, gTg, gTgs, wipeD, List.map_cons, List.map_nil, List.set_cons_zero, List.set_cons_succ, bne_self, Bool.not_true, Bool.not_false, Bool.or_false, Bool.false_or, Bool.or_true, Bool.true_or, decide_true, decide_false, and_true, true_and, rdA]
          refine ⟨d, 3, rfl, by decide, by decide, gr3.1, fun r M4 r0 r3 hd4 e4 => ?_⟩
          have hM4 : M4 p = some (.lst (sts l)) := by rw [e4 p hpd]; exact hM3
          have gr4 : Grow d M M4 := gr3.trans (.next hd4 e4)
          simp only [dSs, dS, dT, dE, dEs, dTO, dTA, dAnd, dOr, dIt, dIf, gTg, gTgs, wipeD, List.map_cons, List.map_nil, List.set_cons_zero, List.set_cons_succ, bne_self, Bool.not_true, Bool.not_false, Bool.or_false, Bool.false_or, Bool.or_true, Bool.true_or, decide_true, decide_false, and_true, true_and, rdA]
          by_cases h0 : r = 0
          · rw [decide_eq_true h0]
            simp only [dSs, dS, dT, dE, dEs, dTO, dTA, dAnd, dOr, dIt, dIf, gTg, gTgs, wipeD, List.map_cons, List.map_nil, List.set_cons_zero, List.set_cons_succ, bne_self, Bool.not_true, Bool.not_false, Bool.or_false, Bool.false_or, Bool.or_true, Bool.true_or, decide_true, decide_false, and_true, true_and, rdA, w_appTy hM4]
            exact one ["-", "=", "A", "7"] (by decide) (by decide) (by decide) lv M4 _ gr4 hM4 lv1 (by omega) ⟨_, _, rfl⟩
          · rw [decide_eq_false h0]
            exact keep M4 gr4 hM4 _ _
        · rw [decide_eq_false h12]
          exact keep M3 gr3 hM3 _ _
    simp only [dSs, dS, dT, dE, dEs, dTO, dTA, dAnd, dOr, dIt, dIf, gTg, gTgs, wipeD, List.map_cons, List.map_nil, List.set_cons_zero, List.set_cons_succ, bne_self, Bool.not_true, Bool.not_false, Bool.or_false, Bool.false_or, Bool.or_true, Bool.true_or, decide_true, decide_false, and_true, true_and, rdA] at rest
    by_cases h11 : f < 11
    · rw [decide_eq_true h11]
      simp only [dSs, dS, dT, dE, dEs, dTO, dTA, dAnd, dOr, dIt, dIf, gTg, gTgs, wipeD, List.map_cons, List.map_nil, List.set_cons_zero, List.set_cons_succ, bne_self, Bool.not_true, Bool.not_false, Bool.or_false, Bool.false_or, Bool.or_true, Bool.true_or, decide_true, decide_false, and_true, true_and, rdA]
      by_cases h0 : 0 < lv
      · rw [decide_eq_true h0]
        simp only [dSs, dS, dT, dE, dEs, dTO, dTA, dAnd, dOr, dIt, dIf, gTg, gTgs, wipeD, List.map_cons, List.map_nil, List.set_cons_zero, List.set_cons_succ, bne_self, Bool.not_true, Bool.not_false, Bool.or_false, Bool.false_or, Bool.or_true, Bool.true_or, decide_true, decide_false, and_true, true_and, rdA, w_appTy hM3, w_app hM3]
        refine ⟨by rw [sts_len]; omega, hn _ _ ⟨p, l ++ [")"], lv - 1, _, _, rfl, gr3.put hpd hp0, hp0, hpd, by rw [put_same, sts_app]; rfl, ht.app (fun s hs => by rw [List.mem_singleton.mp hs]; decide) (by simp), by omega, by omega⟩⟩
      · rw [decide_eq_false h0]
        exact rest
    · rw [decide_eq_false h11]
      exact rest
  · exact ⟨p, [], 0, none, none, rfl, gr1, hp, hpd, hM1, ⟨fun s h => (by cases h), Nat.zero_le _⟩, by omega, by omega⟩
  · rintro σ M2 ⟨p, l, lv, o3, o4, rfl, gr, hp0, hpd, hM2, ht, _, _⟩
    refine ⟨_, _, ⟨p, _, rfl, hM2, rfl, rfl⟩, ?_⟩
    simp only [dSs, dS, dT, dE, dEs, dTO, dTA, dAnd, dOr, dIt, dIf, gTg, gTgs, wipeD, List.map_cons, List.map_nil, List.set_cons_zero, List.set_cons_succ, bne_self, Bool.not_true, Bool.not_false, Bool.or_false, Bool.false_or, Bool.or_true, Bool.true_or, decide_true, decide_false, and_true, true_and, rdA]
    refine q l _ ⟨?_, fun a ha hm => ?_⟩ ⟨ht.mem, by have := ht.len; rw [rngD_len] at this; omega⟩
    · obtain ⟨c, i1, i2, i3, h1, h2⟩ := gr.1
      exact ⟨c, i1, i2, i3, by rw [del_ne (Ne.symm hpd)]; exact h1, h2⟩
    · have : a ≠ p := fun z => by subst z; exact hm hp0
      rw [del_ne this]; exact gr.2 a ha hm
end K42
end VS
namespace VS
open PySem PySem.Spec PyProof.Rows L2
theorem wr_last : ∀ (l : List String) (lv : Nat) (op nm : Bool) (k : Nat), (wr l lv op nm k = .half → (l = [] ∧ nm = true) ∨ ∃ l' s, l = l' ++ [s] ∧ s ≠ "(" ∧ s ≠ ")") ∧ (wr l lv op nm k = .ok → (l = [] ∧ nm = false) ∨ ∃ l' s, l = l' ++ [s] ∧ (s = "(" ∨ s = ")"))
  | [], lv, op, nm, k => by
    unfold wr
    cases nm with
    | true => exact ⟨fun _ => .inl ⟨rfl, rfl⟩, fun h => by rw [if_pos rfl] at h; cases h⟩
    | false => exact ⟨fun h => (by rw [if_neg Bool.false_ne_true] at h; cases h), fun _ => .inl ⟨rfl, rfl⟩⟩
  | s :: r, lv, op, nm, k => by
    have sign : ∀ {lv' : Nat} {op' : Bool}, (s = "(" ∨ s = ")") → (wr r lv' op' false (k + 1) = .half → ∃ l' x, s :: r = l' ++ [x] ∧ x ≠ "(" ∧ x ≠ ")") ∧ (wr r lv' op' false (k + 1) = .ok → ∃ l' x, s :: r = l' ++ [x] ∧ (x = "(" ∨ x = ")")) := fun {lv' op'} hs => by
      obtain ⟨h1, h2⟩ := wr_last r lv' op' false (k + 1)
      refine ⟨fun h => ?_, fun h => ?_⟩
      · rcases h1 h with ⟨_, z⟩ | ⟨l', x, rfl, hx⟩
        · cases z
        · exact ⟨s :: l', x, rfl, hx⟩
      · rcases h2 h with ⟨rfl, _⟩ | ⟨l', x, rfl, hx⟩
        · exact ⟨[], s, rfl, hs⟩
        · exact ⟨s :: l', x, rfl, hx⟩
    unfold wr
    by_cases hn : nm = true
    · rw [if_pos hn]
      by_cases h1 : s = "("
      · rw [if_pos h1]
        exact ⟨fun h => .inr ((sign (.inl h1)).1 h), fun h => .inr ((sign (.inl h1)).2 h)⟩
      · rw [if_neg h1]
        exact ⟨fun h => (by cases h), fun h => (by cases h)⟩
    · rw [if_neg hn]
      by_cases h2 : s = ")"
      · rw [if_pos h2]
        by_cases h0 : lv = 0
        · rw [if_pos h0]; exact ⟨fun h => (by cases h), fun h => (by cases h)⟩
        · rw [if_neg h0]
          exact ⟨fun h => .inr ((sign (.inr h2)).1 h), fun h => .inr ((sign (.inr h2)).2 h)⟩
      · rw [if_neg h2]
        by_cases h3 : s = "(" ∨ (op = true ∧ lv = 0) ∨ 8 < s.length
        · rw [if_pos h3]; exact ⟨fun h => (by cases h), fun h => (by cases h)⟩
        · rw [if_neg h3]
          obtain ⟨g1, g2⟩ := wr_last r lv op true (k + 1)
          refine ⟨fun h => .inr ?_, fun h => .inr ?_⟩
          · rcases g1 h with ⟨rfl, _⟩ | ⟨l', x, rfl, hx⟩
            · exact ⟨[], s, rfl, fun z => h3 (.inl z), h2⟩
            · exact ⟨s :: l', x, rfl, hx⟩
          · rcases g2 h with ⟨_, z⟩ | ⟨l', x, rfl, hx⟩
            · cases z
            · exact ⟨s :: l', x, rfl, hx⟩
def badT (s : String) : Bool := decide (s ∈ ["-", "=", "A", "7"])
def fstB : List String → Nat → Option Nat
  | [], _ => none
  | s :: r, k => if badT s = true then some k else fstB r (k + 1)
def dueE (l : List String) (pl : List Nat) (n : Nat) : String × Nat := match fstB l 0 with
  | some k => ("unknown character", pl.getD k 0)
  | none => match wr l 0 false false 0 with
    | .bad k => ("unexpected token", pl.getD k 0)
    | .half => ("unexpected end", n)
    | .ok => ("events", 0)
namespace K42
def wrD : Wr → D
  | .bad k => .int (k : Int) | _ => .int (-1)
def spFw : Spec := fun ds M Q _ => ∃ l, ds = [.lst (sts l)] ∧ l.length ≤ 1000 ∧ (∀ s ∈ l, s.length ≤ 1000) ∧ Q (wrD (wr l 0 false false 0)) M
theorem h_first_wrong : ∀ ds M Q E, ds.length = 1 → spFw ds M Q E → dSs E c_law_first_wrong { nx := fun _ M' => Q .non M', rt := Q } (startD n_law_first_wrong.length ds) M := by
  rintro ds M Q E hl ⟨l, rfl, hll, hsl, q⟩
  show dSs E c_law_first_wrong _ [some (.lst (sts l)), none, none, none, none, none, none] M
  unfold c_law_first_wrong
  have ll : line = 16777216 := rfl
  simp only [dSs, dS, dT, dE, dEs, dTO, dTA, dAnd, dOr, dIt, dIf, gTg, gTgs, wipeD, List.map_cons, List.map_nil, List.set_cons_zero, List.set_cons_succ, bne_self, Bool.not_true, Bool.not_false, Bool.or_false, Bool.false_or, Bool.or_true, Bool.true_or, decide_true, decide_false, and_true, true_and, rdA, sts_len]
  refine ⟨⟨by omega, by omega⟩, by omega, ?_⟩
  refine forGo_inv (fun j σ M' => ∃ (lv : Nat) (op nm : Bool) (o4 o5 o6 : Option D), M' = M ∧ σ = [some (.lst (sts l)), some (.int (lv : Int)), some (.bl op), some (.bl nm), o4, o5, o6] ∧ wr l 0 false false 0 = wr (l.drop j) lv op nm j) _ (fun _ _ _ _ => trivial) ?_ ?_ ?_
  · rintro j x σ M2 nx hx ⟨lv, op, nm, o4, o5, o6, rfl, rfl, hw⟩ hn
    obtain ⟨hj, rfl⟩ := rng_at hx
    obtain ⟨s, hs⟩ : ∃ s, l[j]? = some s := ⟨_, List.getElem?_eq_getElem hj⟩
    have hs8 := hsl s (List.mem_of_getElem? hs)
    have hd : l.drop j = s :: l.drop (j + 1) := by rw [List.drop_eq_getElem_cons hj, (List.getElem?_eq_some_iff.mp hs).2]
    rw [hd] at hw
    have step : ∀ (lv' : Nat) (op' nm' : Bool) (o4 o5 o6 : Option D), wr (s :: l.drop (j + 1)) lv op nm j = wr (l.drop (j + 1)) lv' op' nm' (j + 1) → nx [some (.lst (sts l)), some (.int (lv' : Int)), some (.bl op'), some (.bl nm'), o4, o5, o6] M2 := fun lv' op' nm' o4 o5 o6 h => hn _ _ ⟨lv', op', nm', o4, o5, o6, rfl, rfl, hw.trans h⟩
    have bad : wr (s :: l.drop (j + 1)) lv op nm j = .bad j → Q (.int (j : Int)) M2 := fun h => by
      rw [hw, h] at q; exact q
    simp only [dSs, dS, dT, dE, dEs, dTO, dTA, dAnd, dOr, dIt, dIf, gTg, gTgs, wipeD, List.map_cons, List.map_nil, List.set_cons_zero, List.set_cons_succ, bne_self, Bool.not_true, Bool.not_false, Bool.or_false, Bool.false_or, Bool.or_true, Bool.true_or, decide_true, decide_false, and_true, true_and, rdA, st_at hs]
    have named_ : nm = true → ∀ o6 : Option D, (match !decide (s = "(") with
        | true => Q (.int (j : Int)) M2
        | false => nx [some (.lst (sts l)), some (.int ((lv : Int) + 1)), some (.bl true), some (.bl false), some (.int (j : Int)), some (.str s), o6] M2) := fun en o6 => by
      subst en
      by_cases e1 : s = "("
      · rw [decide_eq_true e1]
        refine step (lv + 1) true false _ _ _ ?_
        show (if true = true then (if s = "(" then _ else _) else _) = _
        rw [if_pos rfl, if_pos e1]
      · rw [decide_eq_false e1]
        refine bad ?_
        show (if true = true then (if s = "(" then _ else _) else _) = _
        rw [if_pos rfl, if_neg e1]
    have free_ : nm = false → ∀ (w : Bool) (o6 : Option D), w = (op && decide (lv = 0)) → (match decide (s = ")") with
        | true => (match decide ((lv : Int) = 0) with
          | true => Q (.int (j : Int)) M2
          | false => nx [some (.lst (sts l)), some (.int ((lv : Int) - 1)), some (.bl op), some (.bl false), some (.int (j : Int)), some (.str s), o6] M2)
        | false => (match decide (s = "(") with
          | true => Q (.int (j : Int)) M2
          | false => (match w with
            | true => Q (.int (j : Int)) M2
            | false => s.length ≤ line ∧ (match decide ((8 : Int) < (s.length : Int)) with
              | true => Q (.int (j : Int)) M2
              | false => nx [some (.lst (sts l)), some (.int (lv : Int)), some (.bl op), some (.bl true), some (.int (j : Int)), some (.str s), o6] M2)))) := fun en w o6 ew => by
      subst en
      have go : wr (s :: l.drop (j + 1)) lv op false j = (if s = ")" then (if lv = 0 then .bad j else wr (l.drop (j + 1)) (lv - 1) op false (j + 1)) else if s = "(" ∨ (op = true ∧ lv = 0) ∨ 8 < s.length then .bad j else wr (l.drop (j + 1)) lv op true (j + 1)) := by
        show (if false = true then _ else _) = _
        rw [if_neg Bool.false_ne_true]
      by_cases e2 : s = ")"
      · rw [decide_eq_true e2]
        rw [if_pos e2] at go
        by_cases h0 : lv = 0
        · rw [decide_eq_true (show ((lv : Int) = 0) by omega)]
          exact bad (by rw [go, if_pos h0])
        · rw [decide_eq_false (show ¬ ((lv : Int) = 0) by omega)]
          rw [if_neg h0] at go
          have := step (lv - 1) op false (some (.int (j : Int))) (some (.str s)) o6 go
          rw [show ((lv - 1 : Nat) : Int) = (lv : Int) - 1 by omega] at this
          exact this
      · rw [decide_eq_false e2]
        rw [if_neg e2] at go
        by_cases e1 : s = "("
        · rw [decide_eq_true e1]
          exact bad (by rw [go, if_pos (.inl e1)])
        · rw [decide_eq_false e1]
          cases w with
          | true =>
            have h := ew.symm
            rw [Bool.and_eq_true, decide_eq_true_iff] at h
            exact bad (by rw [go, if_pos (.inr (.inl h))])
          | false =>
            have h := ew.symm
            refine ⟨by omega, ?_⟩
            by_cases e8 : 8 < s.length
            · rw [decide_eq_true (show (8 : Int) < (s.length : Int) by omega)]
              exact bad (by rw [go, if_pos (.inr (.inr e8))])
            · rw [decide_eq_false (show ¬ (8 : Int) < (s.length : Int) by omega)]
              refine step lv op true _ _ _ (go.trans (if_neg ?_))
              rintro (z | ⟨z1, z2⟩ | z)
              · exact e1 z
              · rw [z1, decide_eq_true z2] at h; cases h
              · exact e8 z
    cases op with
    | false =>
      cases nm with
      | true => exact named_ rfl (some (.bl false))
      | false => exact free_ rfl false (some (.bl false)) rfl
    | true =>
      by_cases h0 : lv = 0
      · rw [decide_eq_true (show ((lv : Int) = 0) by omega)]
        rw [decide_eq_true (show ((lv : Int) = 0) by omega)] at free_
        cases nm with
        | true => exact named_ rfl (some (.bl false))
        | false => exact free_ rfl true (some (.bl true)) (by rw [decide_eq_true h0]; rfl)
      · rw [decide_eq_false (show ¬ ((lv : Int) = 0) by omega)]
        rw [decide_eq_false (show ¬ ((lv : Int) = 0) by omega)] at free_
        cases nm with
        | true => exact named_ rfl (some (.bl false))
        | false => exact free_ rfl false (some (.bl false)) (by rw [decide_eq_false h0]; rfl)
  · exact ⟨0, false, false, none, none, none, rfl, rfl, rfl⟩
  · rintro σ M2 ⟨lv, op, nm, o4, o5, o6, rfl, rfl, hw⟩
    have hlen : (rngD 0 (l.length : Int)).length = l.length := rng_len _
    rw [hlen, List.drop_length] at hw
    try simp only [dSs, dS, dT, dE, dEs, dTO, dTA, dAnd, dOr, dIt, dIf, gTg, gTgs, wipeD, List.map_cons, List.map_nil, List.set_cons_zero, List.set_cons_succ, bne_self, Bool.not_true, Bool.not_false, Bool.or_false, Bool.false_or, Bool.or_true, Bool.true_or, decide_true, decide_false, and_true, true_and, rdA]
    have hw : wr l 0 false false 0 = if nm = true then .half else .ok := hw
    rw [hw] at q
    cases nm with
    | true => exact q
    | false => exact q
theorem fst_drop {l : List String} {j : Nat} {s : String} (h : l[j]? = some s) : fstB (l.drop j) j = if badT s = true then some j else fstB (l.drop (j + 1)) (j + 1) := by
  obtain ⟨hj, e⟩ := List.getElem?_eq_some_iff.mp h
  rw [List.drop_eq_getElem_cons hj, e]
  rfl
def spDue : Spec := fun ds M Q _ => ∃ l t q pl, ds = [.lst (sts l), .str t, .ptr q] ∧ l.length ≤ 1000 ∧ (∀ s ∈ l, s.length ≤ 1000) ∧ t.length ≤ 100000 ∧ M q = some (.lst (intsD pl)) ∧ pl.length = l.length ∧ Q (.tup [.str (dueE l pl t.length).1, .int ((dueE l pl t.length).2 : Nat)]) M
theorem h_due : ∀ ds M Q E, ds.length = 3 → spDue ds M Q E → dSs E (c_law_due spFw) { nx := fun _ M' => Q .non M', rt := Q } (startD n_law_due.length ds) M := by
  rintro ds M Q E hl ⟨l, t, q0, pl, rfl, hll, hsl, ht, hq0, hpl, q⟩
  show dSs E (c_law_due spFw) _ [some (.lst (sts l)), some (.str t), some (.ptr q0), none, none] M
  unfold c_law_due
  have ll : line = 16777216 := rfl
  have pl_at : ∀ {k : Nat} {Q : DK}, k < l.length → wIx (.ptr q0) (.int (k : Int)) M Q = Q (.int (pl.getD k 0 : Nat)) M := fun {k Q} hk => by
    have hk2 : k < pl.length := by omega
    rw [w_ixP hq0 (atI_natD (k := k) (x := .int (pl[k] : Nat)) (by unfold intsD; rw [List.getElem?_map, List.getElem?_eq_getElem hk2]; rfl)), List.getD_eq_getElem?_getD, List.getElem?_eq_getElem hk2]; rfl
  simp only [dSs, dS, dT, dE, dEs, dTO, dTA, dAnd, dOr, dIt, dIf, gTg, gTgs, wipeD, List.map_cons, List.map_nil, List.set_cons_zero, List.set_cons_succ, bne_self, Bool.not_true, Bool.not_false, Bool.or_false, Bool.false_or, Bool.or_true, Bool.true_or, decide_true, decide_false, and_true, true_and, rdA, sts_len]
  refine ⟨⟨by omega, by omega⟩, by omega, ?_⟩
  refine forGo_inv (fun j σ M' => ∃ (o3 o4 : Option D), M' = M ∧ σ = [some (.lst (sts l)), some (.str t), some (.ptr q0), o3, o4] ∧ fstB l 0 = fstB (l.drop j) j) _ (fun _ _ _ _ => trivial) ?_ ?_ ?_
  · rintro j x σ M2 nx hx ⟨o3, o4, rfl, rfl, hf⟩ hn
    obtain ⟨hj, rfl⟩ := rng_at hx
    obtain ⟨s, hs⟩ : ∃ s, l[j]? = some s := ⟨_, List.getElem?_eq_getElem hj⟩
    rw [fst_drop hs] at hf
    simp only [dSs, dS, dT, dE, dEs, dTO, dTA, dAnd, dOr, dIt, dIf, gTg, gTgs, wipeD, List.map_cons, List.map_nil, List.set_cons_zero, List.set_cons_succ, bne_self, Bool.not_true, Bool.not_false, Bool.or_false, Bool.false_or, Bool.or_true, Bool.true_or, decide_true, decide_false, and_true, true_and, rdA, st_at hs]
    have ei : ∀ (QQ : DK), wCmp .in_ (.str s) (.tup [.str "-", .str "=", .str "A", .str "7"]) M2 QQ = QQ (.bl (badT s)) M2 := fun QQ => in_strs (s := s) (M := M2) (P := fun b => QQ (.bl b) M2) ["-", "=", "A", "7"]
    simp only [ei, dSs, dS, dT, dE, dEs, dTO, dTA, dAnd, dOr, dIt, dIf, gTg, gTgs, wipeD, List.map_cons, List.map_nil, List.set_cons_zero, List.set_cons_succ, bne_self, Bool.not_true, Bool.not_false, Bool.or_false, Bool.false_or, Bool.or_true, Bool.true_or, decide_true, decide_false, and_true, true_and, rdA]
    cases hb : badT s with
    | true =>
      rw [hb, if_pos rfl] at hf
      simp only [dSs, dS, dT, dE, dEs, dTO, dTA, dAnd, dOr, dIt, dIf, gTg, gTgs, wipeD, List.map_cons, List.map_nil, List.set_cons_zero, List.set_cons_succ, bne_self, Bool.not_true, Bool.not_false, Bool.or_false, Bool.false_or, Bool.or_true, Bool.true_or, decide_true, decide_false, and_true, true_and, rdA, pl_at hj]
      unfold dueE at q
      rw [hf] at q
      exact q
    | false =>
      rw [hb, if_neg Bool.false_ne_true] at hf
      exact hn _ _ ⟨_, _, rfl, rfl, hf⟩
  · exact ⟨none, none, rfl, rfl, rfl⟩
  · rintro σ M2 ⟨o3, o4, rfl, rfl, hf⟩
    have hlen : (rngD 0 (l.length : Int)).length = l.length := rng_len _
    rw [hlen, List.drop_length] at hf
    have hf : fstB l 0 = none := hf
    unfold dueE at q
    rw [hf] at q
    try simp only [dSs, dS, dT, dE, dEs, dTO, dTA, dAnd, dOr, dIt, dIf, gTg, gTgs, wipeD, List.map_cons, List.map_nil, List.set_cons_zero, List.set_cons_succ, bne_self, Bool.not_true, Bool.not_false, Bool.or_false, Bool.false_or, Bool.or_true, Bool.true_or, decide_true, decide_false, and_true, true_and, rdA]
    refine ⟨l, rfl, hll, hsl, ?_⟩
    obtain ⟨w1, w2⟩ := wr_last l 0 false false 0
    have wl : ∀ k, wr l 0 false false 0 = .bad k → k < l.length := by
      have gen : ∀ (l : List String) (lv : Nat) (op nm : Bool) (k k' : Nat), wr l lv op nm k = .bad k' → k' < k + l.length := by
        intro l
        induction l with
        | nil => intro lv op nm k k' h; unfold wr at h; split at h <;> cases h
        | cons s r ih =>
          intro lv op nm k k' h
          rw [List.length_cons]
          unfold wr at h
          split at h
          · split at h
            · have := ih _ _ _ _ _ h; omega
            · cases h; omega
          · split at h
            · split at h
              · cases h; omega
              · have := ih _ _ _ _ _ h; omega
            · split at h
              · cases h; omega
              · have := ih _ _ _ _ _ h; omega
      intro k h
      have := gen l 0 false false 0 k h
      omega
    cases hw : wr l 0 false false 0 with
    | bad k =>
      rw [hw] at q
      simp only [dSs, dS, dT, dE, dEs, dTO, dTA, dAnd, dOr, dIt, dIf, gTg, gTgs, wipeD, List.map_cons, List.map_nil, List.set_cons_zero, List.set_cons_succ, bne_self, Bool.not_true, Bool.not_false, Bool.or_false, Bool.false_or, Bool.or_true, Bool.true_or, decide_true, decide_false, and_true, true_and, rdA, wrD]
      rw [decide_eq_true (show (0 : Int) ≤ (k : Int) by omega)]
      simp only [dSs, dS, dT, dE, dEs, dTO, dTA, dAnd, dOr, dIt, dIf, gTg, gTgs, wipeD, List.map_cons, List.map_nil, List.set_cons_zero, List.set_cons_succ, bne_self, Bool.not_true, Bool.not_false, Bool.or_false, Bool.false_or, Bool.or_true, Bool.true_or, decide_true, decide_false, and_true, true_and, rdA, pl_at (wl k hw)]
      exact q
    | half =>
      rw [hw] at q
      simp only [dSs, dS, dT, dE, dEs, dTO, dTA, dAnd, dOr, dIt, dIf, gTg, gTgs, wipeD, List.map_cons, List.map_nil, List.set_cons_zero, List.set_cons_succ, bne_self, Bool.not_true, Bool.not_false, Bool.or_false, Bool.false_or, Bool.or_true, Bool.true_or, decide_true, decide_false, and_true, true_and, rdA, wrD]
      rw [decide_eq_false (show ¬ (0 : Int) ≤ -1 by decide)]
      rcases w1 hw with ⟨_, z⟩ | ⟨l', s, rfl, z1, z2⟩
      · cases z
      · have e1 : sts (l' ++ [s]) = sts l' ++ [.str s] := sts_app _ _
        have ni : ∀ (QQ : DK), wCmp .nin (.str s) (.tup [.str "(", .str ")"]) M2 QQ = QQ (.bl (!decide (s ∈ ["(", ")"]))) M2 := fun QQ => in_strs (s := s) (M := M2) (P := fun b => QQ (.bl (!b)) M2) ["(", ")"]
        have hn : decide (s ∈ ["(", ")"]) = false := decide_eq_false (by simp [z1, z2])
        have hne : (!(sts l' ++ [D.str s]).isEmpty) = true := by cases l' <;> rfl
        simp only [dSs, dS, dT, dE, dEs, dTO, dTA, dAnd, dOr, dIt, dIf, gTg, gTgs, wipeD, List.map_cons, List.map_nil, List.set_cons_zero, List.set_cons_succ, bne_self, Bool.not_true, Bool.not_false, Bool.or_false, Bool.false_or, Bool.or_true, Bool.true_or, decide_true, decide_false, and_true, true_and, rdA, e1, hne, w_ixL at_last, ni, hn]
        refine ⟨by omega, ?_⟩
        exact q
    | ok =>
      rw [hw] at q
      simp only [dSs, dS, dT, dE, dEs, dTO, dTA, dAnd, dOr, dIt, dIf, gTg, gTgs, wipeD, List.map_cons, List.map_nil, List.set_cons_zero, List.set_cons_succ, bne_self, Bool.not_true, Bool.not_false, Bool.or_false, Bool.false_or, Bool.or_true, Bool.true_or, decide_true, decide_false, and_true, true_and, rdA, wrD]
      rw [decide_eq_false (show ¬ (0 : Int) ≤ -1 by decide)]
      rcases w2 hw with ⟨rfl, _⟩ | ⟨l', s, rfl, z⟩
      · exact q
      · have e1 : sts (l' ++ [s]) = sts l' ++ [.str s] := sts_app _ _
        have ni : ∀ (QQ : DK), wCmp .nin (.str s) (.tup [.str "(", .str ")"]) M2 QQ = QQ (.bl (!decide (s ∈ ["(", ")"]))) M2 := fun QQ => in_strs (s := s) (M := M2) (P := fun b => QQ (.bl (!b)) M2) ["(", ")"]
        have hn : decide (s ∈ ["(", ")"]) = true := decide_eq_true (by simpa using z)
        have hne : (!(sts l' ++ [D.str s]).isEmpty) = true := by cases l' <;> rfl
        simp only [dSs, dS, dT, dE, dEs, dTO, dTA, dAnd, dOr, dIt, dIf, gTg, gTgs, wipeD, List.map_cons, List.map_nil, List.set_cons_zero, List.set_cons_succ, bne_self, Bool.not_true, Bool.not_false, Bool.or_false, Bool.false_or, Bool.or_true, Bool.true_or, decide_true, decide_false, and_true, true_and, rdA, e1, hne, w_ixL at_last, ni, hn]
        exact q
end K42
end VS
namespace VS
open PySem PySem.Spec PyProof.Rows L2
def evX (l : List String) : List D := match fstB l 0, wr l 0 false false 0 with
  | none, .ok => sts (evS l)
  | _, _ => []
def resE (l : List String) (pl : List Nat) (n : Nat) : D := .tup [.str (dueE l pl n).1, .int ((dueE l pl n).2 : Nat), .lst (evX l)]
theorem fst_none : ∀ {l : List String} {k : Nat}, (∀ s ∈ l, badT s = false) → fstB l k = none
  | [], k, _ => rfl
  | s :: r, k, h => by
    unfold fstB
    rw [h s List.mem_cons_self, if_neg Bool.false_ne_true]
    exact fst_none fun x hx => h x (List.mem_cons_of_mem _ hx)
theorem fst_some : ∀ {d : List String} {s : String} {r : List String} {k : Nat}, (∀ x ∈ d, badT x = false) → badT s = true → fstB (d ++ s :: r) k = some (k + d.length)
  | [], s, r, k, _, hs => by
    show (if badT s = true then some k else _) = _
    rw [if_pos hs]; rfl
  | x :: d, s, r, k, h, hs => by
    show (if badT x = true then some k else fstB (d ++ s :: r) (k + 1)) = _
    rw [h x List.mem_cons_self, if_neg Bool.false_ne_true, fst_some (fun y hy => h y (List.mem_cons_of_mem _ hy)) hs, List.length_cons]
    congr 1; omega
theorem good_tk {t : Tk} (hw : t.w = wordB t.v) (h : t.w = true ∨ ∃ c ∈ sgE, t.v = String.singleton c) : badT t.v = false ∧ (t.w = true ∨ t.v = "(" ∨ t.v = ")") := by
  rcases h with h | ⟨c, hc, h⟩
  · refine ⟨decide_eq_false fun z => ?_, .inl h⟩
    rw [hw] at h
    simp only [List.mem_cons, List.not_mem_nil, or_false] at z
    rcases z with z | z | z | z <;> (rw [z] at h; revert h; decide)
  · simp only [sgE, List.mem_cons, List.not_mem_nil, or_false] at hc
    rcases hc with rfl | rfl
    · rw [h]; exact ⟨by decide, .inr (.inl (by decide))⟩
    · rw [h]; exact ⟨by decide, .inr (.inr (by decide))⟩
theorem bad_tk {t : Tk} (hw : t.w = wordB t.v) (hm : t.v ∈ tkAll) (h0 : t.w = false) (h : ∀ c ∈ sgE, t.v ≠ String.singleton c) : badT t.v = true := by
  rw [hw] at h0
  have n1 : t.v ≠ "(" := h '(' (by decide)
  have n2 : t.v ≠ ")" := h ')' (by decide)
  simp only [tkAll, List.mem_cons, List.not_mem_nil, or_false] at hm
  rcases hm with z | z | z | z | z | z | z | z | z | z
  · rw [z] at h0; exact absurd h0 (by decide)
  · rw [z] at h0; exact absurd h0 (by decide)
  · rw [z] at h0; exact absurd h0 (by decide)
  · exact absurd z n1
  · exact absurd z n2
  · rw [z] at h0; exact absurd h0 (by decide)
  · rw [z]; decide
  · rw [z]; decide
  · rw [z]; decide
  · rw [z]; decide
theorem sgT_E : ∀ c ∈ sgT, c ∈ sgE ∨ (c ∉ sgE ∧ c ≠ ' ' ∧ c ≠ '\n') := by decide
theorem wr_lt : ∀ (l : List String) (lv : Nat) (op nm : Bool) (k k' : Nat), wr l lv op nm k = .bad k' → k' < k + l.length := by
  intro l
  induction l with
  | nil => intro lv op nm k k' h; unfold wr at h; split at h <;> cases h
  | cons s r ih =>
    intro lv op nm k k' h
    rw [List.length_cons]
    unfold wr at h
    split at h
    · split at h
      · have := ih _ _ _ _ _ h; omega
      · cases h; omega
    · split at h
      · split at h
        · cases h; omega
        · have := ih _ _ _ _ _ h; omega
      · split at h
        · cases h; omega
        · have := ih _ _ _ _ _ h; omega
theorem evX_of {l : List String} {pl : List Nat} {n : Nat} (h : (dueE l pl n).1 = "events") : evX l = sts (evS l) := by
  unfold dueE at h
  unfold evX
  cases hf : fstB l 0 with
  | some k => rw [hf] at h; exact absurd (show "unknown character" = "events" from h) (by decide)
  | none =>
    rw [hf] at h
    cases hw : wr l 0 false false 0 with
    | bad k => rw [hw] at h; exact absurd (show "unexpected token" = "events" from h) (by decide)
    | half => rw [hw] at h; exact absurd (show "unexpected end" = "events" from h) (by decide)
    | ok => rfl
def noPar : D → Option D
  | .str s => if s = "(" then none else some (.str s)
  | _ => none
theorem flt_par : ∀ l : List String, (sts l).filterMap noPar = sts (evS l)
  | [] => rfl
  | s :: l => by
    have ih := flt_par l
    show (D.str s :: sts l).filterMap noPar = sts (evS (s :: l))
    by_cases h : s = "("
    · rw [List.filterMap_cons_none (show noPar (.str s) = none from if_pos h), ih]
      unfold evS
      rw [List.filter_cons_of_neg (by simp [h])]
    · rw [List.filterMap_cons_some (show noPar (.str s) = some (.str s) from if_neg h), ih]
      unfold evS
      rw [List.filter_cons_of_pos (by simp [h])]; rfl
namespace K42
def spTold : Spec := fun ds M Q _ => ∃ t l pl, ds = [.str t] ∧ t.length ≤ 100000 ∧ Grown sgT l t pl ∧ TkL l 24 ∧ ∀ M', Dr M M' → Q (resE l pl t.length) M'
theorem err_x {Q : DK} {M : Store} {m : String} {e : Nat} (hm : m.length ≤ 100) (he : e ≤ 100000) (q : Q (.tup [.str m, .int (e : Nat), .lst []]) M) : VX.EX Q "TextError" (errF m e) M :=
  ⟨rfl, m, e, rfl, (small_nat he).1, by omega, (small_nat he).2, q⟩
theorem told_reads : ∀ ds M Q E, ds.length = 1 → spTold ds M Q E → dSs (VX.EX Q) (c_law_told spRe) { nx := fun _ _ => False, rt := Q } (startD n_law_told.length ds) M := by
  rintro ds M Q E hl ⟨t, l, pl, rfl, ht, hg, tk, q⟩
  show dSs (VX.EX Q) (c_law_told spRe) _ [some (.str t), none, none] M
  unfold c_law_told
  have ll : line = 16777216 := rfl
  obtain ⟨ts, lx, ⟨tl, tw⟩, tp⟩ := hg.lex sgT_ok
  have lat := lx.at_lt
  have lv := lx.v_le
  have tlen : t.toList.length = t.length := String.length_toList
  have at_k : ∀ {k : Nat} {x : Tk}, ts[k]? = some x → pl.getD k 0 = x.at_ := fun {k x} h => by
    rw [← tp, List.getD_eq_getElem?_getD, List.getElem?_map, h]; rfl
  simp only [dSs, dS, dT, dE, dEs, dTO, dTA, dAnd, dOr, dIt, dIf, gTg, gTgs, wipeD, List.map_cons, List.map_nil, List.set_cons_zero, List.set_cons_succ, bne_self, Bool.not_true, Bool.not_false, Bool.or_false, Bool.false_or, Bool.or_true, Bool.true_or, decide_true, decide_false, and_true, true_and, rdA]
  rcases Lex.less sgT_E lx with ⟨h1, lx2⟩ | ⟨d, x, r, rfl, h1, h2, h3, lb⟩
  · refine ⟨t, ts, none, rfl, ht, lx2.o, fun e z => (by cases z), fun _ => ⟨⟨ht, fun y hy => by have := lat y hy; omega, fun y hy => by have := lv y hy; omega⟩, fun y hy => ⟨tw y hy, (good_tk (tw y hy) (h1 y hy)).2⟩, ?_⟩⟩
    have f0 : fstB l 0 = none := fst_none fun s hs => by
      rw [← tl] at hs
      obtain ⟨y, hy, rfl⟩ := List.mem_map.mp hs
      exact (good_tk (tw y hy) (h1 y hy)).1
    unfold ResE
    rw [tl]
    unfold resE evX dueE at q
    rw [f0] at q
    cases hw : wr l 0 false false 0 with
    | bad k =>
      rw [hw] at q
      intro M' d'
      cases ek : ts[k]? with
      | none =>
        have h1 := wr_lt l 0 false false 0 k hw
        have h2 := List.getElem?_eq_none_iff.mp ek
        have h3 := congrArg List.length tl
        rw [List.length_map] at h3
        omega
      | some y =>
        have q : ∀ M', Dr M M' → Q (.tup [.str "unexpected token", .int (pl.getD k 0 : Nat), .lst []]) M' := q
        rw [at_k ek] at q
        exact err_x (by decide) (by show y.at_ ≤ 100000; have := lat y (List.mem_of_getElem? ek); omega) (q M' d')
    | half =>
      rw [hw] at q
      exact fun M' d' => err_x (by decide) ht (q M' d')
    | ok =>
      rw [hw] at q
      exact fun M' d' => q M' d'
  · obtain ⟨ts', lo⟩ := lb.o
    refine ⟨t, ts', some x.at_, rfl, ht, lo, fun e z M' d' => ?_, fun z => (by cases z)⟩
    cases z
    have hx : x ∈ d ++ x :: r := List.mem_append_right _ List.mem_cons_self
    have f0 : fstB l 0 = some d.length := by
      rw [← tl, List.map_append, List.map_cons]
      rw [fst_some (k := 0) (fun s hs => ?_) (bad_tk (tw x hx) (tk.mem _ (by rw [← tl]; exact List.mem_map.mpr ⟨x, hx, rfl⟩)) h2 h3), Nat.zero_add, List.length_map]
      obtain ⟨y, hy, rfl⟩ := List.mem_map.mp hs
      exact (good_tk (tw y (List.mem_append_left _ hy)) (h1 y hy)).1
    unfold resE evX dueE at q
    rw [f0] at q
    have e1 : pl.getD d.length 0 = x.at_ := at_k (by simp)
    have q := q M' d'
    rw [← e1]
    refine err_x (by decide) (by rw [e1]; have := lat x hx; omega) q
theorem same_pair {m : String} {a : Int} {M : Store} {Q : DK} {E : XP} (q : Q (.bl true) M) : spSame 3 [.tup [.str m, .int a], .tup [.str m, .int a]] M Q E := ⟨_, rfl, by
  show (decide (2 ≤ line) && (true && (true && true))) = true
  decide, q⟩
theorem same_sts {l : List String} {M : Store} {Q : DK} {E : XP} (h : l.length ≤ 1000) (q : Q (.bl true) M) : spSame 3 [.lst (sts l), .lst (sts l)] M Q E := ⟨_, rfl, by
  have ll : line = 16777216 := rfl
  show (decide ((sts l).length ≤ line) && (sts l).all (plainD 2)) = true
  rw [sts_len, decide_eq_true (show l.length ≤ line by omega), Bool.true_and, List.all_eq_true]
  intro x hx
  obtain ⟨s, _, rfl⟩ := List.mem_map.mp hx
  rfl, q⟩
theorem h_law : ∀ ds M Q E, ds.length = 1 → spLaw ds M Q E → dSs E (c_law spTk (spText sgT) spDue spTold (spSame 3) spDraw) { nx := fun _ M' => Q .non M', rt := Q } (startD n_law.length ds) M := by
  rintro ds M Q E hl ⟨ns, rfl, h63, q⟩
  show dSs E (c_law _ _ _ _ _ _) _ [some (.scr ns), none, none, none, none, none, none, none, none] M
  unfold c_law
  have ll : line = 16777216 := rfl
  simp only [dSs, dS, dT, dE, dEs, dTO, dTA, dAnd, dOr, dIt, dIf, gTg, gTgs, wipeD, List.map_cons, List.map_nil, List.set_cons_zero, List.set_cons_succ, bne_self, Bool.not_true, Bool.not_false, Bool.or_false, Bool.false_or, Bool.or_true, Bool.true_or, decide_true, decide_false, and_true, true_and, rdA]
  refine ⟨ns, rfl, h63, fun d M1 _ _ hd1 => ?_⟩
  refine ⟨⟨by decide, by decide⟩, by decide, ?_⟩
  refine forGo_inv (fun j σ M' => ∃ o2 o3 o4 o5 o6 o7 o8 : Option D, σ = [some (.scr ns), some (.ptr d), o2, o3, o4, o5, o6, o7, o8] ∧ DrawAt M' d) _ (fun _ _ _ _ => trivial) ?_ ?_ ?_
  · rintro j x σ M2 nx hx ⟨o2, o3, o4, o5, o6, o7, o8, rfl, hd2⟩ hn
    simp only [dSs, dS, dT, dE, dEs, dTO, dTA, dAnd, dOr, dIt, dIf, gTg, gTgs, wipeD, List.map_cons, List.map_nil, List.set_cons_zero, List.set_cons_succ, bne_self, Bool.not_true, Bool.not_false, Bool.or_false, Bool.false_or, Bool.or_true, Bool.true_or, decide_true, decide_false, and_true, true_and, rdA]
    refine ⟨d, rfl, hd2, fun l M3 gr3 tk => ?_⟩
    have tok : ∀ s ∈ l, tok8 sgT s = true := fun s hs => tkAll_ok s (tk.mem s hs)
    have t12 : ∀ s ∈ l, s.length ≤ 1000 := fun s hs => by
      obtain ⟨_, z⟩ := and_of (tok s hs)
      have := of_decide_eq_true z
      omega
    have hl24 := tk.len
    simp only [dSs, dS, dT, dE, dEs, dTO, dTA, dAnd, dOr, dIt, dIf, gTg, gTgs, wipeD, List.map_cons, List.map_nil, List.set_cons_zero, List.set_cons_succ, bne_self, Bool.not_true, Bool.not_false, Bool.or_false, Bool.false_or, Bool.or_true, Bool.true_or, decide_true, decide_false, and_true, true_and, rdA]
    refine ⟨d, l, rfl, gr3.1, tok, by omega, fun t p pl M4 gr4 hg lt hp hp0 => ?_⟩
    simp only [dSs, dS, dT, dE, dEs, dTO, dTA, dAnd, dOr, dIt, dIf, gTg, gTgs, wipeD, List.map_cons, List.map_nil, List.set_cons_zero, List.set_cons_succ, bne_self, Bool.not_true, Bool.not_false, Bool.or_false, Bool.false_or, Bool.or_true, Bool.true_or, decide_true, decide_false, and_true, true_and, rdA]
    have pll : pl.length = l.length := by
      obtain ⟨ts, _, ⟨e1, _⟩, e2⟩ := hg.lex sgT_ok
      rw [← e1, ← e2, List.length_map, List.length_map]
    refine ⟨l, t, p, pl, rfl, by omega, t12, by omega, hp, pll, ?_⟩
    simp only [dSs, dS, dT, dE, dEs, dTO, dTA, dAnd, dOr, dIt, dIf, gTg, gTgs, wipeD, List.map_cons, List.map_nil, List.set_cons_zero, List.set_cons_succ, bne_self, Bool.not_true, Bool.not_false, Bool.or_false, Bool.false_or, Bool.or_true, Bool.true_or, decide_true, decide_false, and_true, true_and, rdA]
    refine ⟨t, l, pl, rfl, by omega, hg, tk, fun M5 d5 => ?_⟩
    have hd5 : DrawAt M5 d := d5.draw gr4.1
    unfold resE
    simp only [dSs, dS, dT, dE, dEs, dTO, dTA, dAnd, dOr, dIt, dIf, gTg, gTgs, wipeD, List.map_cons, List.map_nil, List.set_cons_zero, List.set_cons_succ, bne_self, Bool.not_true, Bool.not_false, Bool.or_false, Bool.false_or, Bool.or_true, Bool.true_or, decide_true, decide_false, and_true, true_and, rdA, optI_f, optI_t]
    have ec : ∀ a b c : D, cutD [a, b, c] none (some 2) = [a, b] := fun _ _ _ => rfl
    have wst : ∀ {xs : List D} {lo hi : Option Int} {M : Store} {Q : DK}, wSl (.tup xs) lo hi M Q = Q (.tup (cutD xs lo hi)) M := rfl
    rw [wst, ec]
    refine same_pair ?_
    have fin : ∀ (M' : Store) (o8 : Option D), M' = M5 → nx [some (.scr ns), some (.ptr d), some x, some (.lst (sts l)), some (.str t), some (.ptr p), some (.tup [.str (dueE l pl t.length).1, .int ((dueE l pl t.length).2 : Nat)]), some (.tup [.str (dueE l pl t.length).1, .int ((dueE l pl t.length).2 : Nat), .lst (evX l)]), o8] M' := fun M' o8 e => by
      subst e; exact hn _ _ ⟨_, _, _, _, _, _, _, rfl, hd5⟩
    simp only [dSs, dS, dT, dE, dEs, dTO, dTA, dAnd, dOr, dIt, dIf, gTg, gTgs, wipeD, List.map_cons, List.map_nil, List.set_cons_zero, List.set_cons_succ, bne_self, Bool.not_true, Bool.not_false, Bool.or_false, Bool.false_or, Bool.or_true, Bool.true_or, decide_true, decide_false, and_true, true_and, rdA, w_ixT at_0]
    by_cases hev : (dueE l pl t.length).1 = "events"
    · rw [decide_eq_true hev]
      simp only [dSs, dS, dT, dE, dEs, dTO, dTA, dAnd, dOr, dIt, dIf, gTg, gTgs, wipeD, List.map_cons, List.map_nil, List.set_cons_zero, List.set_cons_succ, bne_self, Bool.not_true, Bool.not_false, Bool.or_false, Bool.false_or, Bool.or_true, Bool.true_or, decide_true, decide_false, and_true, true_and, rdA, w_ixT at_2, it_L]
      refine lcGo_map (fun M' => M' = M5) noPar (fun _ _ => trivial) _ _ M5 _ (fun y hy M' k e hk => ?_) rfl fun M' e => ?_
      · subst e
        obtain ⟨s, _, rfl⟩ := List.mem_map.mp hy
        have hk := hk _ rfl
        simp only [dSs, dS, dT, dE, dEs, dTO, dTA, dAnd, dOr, dIt, dIf, gTg, gTgs, wipeD, List.map_cons, List.map_nil, List.set_cons_zero, List.set_cons_succ, bne_self, Bool.not_true, Bool.not_false, Bool.or_false, Bool.false_or, Bool.or_true, Bool.true_or, decide_true, decide_false, and_true, true_and, rdA]
        by_cases h : s = "("
        · rw [decide_eq_true h]
          rw [show noPar (.str s) = none from if_pos h] at hk
          exact hk
        · rw [decide_eq_false h]
          rw [show noPar (.str s) = some (.str s) from if_neg h] at hk
          exact hk
      · subst e
        rw [List.nil_append, flt_par, evX_of hev]
        refine .inl (same_sts ?_ ?_)
        · exact Nat.le_trans (List.length_filter_le _ _) (by omega)
        · simp only [dSs, dS, dT, dE, dEs, dTO, dTA, dAnd, dOr, dIt, dIf, gTg, gTgs, wipeD, List.map_cons, List.map_nil, List.set_cons_zero, List.set_cons_succ, bne_self, Bool.not_true, Bool.not_false, Bool.or_false, Bool.false_or, Bool.or_true, Bool.true_or, decide_true, decide_false, and_true, true_and, rdA]
          rw [← evX_of hev]
          exact fin _ _ rfl
    · rw [decide_eq_false hev]
      exact fin _ _ rfl
  · exact ⟨none, none, none, none, none, none, none, rfl, hd1⟩
  · rintro σ M2 ⟨o2, o3, o4, o5, o6, o7, o8, rfl, hd2⟩
    exact q M2
end K42
end VS
namespace VS
open PySem PySem.Spec PyProof.Rows L2
theorem ex_for {G : Glob} {x : String} {D fI : Addr} {fd : FuncData} {st : Stmt} {qual : Str} (T : IniText st) (Z : IniAt G.prog G.K D fI fd st qual) (hm : G.mg (Str.ofString x) = some (.ref D)) (iC : PySem.W.findIn G.K (.ref D) "__init__" = some (some (.ref fI))) (tI : PySem.W.typeIn G.K (.ref fI) = some (.type "function"))
    (hs : G.mg "super" = none) (hb : Binds G.K fd ["self", "place", "message"] []) : VX.ExFor G x := ⟨D, fI, fd, hm, Z.cls, iC, tI, VX.ini_t T Z hs, hb⟩
theorem exm_self {K : PySem.W.Frag} {C : Addr} (T : OexC K C) (x : PySem.W.subIn K (.ref C) (.ref C) = some true) : (PySem.W.clsIn K C).isSome = true ∧ PySem.W.exmOne K (.ref C) (.ref C) = some true := by
  obtain ⟨nm, q, N, bs, bm, sn, sub, ab, col, dd, k0, k1, k2, k3, k5, hC, hbm⟩ := T.cls
  have hcl : PySem.W.clsIn K C = some { name := nm, bases := bs, mro := .ref C :: bm, ns := N, qualname := q, hasDict := true, slotNames := sn, subclasses := sub, abstract := ab, collection := col, hasDel := false } := by unfold PySem.W.clsIn; rw [hC] <;> rfl
  refine ⟨by rw [hcl]; rfl, ?_⟩
  unfold PySem.W.exmOne
  rw [T.exC, if_pos (by decide)]
  show (if ((PySem.W.clsIn K C).isSome && PySem.W.typeIn K (.ref C) == some (.type "type")) = true then PySem.W.subIn K (.ref C) (.ref C) else none) = some true
  rw [hcl, T.tyC, x]
  exact if_pos rfl
namespace K42
abbrev s_ti : PySem.Stmt := L2.inClass (top 3) 0
theorem ti_text : IniText s_ti where
  body := ⟨_, _, _, _, _, _, _, _, _, _, _, _, _, _, _, _, _, _, _, _, rfl, fun env => ⟨_, rfl⟩⟩
  kind := by decide +kernel
  co := by decide +kernel
  gen := by decide +kernel
  nocell := by decide +kernel
  onefree := by decide +kernel
  lS := by decide +kernel
  lP := by decide +kernel
  lM := by decide +kernel
  gS := by decide +kernel
  fC := by decide +kernel
  arg := by decide +kernel
theorem told_text : VX.ToldText s_law_told (tryB s_law_told) := ⟨⟨_, _, _, _, _, _, _, _, _, _, _, _, _, _, _, _, _, _, _, _, _, _, _, _, _, _, _, _, _, _, _, _, _, _, _, _, rfl⟩⟩
theorem f_told {G : Glob} {k : Nat} {f : Addr} {fd : FuncData} {D S : Addr} {p : Spec} (d : DefAt G "_law_told" s_law_told ["_law_text_here"] f fd) (Hd : VX.HdFor G D S) (ok : okSs G k (c_law_told p)) {sp : Spec}
    (hsp : ∀ ds M Q E, ds.length = 1 → sp ds M Q E → dSs (VX.EX Q) (c_law_told p) { nx := fun _ _ => False, rt := Q } (startD n_law_told.length ds) M) : FnFor G (k + 1) "_law_told" 1 sp :=
  d.at (VX.told_ok (c_law_told p) d.fn sc_law_told told_text (by decide +kernel) (by decide +kernel) (by decide +kernel) (by decide +kernel) (by decide +kernel) (by decide +kernel) Hd (m_law_told p) ok hsp)
end K42
end VS
namespace VS
open PySem PySem.Spec PyProof.Rows L2
namespace K42
structure Bs (G : Glob) : Prop where
  len : noB G "len"
  list : noB G "list"
  tuple : noB G "tuple"
  range : noB G "range"
  abs : noB G "abs"
  int : noB G "int"
  isi : noB G "isinstance"
  all : noB G "all"
  str : noB G "str"
  bool : noB G "bool"
section
variable {G : Glob} (B : Bs G)
structure Ds (G : Glob) : Prop where
  d_is_letter : ∃ f fd, DefAt G "is_letter" s_is_letter ["char"] f fd
  d_word_end : ∃ f fd, DefAt G "word_end" s_word_end ["text", "start"] f fd
  d_tokens : ∃ f fd, DefAt G "tokens" s_tokens ["text", "signs"] f fd
  d_Reader___init__ : ∃ C f fd, InitAt G "Reader" s_Reader___init__ ["self", "text", "signs"] C f fd
  d_Reader_kind : ∃ C f fd, MethAt G "Reader" "kind" s_Reader_kind ["self"] C f fd
  d_Reader_value : ∃ C f fd, MethAt G "Reader" "value" s_Reader_value ["self"] C f fd
  d_Reader_spot : ∃ C f fd, MethAt G "Reader" "spot" s_Reader_spot ["self"] C f fd
  d_Reader_fail : ∃ C f fd, MethAt G "Reader" "fail" s_Reader_fail ["self"] C f fd
  d_Reader_is_sign : ∃ C f fd, MethAt G "Reader" "is_sign" s_Reader_is_sign ["self", "sign"] C f fd
  d_Reader_accept : ∃ C f fd, MethAt G "Reader" "accept" s_Reader_accept ["self", "sign"] C f fd
  d_Reader_need : ∃ C f fd, MethAt G "Reader" "need" s_Reader_need ["self", "sign"] C f fd
  d_Reader_name : ∃ C f fd, MethAt G "Reader" "name" s_Reader_name ["self"] C f fd
  d_read_events : ∃ f fd, DefAt G "read_events" s_read_events ["text"] f fd
  d_law_draw : ∃ f fd, DefAt G "_law_draw" s_law_draw ["_law_script"] f fd
  d_law_next : ∃ f fd, DefAt G "_law_next" s_law_next ["_law_draw_here", "_law_many"] f fd
  d_law_same : ∃ f fd, DefAt G "_law_same" s_law_same ["_law_actual", "_law_due_here"] f fd
  d_law_tokens : ∃ f fd, DefAt G "_law_tokens" s_law_tokens ["_law_draw_here"] f fd
  d_law_text : ∃ f fd, DefAt G "_law_text" s_law_text ["_law_draw_here", "_law_tokens_here"] f fd
  d_law_first_wrong : ∃ f fd, DefAt G "_law_first_wrong" s_law_first_wrong ["_law_tokens_here"] f fd
  d_law_due : ∃ f fd, DefAt G "_law_due" s_law_due ["_law_tokens_here", "_law_text_here", "_law_places"] f fd
  d_law_told : ∃ f fd, DefAt G "_law_told" s_law_told ["_law_text_here"] f fd
  d_law : ∃ f fd, DefAt G "law" s_law ["_law_script"] f fd
  a_Reader_size : AttrF G "Reader" "size"
  a_Reader_parts : AttrF G "Reader" "parts"
  a_Reader_taken : AttrF G "Reader" "taken"
  g_END : GlobF G "END" g_END
  g_NAME_MOST : GlobF G "NAME_MOST" g_NAME_MOST
  ex : VX.ExFor G "TextError"
  hd : ∃ D S, VX.HdFor G D S
variable (D0 : Ds G)
include B D0
theorem f_is_letter : FnFor G 1 "is_letter" 1 spLet := by
  obtain ⟨f, fd, d⟩ := D0.d_is_letter
  exact d.ok (c_is_letter) sc_is_letter (m_is_letter) (by unfold c_is_letter; simp only [okSs, okS, tgOk, ntB, tpB, Bool.false_and, Bool.not_true, Bool.and_false, okX, okXs, okT, okTs, okIt, okIf, PXs.len, biName, biB, tvB, fiveTys, List.mem_cons, and_true, true_and, Nat.zero_add, Nat.reduceAdd, or_true, true_or, and_self, B.len, B.list, B.tuple, B.range, B.abs, B.int, B.isi, B.all, B.str, B.bool, D0.a_Reader_size, D0.a_Reader_parts, D0.a_Reader_taken, D0.g_END, D0.g_NAME_MOST, pr_disp]) h_is_letter
theorem f_word_end : FnFor G 2 "word_end" 2 spWordEnd := by
  obtain ⟨f, fd, d⟩ := D0.d_word_end
  have k0 := f_is_letter B D0
  exact d.ok (c_word_end spLet) sc_word_end (m_word_end _) (by unfold c_word_end; simp only [okSs, okS, tgOk, ntB, tpB, Bool.false_and, Bool.not_true, Bool.and_false, okX, okXs, okT, okTs, okIt, okIf, PXs.len, biName, biB, tvB, fiveTys, List.mem_cons, and_true, true_and, Nat.zero_add, Nat.reduceAdd, or_true, true_or, and_self, B.len, B.list, B.tuple, B.range, B.abs, B.int, B.isi, B.all, B.str, B.bool, D0.a_Reader_size, D0.a_Reader_parts, D0.a_Reader_taken, D0.g_END, D0.g_NAME_MOST, pr_disp, k0]) h_word_end
theorem f_tokens : FnFor G 3 "tokens" 2 spTokens := by
  obtain ⟨f, fd, d⟩ := D0.d_tokens
  have k0 := (f_is_letter B D0).mono (show 1 ≤ 2 by omega)
  have k1 := f_word_end B D0
  have k2 := frz_ok G 2
  have k3 := VX.ps_raiseO (n := 2) D0.ex (show 2 ≤ 2 by omega)
  exact d.ok (c_tokens spLet spWordEnd) sc_tokens (m_tokens _ _) (by unfold c_tokens; simp only [okSs, okS, tgOk, ntB, tpB, Bool.false_and, Bool.not_true, Bool.and_false, okX, okXs, okT, okTs, okIt, okIf, PXs.len, biName, biB, tvB, fiveTys, List.mem_cons, and_true, true_and, Nat.zero_add, Nat.reduceAdd, or_true, true_or, and_self, B.len, B.list, B.tuple, B.range, B.abs, B.int, B.isi, B.all, B.str, B.bool, D0.a_Reader_size, D0.a_Reader_parts, D0.a_Reader_taken, D0.g_END, D0.g_NAME_MOST, pr_disp, k0, k1, k2, k3]) h_tokens
theorem f_Reader___init__ : MkFor G 5 "Reader" 3 spRInit := by
  obtain ⟨C, f, fd, d⟩ := D0.d_Reader___init__
  have k0 := f_tokens B D0
  exact d.ok (c_Reader___init__ spTokens) sc_Reader___init__ (m_Reader___init__ _) (by unfold c_Reader___init__; simp only [okSs, okS, tgOk, ntB, tpB, Bool.false_and, Bool.not_true, Bool.and_false, okX, okXs, okT, okTs, okIt, okIf, PXs.len, biName, biB, tvB, fiveTys, List.mem_cons, and_true, true_and, Nat.zero_add, Nat.reduceAdd, or_true, true_or, and_self, B.len, B.list, B.tuple, B.range, B.abs, B.int, B.isi, B.all, B.str, B.bool, D0.a_Reader_size, D0.a_Reader_parts, D0.a_Reader_taken, D0.g_END, D0.g_NAME_MOST, pr_disp, k0]) h_Reader___init__
theorem f_Reader_kind : MethFor G 1 "Reader" "kind" 1 spKind := by
  obtain ⟨C, f, fd, d⟩ := D0.d_Reader_kind
  exact d.ok (c_Reader_kind) sc_Reader_kind (m_Reader_kind) (by unfold c_Reader_kind; simp only [okSs, okS, tgOk, ntB, tpB, Bool.false_and, Bool.not_true, Bool.and_false, okX, okXs, okT, okTs, okIt, okIf, PXs.len, biName, biB, tvB, fiveTys, List.mem_cons, and_true, true_and, Nat.zero_add, Nat.reduceAdd, or_true, true_or, and_self, B.len, B.list, B.tuple, B.range, B.abs, B.int, B.isi, B.all, B.str, B.bool, D0.a_Reader_size, D0.a_Reader_parts, D0.a_Reader_taken, D0.g_END, D0.g_NAME_MOST, pr_disp]) h_Reader_kind
theorem f_Reader_value : MethFor G 1 "Reader" "value" 1 spValue := by
  obtain ⟨C, f, fd, d⟩ := D0.d_Reader_value
  exact d.ok (c_Reader_value) sc_Reader_value (m_Reader_value) (by unfold c_Reader_value; simp only [okSs, okS, tgOk, ntB, tpB, Bool.false_and, Bool.not_true, Bool.and_false, okX, okXs, okT, okTs, okIt, okIf, PXs.len, biName, biB, tvB, fiveTys, List.mem_cons, and_true, true_and, Nat.zero_add, Nat.reduceAdd, or_true, true_or, and_self, B.len, B.list, B.tuple, B.range, B.abs, B.int, B.isi, B.all, B.str, B.bool, D0.a_Reader_size, D0.a_Reader_parts, D0.a_Reader_taken, D0.g_END, D0.g_NAME_MOST, pr_disp]) h_Reader_value
theorem f_Reader_spot : MethFor G 1 "Reader" "spot" 1 spSpot := by
  obtain ⟨C, f, fd, d⟩ := D0.d_Reader_spot
  exact d.ok (c_Reader_spot) sc_Reader_spot (m_Reader_spot) (by unfold c_Reader_spot; simp only [okSs, okS, tgOk, ntB, tpB, Bool.false_and, Bool.not_true, Bool.and_false, okX, okXs, okT, okTs, okIt, okIf, PXs.len, biName, biB, tvB, fiveTys, List.mem_cons, and_true, true_and, Nat.zero_add, Nat.reduceAdd, or_true, true_or, and_self, B.len, B.list, B.tuple, B.range, B.abs, B.int, B.isi, B.all, B.str, B.bool, D0.a_Reader_size, D0.a_Reader_parts, D0.a_Reader_taken, D0.g_END, D0.g_NAME_MOST, pr_disp]) h_Reader_spot
theorem f_Reader_fail : MethFor G 3 "Reader" "fail" 1 spFail := by
  obtain ⟨C, f, fd, d⟩ := D0.d_Reader_fail
  have k0 := (f_Reader_spot B D0).mono (show 1 ≤ 2 by omega)
  have k1 := (f_Reader_kind B D0).mono (show 1 ≤ 2 by omega)
  have k2 := VX.ps_raiseO (n := 2) D0.ex (show 2 ≤ 2 by omega)
  exact d.ok (c_Reader_fail spSpot spKind) sc_Reader_fail (m_Reader_fail _ _) (by unfold c_Reader_fail; simp only [okSs, okS, tgOk, ntB, tpB, Bool.false_and, Bool.not_true, Bool.and_false, okX, okXs, okT, okTs, okIt, okIf, PXs.len, biName, biB, tvB, fiveTys, List.mem_cons, and_true, true_and, Nat.zero_add, Nat.reduceAdd, or_true, true_or, and_self, B.len, B.list, B.tuple, B.range, B.abs, B.int, B.isi, B.all, B.str, B.bool, D0.a_Reader_size, D0.a_Reader_parts, D0.a_Reader_taken, D0.g_END, D0.g_NAME_MOST, pr_disp, k0, k1, k2]) h_Reader_fail
theorem f_Reader_is_sign : MethFor G 2 "Reader" "is_sign" 2 spIsSign := by
  obtain ⟨C, f, fd, d⟩ := D0.d_Reader_is_sign
  have k0 := f_Reader_kind B D0
  have k1 := f_Reader_value B D0
  exact d.ok (c_Reader_is_sign spKind spValue) sc_Reader_is_sign (m_Reader_is_sign _ _) (by unfold c_Reader_is_sign; simp only [okSs, okS, tgOk, ntB, tpB, Bool.false_and, Bool.not_true, Bool.and_false, okX, okXs, okT, okTs, okIt, okIf, PXs.len, biName, biB, tvB, fiveTys, List.mem_cons, and_true, true_and, Nat.zero_add, Nat.reduceAdd, or_true, true_or, and_self, B.len, B.list, B.tuple, B.range, B.abs, B.int, B.isi, B.all, B.str, B.bool, D0.a_Reader_size, D0.a_Reader_parts, D0.a_Reader_taken, D0.g_END, D0.g_NAME_MOST, pr_disp, k0, k1]) h_Reader_is_sign
theorem f_Reader_accept : MethFor G 3 "Reader" "accept" 2 spAccept := by
  obtain ⟨C, f, fd, d⟩ := D0.d_Reader_accept
  have k0 := f_Reader_is_sign B D0
  exact d.ok (c_Reader_accept spIsSign) sc_Reader_accept (m_Reader_accept _) (by unfold c_Reader_accept; simp only [okSs, okS, tgOk, ntB, tpB, Bool.false_and, Bool.not_true, Bool.and_false, okX, okXs, okT, okTs, okIt, okIf, PXs.len, biName, biB, tvB, fiveTys, List.mem_cons, and_true, true_and, Nat.zero_add, Nat.reduceAdd, or_true, true_or, and_self, B.len, B.list, B.tuple, B.range, B.abs, B.int, B.isi, B.all, B.str, B.bool, D0.a_Reader_size, D0.a_Reader_parts, D0.a_Reader_taken, D0.g_END, D0.g_NAME_MOST, pr_disp, k0]) h_Reader_accept
theorem f_Reader_need : MethFor G 4 "Reader" "need" 2 spNeed := by
  obtain ⟨C, f, fd, d⟩ := D0.d_Reader_need
  have k0 := f_Reader_accept B D0
  have k1 := f_Reader_fail B D0
  exact d.ok (c_Reader_need spAccept spFail) sc_Reader_need (m_Reader_need _ _) (by unfold c_Reader_need; simp only [okSs, okS, tgOk, ntB, tpB, Bool.false_and, Bool.not_true, Bool.and_false, okX, okXs, okT, okTs, okIt, okIf, PXs.len, biName, biB, tvB, fiveTys, List.mem_cons, and_true, true_and, Nat.zero_add, Nat.reduceAdd, or_true, true_or, and_self, B.len, B.list, B.tuple, B.range, B.abs, B.int, B.isi, B.all, B.str, B.bool, D0.a_Reader_size, D0.a_Reader_parts, D0.a_Reader_taken, D0.g_END, D0.g_NAME_MOST, pr_disp, k0, k1]) h_Reader_need
theorem f_Reader_name : MethFor G 4 "Reader" "name" 1 spName := by
  obtain ⟨C, f, fd, d⟩ := D0.d_Reader_name
  have k0 := (f_Reader_kind B D0).mono (show 1 ≤ 3 by omega)
  have k1 := (f_Reader_value B D0).mono (show 1 ≤ 3 by omega)
  have k2 := f_Reader_fail B D0
  exact d.ok (c_Reader_name spKind spValue spFail) sc_Reader_name (m_Reader_name _ _ _) (by unfold c_Reader_name; simp only [okSs, okS, tgOk, ntB, tpB, Bool.false_and, Bool.not_true, Bool.and_false, okX, okXs, okT, okTs, okIt, okIf, PXs.len, biName, biB, tvB, fiveTys, List.mem_cons, and_true, true_and, Nat.zero_add, Nat.reduceAdd, or_true, true_or, and_self, B.len, B.list, B.tuple, B.range, B.abs, B.int, B.isi, B.all, B.str, B.bool, D0.a_Reader_size, D0.a_Reader_parts, D0.a_Reader_taken, D0.g_END, D0.g_NAME_MOST, pr_disp, k0, k1, k2]) h_Reader_name
theorem f_law_draw : FnFor G 1 "_law_draw" 1 spDraw := by
  obtain ⟨f, fd, d⟩ := D0.d_law_draw
  exact d.ok (c_law_draw) sc_law_draw (m_law_draw) (by unfold c_law_draw; simp only [okSs, okS, tgOk, ntB, tpB, Bool.false_and, Bool.not_true, Bool.and_false, okX, okXs, okT, okTs, okIt, okIf, PXs.len, biName, biB, tvB, fiveTys, List.mem_cons, and_true, true_and, Nat.zero_add, Nat.reduceAdd, or_true, true_or, and_self, B.len, B.list, B.tuple, B.range, B.abs, B.int, B.isi, B.all, B.str, B.bool, D0.a_Reader_size, D0.a_Reader_parts, D0.a_Reader_taken, D0.g_END, D0.g_NAME_MOST, pr_disp]) h_draw
theorem f_law_next : FnFor G 1 "_law_next" 2 spNext := by
  obtain ⟨f, fd, d⟩ := D0.d_law_next
  exact d.ok (c_law_next) sc_law_next (m_law_next) (by unfold c_law_next; simp only [okSs, okS, tgOk, ntB, tpB, Bool.false_and, Bool.not_true, Bool.and_false, okX, okXs, okT, okTs, okIt, okIf, PXs.len, biName, biB, tvB, fiveTys, List.mem_cons, and_true, true_and, Nat.zero_add, Nat.reduceAdd, or_true, true_or, and_self, B.len, B.list, B.tuple, B.range, B.abs, B.int, B.isi, B.all, B.str, B.bool, D0.a_Reader_size, D0.a_Reader_parts, D0.a_Reader_taken, D0.g_END, D0.g_NAME_MOST, pr_disp]) h_next
theorem f_law_same : ∀ n, FnFor G (n) "_law_same" 2 (spSame n)
  | 0 => by
    obtain ⟨f, fd, d⟩ := D0.d_law_same
    exact d.none fun ds M Q E ⟨x, _, h, _⟩ => by cases h
  | n + 1 => by
    obtain ⟨f, fd, d⟩ := D0.d_law_same
    have ih := f_law_same n
    exact d.ok (c_law_same (spSame n)) sc_law_same (m_law_same _) (by unfold c_law_same; simp only [okSs, okS, tgOk, ntB, tpB, Bool.false_and, Bool.not_true, Bool.and_false, okX, okXs, okT, okTs, okIt, okIf, PXs.len, biName, biB, tvB, fiveTys, List.mem_cons, and_true, true_and, Nat.zero_add, Nat.reduceAdd, or_true, true_or, and_self, ih, B.len, B.list, B.tuple, B.range, B.abs, B.int, B.isi, B.all, B.str, B.bool, D0.a_Reader_size, D0.a_Reader_parts, D0.a_Reader_taken, D0.g_END, D0.g_NAME_MOST, pr_disp]) (h_same n)
theorem f_read_events : FnFor G 10 "read_events" 1 spRe := by
  obtain ⟨f, fd, d⟩ := D0.d_read_events
  have k0 := (f_Reader_kind B D0).mono (show 1 ≤ 9 by omega)
  have k1 := (f_Reader_accept B D0).mono (show 3 ≤ 9 by omega)
  have k2 := (f_Reader_fail B D0).mono (show 3 ≤ 9 by omega)
  have k3 := (f_Reader_name B D0).mono (show 4 ≤ 9 by omega)
  have k4 := (f_Reader_need B D0).mono (show 4 ≤ 9 by omega)
  have k5 := pr_make (n := 2) ((f_Reader___init__ B D0).mono (show 5 ≤ 9 by omega))
  have k6 := frz_ok G 2
  exact d.ok (c_read_events spKind spAccept spFail spName spNeed spRInit) sc_read_events (m_read_events _ _ _ _ _ _) (by unfold c_read_events; simp only [okSs, okS, tgOk, ntB, tpB, Bool.false_and, Bool.not_true, Bool.and_false, okX, okXs, okT, okTs, okIt, okIf, PXs.len, biName, biB, tvB, fiveTys, List.mem_cons, and_true, true_and, Nat.zero_add, Nat.reduceAdd, or_true, true_or, and_self, B.len, B.list, B.tuple, B.range, B.abs, B.int, B.isi, B.all, B.str, B.bool, D0.a_Reader_size, D0.a_Reader_parts, D0.a_Reader_taken, D0.g_END, D0.g_NAME_MOST, pr_disp, k0, k1, k2, k3, k4, k5, k6]) h_read_events
theorem f_law_tokens : FnFor G 2 "_law_tokens" 1 spTk := by
  obtain ⟨f, fd, d⟩ := D0.d_law_tokens
  have k0 := f_law_next B D0
  have k1 := frz_ok G 1
  exact d.ok (c_law_tokens spNext) sc_law_tokens (m_law_tokens _) (by unfold c_law_tokens; simp only [okSs, okS, tgOk, ntB, tpB, Bool.false_and, Bool.not_true, Bool.and_false, okX, okXs, okT, okTs, okIt, okIf, PXs.len, biName, biB, tvB, fiveTys, List.mem_cons, and_true, true_and, Nat.zero_add, Nat.reduceAdd, or_true, true_or, and_self, B.len, B.list, B.tuple, B.range, B.abs, B.int, B.isi, B.all, B.str, B.bool, D0.a_Reader_size, D0.a_Reader_parts, D0.a_Reader_taken, D0.g_END, D0.g_NAME_MOST, pr_disp, k0, k1]) h_tokens_law
theorem f_law_text : FnFor G 2 "_law_text" 2 (spText sgT) := by
  obtain ⟨f, fd, d⟩ := D0.d_law_text
  have k0 := f_law_next B D0
  exact d.ok (c_law_text spNext) sc_law_text (m_law_text _) (by unfold c_law_text; simp only [okSs, okS, tgOk, ntB, tpB, Bool.false_and, Bool.not_true, Bool.and_false, okX, okXs, okT, okTs, okIt, okIf, PXs.len, biName, biB, tvB, fiveTys, List.mem_cons, and_true, true_and, Nat.zero_add, Nat.reduceAdd, or_true, true_or, and_self, B.len, B.list, B.tuple, B.range, B.abs, B.int, B.isi, B.all, B.str, B.bool, D0.a_Reader_size, D0.a_Reader_parts, D0.a_Reader_taken, D0.g_END, D0.g_NAME_MOST, pr_disp, k0]) (h_text sgT)
theorem f_law_first_wrong : FnFor G 1 "_law_first_wrong" 1 spFw := by
  obtain ⟨f, fd, d⟩ := D0.d_law_first_wrong
  exact d.ok (c_law_first_wrong) sc_law_first_wrong (m_law_first_wrong) (by unfold c_law_first_wrong; simp only [okSs, okS, tgOk, ntB, tpB, Bool.false_and, Bool.not_true, Bool.and_false, okX, okXs, okT, okTs, okIt, okIf, PXs.len, biName, biB, tvB, fiveTys, List.mem_cons, and_true, true_and, Nat.zero_add, Nat.reduceAdd, or_true, true_or, and_self, B.len, B.list, B.tuple, B.range, B.abs, B.int, B.isi, B.all, B.str, B.bool, D0.a_Reader_size, D0.a_Reader_parts, D0.a_Reader_taken, D0.g_END, D0.g_NAME_MOST, pr_disp]) h_first_wrong
theorem f_law_due : FnFor G 2 "_law_due" 3 spDue := by
  obtain ⟨f, fd, d⟩ := D0.d_law_due
  have k0 := f_law_first_wrong B D0
  exact d.ok (c_law_due spFw) sc_law_due (m_law_due _) (by unfold c_law_due; simp only [okSs, okS, tgOk, ntB, tpB, Bool.false_and, Bool.not_true, Bool.and_false, okX, okXs, okT, okTs, okIt, okIf, PXs.len, biName, biB, tvB, fiveTys, List.mem_cons, and_true, true_and, Nat.zero_add, Nat.reduceAdd, or_true, true_or, and_self, B.len, B.list, B.tuple, B.range, B.abs, B.int, B.isi, B.all, B.str, B.bool, D0.a_Reader_size, D0.a_Reader_parts, D0.a_Reader_taken, D0.g_END, D0.g_NAME_MOST, pr_disp, k0]) h_due
theorem f_law_told : FnFor G 11 "_law_told" 1 spTold := by
  obtain ⟨f, fd, d⟩ := D0.d_law_told
  obtain ⟨D, S, Hd⟩ := D0.hd
  have k0 := f_read_events B D0
  exact f_told (p := spRe) d Hd (by unfold c_law_told; simp only [okSs, okS, tgOk, ntB, tpB, Bool.false_and, Bool.not_true, Bool.and_false, okX, okXs, okT, okTs, okIt, okIf, PXs.len, biName, biB, tvB, fiveTys, List.mem_cons, and_true, true_and, Nat.zero_add, Nat.reduceAdd, or_true, true_or, and_self, B.len, B.list, B.tuple, B.range, B.abs, B.int, B.isi, B.all, B.str, B.bool, D0.a_Reader_size, D0.a_Reader_parts, D0.a_Reader_taken, D0.g_END, D0.g_NAME_MOST, pr_disp, k0]) told_reads
theorem f_law {f fd} (d : DefAt G "law" s_law ["_law_script"] f fd) : FnOk G.prog G.w G.K G.mg G.base (VX.CX G.prog G.w) 20 f fd ["_law_script"] (spTop G.K) := by
  have k0 := (f_law_tokens B D0).mono (show 2 ≤ 19 by omega)
  have k1 := (f_law_text B D0).mono (show 2 ≤ 19 by omega)
  have k2 := (f_law_due B D0).mono (show 2 ≤ 19 by omega)
  have k3 := (f_law_told B D0).mono (show 11 ≤ 19 by omega)
  have k4 := (f_law_same B D0 3).mono (show 3 ≤ 19 by omega)
  have k5 := (f_law_draw B D0).mono (show 1 ≤ 19 by omega)
  refine top_ok (def_ok (c_law spTk (spText sgT) spDue spTold (spSame 3) spDraw) d.fn sc_law (m_law _ _ _ _ _ _) (by unfold c_law; simp only [okSs, okS, tgOk, ntB, tpB, Bool.false_and, Bool.not_true, Bool.and_false, okX, okXs, okT, okTs, okIt, okIf, PXs.len, biName, biB, tvB, fiveTys, List.mem_cons, and_true, true_and, Nat.zero_add, Nat.reduceAdd, or_true, true_or, and_self, B.len, B.list, B.tuple, B.range, B.abs, B.int, B.isi, B.all, B.str, B.bool, D0.a_Reader_size, D0.a_Reader_parts, D0.a_Reader_taken, D0.g_END, D0.g_NAME_MOST, pr_disp, k0, k1, k2, k3, k4, k5]) h_law) fun ns Q h q => ⟨ns, rfl, h, q⟩
end
end K42
end VS
namespace VS
open PySem PySem.Spec PyProof.Rows L2
namespace K42
theorem all_mk {l : PySem.W.OpenLaw} {w : World} {K : PySem.W.Frag} {h : Heap} {mg : Str → Option Value} {fa : Addr} (X : K.In h) (Gn : h.Ns mainGlobals mg) (hfa : mg "law" = some (.ref fa))
    {C0 : Addr} (aC0 : PySem.W.nsIn K mainGlobals "Reader" = some (some (.ref C0)))
    (pg0 : PySem.W.plainGet K C0 Str.empty = true) (hd0 : PySem.W.hasDictIn K C0 = true) (po0 : PySem.W.plainOver K C0 = true) (sa0 : PySem.W.findIn K (.ref C0) "__setattr__" = some (some (.builtin "object.__setattr__"))) (mk0 : PySem.W.makesIn K C0 = true) (kc0 : PySem.W.keepIn K (.ref C0) = true)
    (nA0_size : PySem.W.findIn K (.ref C0) "size" = some none)
    (nA0_parts : PySem.W.findIn K (.ref C0) "parts" = some none)
    (nA0_taken : PySem.W.findIn K (.ref C0) "taken" = some none)
    {tk_END : Tok} (gc_END : PySem.W.nsIn K mainGlobals "END" = some (some (.str (Str.ofString ")") tk_END)))
    {tk_NAME_MOST : Tok} (gc_NAME_MOST : PySem.W.nsIn K mainGlobals "NAME_MOST" = some (some (.int 8 tk_NAME_MOST)))
    {f0 : Addr} {od0 an0 : Option Addr} {sl0 : Array (Option Value)} {oc0 kV0 dc0 pm0 cd0 ct0 : Value}
    (a0 : PySem.W.nsIn K mainGlobals "is_letter" = some (some (.ref f0)))
    (l0 : K.lookup f0 = some ⟨oc0, od0, .func (PySem.W.fnOf "is_letter" "is_letter" (defArgs s_is_letter) (defBody s_is_letter) (defScope s_is_letter) .none kV0 dc0 pm0 an0 cd0 ct0), sl0⟩)
    (c0 : PySem.W.codeIn K cd0 "is_letter" = true) (k0 : PySem.W.keepIn K (.ref f0) = true)
    {f1 : Addr} {od1 an1 : Option Addr} {sl1 : Array (Option Value)} {oc1 kV1 dc1 pm1 cd1 ct1 : Value}
    (a1 : PySem.W.nsIn K mainGlobals "word_end" = some (some (.ref f1)))
    (l1 : K.lookup f1 = some ⟨oc1, od1, .func (PySem.W.fnOf "word_end" "word_end" (defArgs s_word_end) (defBody s_word_end) (defScope s_word_end) .none kV1 dc1 pm1 an1 cd1 ct1), sl1⟩)
    (c1 : PySem.W.codeIn K cd1 "word_end" = true) (k1 : PySem.W.keepIn K (.ref f1) = true)
    {f2 : Addr} {od2 an2 : Option Addr} {sl2 : Array (Option Value)} {oc2 kV2 dc2 pm2 cd2 ct2 : Value}
    (a2 : PySem.W.nsIn K mainGlobals "tokens" = some (some (.ref f2)))
    (l2 : K.lookup f2 = some ⟨oc2, od2, .func (PySem.W.fnOf "tokens" "tokens" (defArgs s_tokens) (defBody s_tokens) (defScope s_tokens) .none kV2 dc2 pm2 an2 cd2 ct2), sl2⟩)
    (c2 : PySem.W.codeIn K cd2 "tokens" = true) (k2 : PySem.W.keepIn K (.ref f2) = true)
    {f3 : Addr} {od3 an3 : Option Addr} {sl3 : Array (Option Value)} {oc3 kV3 dc3 pm3 cd3 ct3 : Value}
    (a3 : PySem.W.findIn K (.ref C0) "__init__" = some (some (.ref f3))) (i3 : PySem.W.isFn K (.ref f3) = true)
    (l3 : K.lookup f3 = some ⟨oc3, od3, .func (PySem.W.fnOf "__init__" "Reader.__init__" (defArgs s_Reader___init__) (defBody s_Reader___init__) (defScope s_Reader___init__) .none kV3 dc3 pm3 an3 cd3 ct3), sl3⟩)
    (c3 : PySem.W.codeIn K cd3 "Reader.__init__" = true) (k3 : PySem.W.keepIn K (.ref f3) = true)
    {f4 : Addr} {od4 an4 : Option Addr} {sl4 : Array (Option Value)} {oc4 kV4 dc4 pm4 cd4 ct4 : Value}
    (a4 : PySem.W.findIn K (.ref C0) "kind" = some (some (.ref f4))) (i4 : PySem.W.isFn K (.ref f4) = true)
    (l4 : K.lookup f4 = some ⟨oc4, od4, .func (PySem.W.fnOf "kind" "Reader.kind" (defArgs s_Reader_kind) (defBody s_Reader_kind) (defScope s_Reader_kind) .none kV4 dc4 pm4 an4 cd4 ct4), sl4⟩)
    (c4 : PySem.W.codeIn K cd4 "Reader.kind" = true) (k4 : PySem.W.keepIn K (.ref f4) = true)
    {f5 : Addr} {od5 an5 : Option Addr} {sl5 : Array (Option Value)} {oc5 kV5 dc5 pm5 cd5 ct5 : Value}
    (a5 : PySem.W.findIn K (.ref C0) "value" = some (some (.ref f5))) (i5 : PySem.W.isFn K (.ref f5) = true)
    (l5 : K.lookup f5 = some ⟨oc5, od5, .func (PySem.W.fnOf "value" "Reader.value" (defArgs s_Reader_value) (defBody s_Reader_value) (defScope s_Reader_value) .none kV5 dc5 pm5 an5 cd5 ct5), sl5⟩)
    (c5 : PySem.W.codeIn K cd5 "Reader.value" = true) (k5 : PySem.W.keepIn K (.ref f5) = true)
    {f6 : Addr} {od6 an6 : Option Addr} {sl6 : Array (Option Value)} {oc6 kV6 dc6 pm6 cd6 ct6 : Value}
    (a6 : PySem.W.findIn K (.ref C0) "spot" = some (some (.ref f6))) (i6 : PySem.W.isFn K (.ref f6) = true)
    (l6 : K.lookup f6 = some ⟨oc6, od6, .func (PySem.W.fnOf "spot" "Reader.spot" (defArgs s_Reader_spot) (defBody s_Reader_spot) (defScope s_Reader_spot) .none kV6 dc6 pm6 an6 cd6 ct6), sl6⟩)
    (c6 : PySem.W.codeIn K cd6 "Reader.spot" = true) (k6 : PySem.W.keepIn K (.ref f6) = true)
    {f7 : Addr} {od7 an7 : Option Addr} {sl7 : Array (Option Value)} {oc7 kV7 dc7 pm7 cd7 ct7 : Value}
    (a7 : PySem.W.findIn K (.ref C0) "fail" = some (some (.ref f7))) (i7 : PySem.W.isFn K (.ref f7) = true)
    (l7 : K.lookup f7 = some ⟨oc7, od7, .func (PySem.W.fnOf "fail" "Reader.fail" (defArgs s_Reader_fail) (defBody s_Reader_fail) (defScope s_Reader_fail) .none kV7 dc7 pm7 an7 cd7 ct7), sl7⟩)
    (c7 : PySem.W.codeIn K cd7 "Reader.fail" = true) (k7 : PySem.W.keepIn K (.ref f7) = true)
    {f8 : Addr} {od8 an8 : Option Addr} {sl8 : Array (Option Value)} {oc8 kV8 dc8 pm8 cd8 ct8 : Value}
    (a8 : PySem.W.findIn K (.ref C0) "is_sign" = some (some (.ref f8))) (i8 : PySem.W.isFn K (.ref f8) = true)
    (l8 : K.lookup f8 = some ⟨oc8, od8, .func (PySem.W.fnOf "is_sign" "Reader.is_sign" (defArgs s_Reader_is_sign) (defBody s_Reader_is_sign) (defScope s_Reader_is_sign) .none kV8 dc8 pm8 an8 cd8 ct8), sl8⟩)
    (c8 : PySem.W.codeIn K cd8 "Reader.is_sign" = true) (k8 : PySem.W.keepIn K (.ref f8) = true)
    {f9 : Addr} {od9 an9 : Option Addr} {sl9 : Array (Option Value)} {oc9 kV9 dc9 pm9 cd9 ct9 : Value}
    (a9 : PySem.W.findIn K (.ref C0) "accept" = some (some (.ref f9))) (i9 : PySem.W.isFn K (.ref f9) = true)
    (l9 : K.lookup f9 = some ⟨oc9, od9, .func (PySem.W.fnOf "accept" "Reader.accept" (defArgs s_Reader_accept) (defBody s_Reader_accept) (defScope s_Reader_accept) .none kV9 dc9 pm9 an9 cd9 ct9), sl9⟩)
    (c9 : PySem.W.codeIn K cd9 "Reader.accept" = true) (k9 : PySem.W.keepIn K (.ref f9) = true)
    {f10 : Addr} {od10 an10 : Option Addr} {sl10 : Array (Option Value)} {oc10 kV10 dc10 pm10 cd10 ct10 : Value}
    (a10 : PySem.W.findIn K (.ref C0) "need" = some (some (.ref f10))) (i10 : PySem.W.isFn K (.ref f10) = true)
    (l10 : K.lookup f10 = some ⟨oc10, od10, .func (PySem.W.fnOf "need" "Reader.need" (defArgs s_Reader_need) (defBody s_Reader_need) (defScope s_Reader_need) .none kV10 dc10 pm10 an10 cd10 ct10), sl10⟩)
    (c10 : PySem.W.codeIn K cd10 "Reader.need" = true) (k10 : PySem.W.keepIn K (.ref f10) = true)
    {f11 : Addr} {od11 an11 : Option Addr} {sl11 : Array (Option Value)} {oc11 kV11 dc11 pm11 cd11 ct11 : Value}
    (a11 : PySem.W.findIn K (.ref C0) "name" = some (some (.ref f11))) (i11 : PySem.W.isFn K (.ref f11) = true)
    (l11 : K.lookup f11 = some ⟨oc11, od11, .func (PySem.W.fnOf "name" "Reader.name" (defArgs s_Reader_name) (defBody s_Reader_name) (defScope s_Reader_name) .none kV11 dc11 pm11 an11 cd11 ct11), sl11⟩)
    (c11 : PySem.W.codeIn K cd11 "Reader.name" = true) (k11 : PySem.W.keepIn K (.ref f11) = true)
    {f12 : Addr} {od12 an12 : Option Addr} {sl12 : Array (Option Value)} {oc12 kV12 dc12 pm12 cd12 ct12 : Value}
    (a12 : PySem.W.nsIn K mainGlobals "read_events" = some (some (.ref f12)))
    (l12 : K.lookup f12 = some ⟨oc12, od12, .func (PySem.W.fnOf "read_events" "read_events" (defArgs s_read_events) (defBody s_read_events) (defScope s_read_events) .none kV12 dc12 pm12 an12 cd12 ct12), sl12⟩)
    (c12 : PySem.W.codeIn K cd12 "read_events" = true) (k12 : PySem.W.keepIn K (.ref f12) = true)
    {f13 : Addr} {od13 an13 : Option Addr} {sl13 : Array (Option Value)} {oc13 kV13 dc13 pm13 cd13 ct13 : Value}
    (a13 : PySem.W.nsIn K mainGlobals "_law_draw" = some (some (.ref f13)))
    (l13 : K.lookup f13 = some ⟨oc13, od13, .func (PySem.W.fnOf "_law_draw" "_law_draw" (defArgs s_law_draw) (defBody s_law_draw) (defScope s_law_draw) .none kV13 dc13 pm13 an13 cd13 ct13), sl13⟩)
    (c13 : PySem.W.codeIn K cd13 "_law_draw" = true) (k13 : PySem.W.keepIn K (.ref f13) = true)
    {f14 : Addr} {od14 an14 : Option Addr} {sl14 : Array (Option Value)} {oc14 kV14 dc14 pm14 cd14 ct14 : Value}
    (a14 : PySem.W.nsIn K mainGlobals "_law_next" = some (some (.ref f14)))
    (l14 : K.lookup f14 = some ⟨oc14, od14, .func (PySem.W.fnOf "_law_next" "_law_next" (defArgs s_law_next) (defBody s_law_next) (defScope s_law_next) .none kV14 dc14 pm14 an14 cd14 ct14), sl14⟩)
    (c14 : PySem.W.codeIn K cd14 "_law_next" = true) (k14 : PySem.W.keepIn K (.ref f14) = true)
    {f15 : Addr} {od15 an15 : Option Addr} {sl15 : Array (Option Value)} {oc15 kV15 dc15 pm15 cd15 ct15 : Value}
    (a15 : PySem.W.nsIn K mainGlobals "_law_same" = some (some (.ref f15)))
    (l15 : K.lookup f15 = some ⟨oc15, od15, .func (PySem.W.fnOf "_law_same" "_law_same" (defArgs s_law_same) (defBody s_law_same) (defScope s_law_same) .none kV15 dc15 pm15 an15 cd15 ct15), sl15⟩)
    (c15 : PySem.W.codeIn K cd15 "_law_same" = true) (k15 : PySem.W.keepIn K (.ref f15) = true)
    {f16 : Addr} {od16 an16 : Option Addr} {sl16 : Array (Option Value)} {oc16 kV16 dc16 pm16 cd16 ct16 : Value}
    (a16 : PySem.W.nsIn K mainGlobals "_law_tokens" = some (some (.ref f16)))
    (l16 : K.lookup f16 = some ⟨oc16, od16, .func (PySem.W.fnOf "_law_tokens" "_law_tokens" (defArgs s_law_tokens) (defBody s_law_tokens) (defScope s_law_tokens) .none kV16 dc16 pm16 an16 cd16 ct16), sl16⟩)
    (c16 : PySem.W.codeIn K cd16 "_law_tokens" = true) (k16 : PySem.W.keepIn K (.ref f16) = true)
    {f17 : Addr} {od17 an17 : Option Addr} {sl17 : Array (Option Value)} {oc17 kV17 dc17 pm17 cd17 ct17 : Value}
    (a17 : PySem.W.nsIn K mainGlobals "_law_text" = some (some (.ref f17)))
    (l17 : K.lookup f17 = some ⟨oc17, od17, .func (PySem.W.fnOf "_law_text" "_law_text" (defArgs s_law_text) (defBody s_law_text) (defScope s_law_text) .none kV17 dc17 pm17 an17 cd17 ct17), sl17⟩)
    (c17 : PySem.W.codeIn K cd17 "_law_text" = true) (k17 : PySem.W.keepIn K (.ref f17) = true)
    {f18 : Addr} {od18 an18 : Option Addr} {sl18 : Array (Option Value)} {oc18 kV18 dc18 pm18 cd18 ct18 : Value}
    (a18 : PySem.W.nsIn K mainGlobals "_law_first_wrong" = some (some (.ref f18)))
    (l18 : K.lookup f18 = some ⟨oc18, od18, .func (PySem.W.fnOf "_law_first_wrong" "_law_first_wrong" (defArgs s_law_first_wrong) (defBody s_law_first_wrong) (defScope s_law_first_wrong) .none kV18 dc18 pm18 an18 cd18 ct18), sl18⟩)
    (c18 : PySem.W.codeIn K cd18 "_law_first_wrong" = true) (k18 : PySem.W.keepIn K (.ref f18) = true)
    {f19 : Addr} {od19 an19 : Option Addr} {sl19 : Array (Option Value)} {oc19 kV19 dc19 pm19 cd19 ct19 : Value}
    (a19 : PySem.W.nsIn K mainGlobals "_law_due" = some (some (.ref f19)))
    (l19 : K.lookup f19 = some ⟨oc19, od19, .func (PySem.W.fnOf "_law_due" "_law_due" (defArgs s_law_due) (defBody s_law_due) (defScope s_law_due) .none kV19 dc19 pm19 an19 cd19 ct19), sl19⟩)
    (c19 : PySem.W.codeIn K cd19 "_law_due" = true) (k19 : PySem.W.keepIn K (.ref f19) = true)
    {f20 : Addr} {od20 an20 : Option Addr} {sl20 : Array (Option Value)} {oc20 kV20 dc20 pm20 cd20 ct20 : Value}
    (a20 : PySem.W.nsIn K mainGlobals "_law_told" = some (some (.ref f20)))
    (l20 : K.lookup f20 = some ⟨oc20, od20, .func (PySem.W.fnOf "_law_told" "_law_told" (defArgs s_law_told) (defBody s_law_told) (defScope s_law_told) .none kV20 dc20 pm20 an20 cd20 ct20), sl20⟩)
    (c20 : PySem.W.codeIn K cd20 "_law_told" = true) (k20 : PySem.W.keepIn K (.ref f20) = true)
    {f21 : Addr} {od21 an21 : Option Addr} {sl21 : Array (Option Value)} {oc21 kV21 dc21 pm21 cd21 ct21 : Value}
    (a21 : PySem.W.nsIn K mainGlobals "law" = some (some (.ref f21)))
    (l21 : K.lookup f21 = some ⟨oc21, od21, .func (PySem.W.fnOf "law" "law" (defArgs s_law) (defBody s_law) (defScope s_law) .none kV21 dc21 pm21 an21 cd21 ct21), sl21⟩)
    (c21 : PySem.W.codeIn K cd21 "law" = true) (k21 : PySem.W.keepIn K (.ref f21) = true)
    {E0 : Addr} (xe_a : PySem.W.nsIn K mainGlobals "TextError" = some (some (.ref E0)))
    {eN : Addr} {enm eq : Str} {ebs ebm : List Value} {esn : List Str} {esub : List Value} {eab : Bool} {ecol : Option Bool} {edd : Option Addr} {ek0 ek1 ek2 ek3 ek5 : Option Value} (xe_l : K.lookup E0 = some (excClassObj enm eq E0 eN ebs ebm true esn esub eab ecol edd ek0 ek1 ek2 ek3 ek5 "ValueError.__new__")) (xd_v : PySem.HandSPX.refsVE ebm = true)
    (xe_s : PySem.W.findIn K (.ref E0) "__setattr__" = some (some (.builtin "object.__setattr__"))) (xe_x : PySem.W.subIn K (.ref E0) (.type "BaseException") = some true) (xe_t : PySem.W.typeIn K (.ref E0) = some (.type "type")) (xe_k : PySem.W.keepIn K (.ref E0) = true)
    {fI : Addr} (xe_i : PySem.W.findIn K (.ref E0) "__init__" = some (some (.ref fI))) (xe_ti : PySem.W.typeIn K (.ref fI) = some (.type "function"))
    {ioc : Value} {iod : Option Addr} {ikV idoc ipm : Value} {ian : Option Addr} {icda : Addr} {ict : Value} {iosl : Array (Option Value)} {icc : Addr} (xe_li : K.lookup fI = some ⟨ioc, iod, .func (PySem.W.ksFn "__init__" "TextError.__init__" (defArgs s_ti) (defBody s_ti) (defScope s_ti) .none ikV idoc ipm ian (.ref icda) ict icc), iosl⟩) (xe_ci : PySem.W.codeIn K (.ref icda) "TextError.__init__" = true)
    {iccl : Value} {icdd : Option Addr} {ivs : Array Value} {iccs : Array (Option Value)} {ifile : Str} {itf : Tok} (xe_di : K.lookup icda = some ⟨iccl, icdd, .fields ivs, iccs⟩) (xd_vi : ivs[2]? = some (.str ifile itf)) (xd_fi : ((l.prog.main.file : Str) == ifile) = true)
    {icl : Value} {icld : Option Addr} {icsl : Array (Option Value)} (xe_ce : K.lookup icc = some ⟨icl, icld, .cell (some (.ref E0)), icsl⟩)
    (xe_m : PySem.W.mroIn K E0 (.ref E0) = some true) (xu_u : PySem.W.ks_superIn K E0 E0 "__init__" = some (some (.builtin "ValueError.__init__"))) (xe_w : PySem.W.subIn K (.ref E0) (.type "ValueError") = some true) (xe_n : PySem.W.nsIn K cStatics "thirdparty.any" = some none)
    (xd_h : (l.prog.main.scope.names.lookup ("super" : Str)).isSome = false) (xe_p : PySem.W.findIn K (.ref E0) "place" = some none) (xe_g : PySem.W.findIn K (.ref E0) "message" = some none) (xe_e : PySem.W.subIn K (.ref E0) (.ref E0) = some true) (xe_ga : PySem.W.findIn K (.ref E0) "__getattribute__" = some (some (.builtin "BaseException.__getattribute__"))) (xe_gg : PySem.W.findIn K (.ref E0) "__getattr__" = some none) (xe_hd : PySem.W.hasDictIn K E0 = true) (xe_su : PySem.W.nsIn K mainGlobals "super" = some none)
    {S0 : Addr} (xe_sa : PySem.W.nsIn K mainGlobals "SettleError" = some (some (.ref S0))) (xe_sr : PySem.W.findIn K (.ref E0) "__str__" = some (some (.builtin "BaseException.__str__")))
    (xe_ca : PySem.W.findIn K (.ref E0) "__class__" = some (some (.builtin "object.__class__"))) (xe_cn : PySem.W.specialIn K (.builtin "object.__class__") "__get__" = some (some (.builtin "getset_descriptor.__get__"))) (xe_ct : PySem.W.takesIn K (.builtin "object.__class__") = some true) (xe_mo : PySem.W.mroIn K E0 (.type "object") = some true)
    (xi_k : PySem.W.kitOne K (.ref E0) (.ref S0) = some true)
    (z_len : PySem.W.nsIn K mainGlobals "len" = some none)
    (z_list : PySem.W.nsIn K mainGlobals "list" = some none)
    (z_tuple : PySem.W.nsIn K mainGlobals "tuple" = some none)
    (z_range : PySem.W.nsIn K mainGlobals "range" = some none)
    (z_abs : PySem.W.nsIn K mainGlobals "abs" = some none)
    (z_int : PySem.W.nsIn K mainGlobals "int" = some none)
    (z_isi : PySem.W.nsIn K mainGlobals "isinstance" = some none)
    (z_all : PySem.W.nsIn K mainGlobals "all" = some none)
    (z_str : PySem.W.nsIn K mainGlobals "str" = some none)
    (z_bool : PySem.W.nsIn K mainGlobals "bool" = some none)
    : ∃ fd : FuncData, (∀ (s : Shared) (v : Value), BindsTo s fd ⟨[v], []⟩ [("_law_script", v)]) ∧ ∀ base : Heap, K.In base → base.Ns mainGlobals mg → FnOk l.prog w K mg base (VX.CX l.prog w) 20 fa fd ["_law_script"] (spTop K) := by
  have e := hfa.symm.trans (PySem.W.mg_of X Gn a21)
  cases e
  have F0 := fun_mk (st := s_is_letter) l0 c0 k0
  have b0 := F0.binds (ps := ["char"]) fun _ _ _ _ _ _ us hl => match us, hl with | [_], _ => rfl
  have F1 := fun_mk (st := s_word_end) l1 c1 k1
  have b1 := F1.binds (ps := ["text", "start"]) fun _ _ _ _ _ _ us hl => match us, hl with | [_, _], _ => rfl
  have F2 := fun_mk (st := s_tokens) l2 c2 k2
  have b2 := F2.binds (ps := ["text", "signs"]) fun _ _ _ _ _ _ us hl => match us, hl with | [_, _], _ => rfl
  have F3 := fun_mk (st := s_Reader___init__) l3 c3 k3
  have b3 := F3.binds (ps := ["self", "text", "signs"]) fun _ _ _ _ _ _ us hl => match us, hl with | [_, _, _], _ => rfl
  have F4 := fun_mk (st := s_Reader_kind) l4 c4 k4
  have b4 := F4.binds (ps := ["self"]) fun _ _ _ _ _ _ us hl => match us, hl with | [_], _ => rfl
  have F5 := fun_mk (st := s_Reader_value) l5 c5 k5
  have b5 := F5.binds (ps := ["self"]) fun _ _ _ _ _ _ us hl => match us, hl with | [_], _ => rfl
  have F6 := fun_mk (st := s_Reader_spot) l6 c6 k6
  have b6 := F6.binds (ps := ["self"]) fun _ _ _ _ _ _ us hl => match us, hl with | [_], _ => rfl
  have F7 := fun_mk (st := s_Reader_fail) l7 c7 k7
  have b7 := F7.binds (ps := ["self"]) fun _ _ _ _ _ _ us hl => match us, hl with | [_], _ => rfl
  have F8 := fun_mk (st := s_Reader_is_sign) l8 c8 k8
  have b8 := F8.binds (ps := ["self", "sign"]) fun _ _ _ _ _ _ us hl => match us, hl with | [_, _], _ => rfl
  have F9 := fun_mk (st := s_Reader_accept) l9 c9 k9
  have b9 := F9.binds (ps := ["self", "sign"]) fun _ _ _ _ _ _ us hl => match us, hl with | [_, _], _ => rfl
  have F10 := fun_mk (st := s_Reader_need) l10 c10 k10
  have b10 := F10.binds (ps := ["self", "sign"]) fun _ _ _ _ _ _ us hl => match us, hl with | [_, _], _ => rfl
  have F11 := fun_mk (st := s_Reader_name) l11 c11 k11
  have b11 := F11.binds (ps := ["self"]) fun _ _ _ _ _ _ us hl => match us, hl with | [_], _ => rfl
  have F12 := fun_mk (st := s_read_events) l12 c12 k12
  have b12 := F12.binds (ps := ["text"]) fun _ _ _ _ _ _ us hl => match us, hl with | [_], _ => rfl
  have F13 := fun_mk (st := s_law_draw) l13 c13 k13
  have b13 := F13.binds (ps := ["_law_script"]) fun _ _ _ _ _ _ us hl => match us, hl with | [_], _ => rfl
  have F14 := fun_mk (st := s_law_next) l14 c14 k14
  have b14 := F14.binds (ps := ["_law_draw_here", "_law_many"]) fun _ _ _ _ _ _ us hl => match us, hl with | [_, _], _ => rfl
  have F15 := fun_mk (st := s_law_same) l15 c15 k15
  have b15 := F15.binds (ps := ["_law_actual", "_law_due_here"]) fun _ _ _ _ _ _ us hl => match us, hl with | [_, _], _ => rfl
  have F16 := fun_mk (st := s_law_tokens) l16 c16 k16
  have b16 := F16.binds (ps := ["_law_draw_here"]) fun _ _ _ _ _ _ us hl => match us, hl with | [_], _ => rfl
  have F17 := fun_mk (st := s_law_text) l17 c17 k17
  have b17 := F17.binds (ps := ["_law_draw_here", "_law_tokens_here"]) fun _ _ _ _ _ _ us hl => match us, hl with | [_, _], _ => rfl
  have F18 := fun_mk (st := s_law_first_wrong) l18 c18 k18
  have b18 := F18.binds (ps := ["_law_tokens_here"]) fun _ _ _ _ _ _ us hl => match us, hl with | [_], _ => rfl
  have F19 := fun_mk (st := s_law_due) l19 c19 k19
  have b19 := F19.binds (ps := ["_law_tokens_here", "_law_text_here", "_law_places"]) fun _ _ _ _ _ _ us hl => match us, hl with | [_, _, _], _ => rfl
  have F20 := fun_mk (st := s_law_told) l20 c20 k20
  have b20 := F20.binds (ps := ["_law_text_here"]) fun _ _ _ _ _ _ us hl => match us, hl with | [_], _ => rfl
  have F21 := fun_mk (st := s_law) l21 c21 k21
  have b21 := F21.binds (ps := ["_law_script"]) fun _ _ _ _ _ _ us hl => match us, hl with | [_], _ => rfl
  refine ⟨PySem.W.fnOf "law" "law" (defArgs s_law) (defBody s_law) (defScope s_law) .none kV21 dc21 pm21 an21 cd21 ct21, fun s v => .of_eq rfl, fun base _ _ => ?_⟩
  have B : Bs ⟨l.prog, w, K, mg, base⟩ := ⟨PySem.W.mg_none_of X Gn z_len, PySem.W.mg_none_of X Gn z_list, PySem.W.mg_none_of X Gn z_tuple, PySem.W.mg_none_of X Gn z_range, PySem.W.mg_none_of X Gn z_abs, PySem.W.mg_none_of X Gn z_int, PySem.W.mg_none_of X Gn z_isi, PySem.W.mg_none_of X Gn z_all, PySem.W.mg_none_of X Gn z_str, PySem.W.mg_none_of X Gn z_bool⟩
  have ZI : IniAt l.prog K E0 fI (PySem.W.ksFn "__init__" "TextError.__init__" (defArgs s_ti) (defBody s_ti) (defScope s_ti) .none ikV idoc ipm ian (.ref icda) ict icc) s_ti "TextError.__init__" := ⟨⟨_, _, _, _, _, _, _, _, _, _, _, _, _, _, _, _, _, _, _, rfl, xe_li, xe_ci, xe_di, xd_vi, xd_fi, xe_ce⟩, ⟨⟨_, _, _, _, _, _, _, _, _, _, _, _, _, _, _, xe_l, xd_v⟩, xe_s, xe_x, xe_t, xe_k⟩, xe_m, xu_u, xe_w, xe_n, xd_h, xe_p, xe_g⟩
  have bI : Binds K (PySem.W.ksFn "__init__" "TextError.__init__" (defArgs s_ti) (defBody s_ti) (defScope s_ti) .none ikV idoc ipm ian (.ref icda) ict icc) ["self", "place", "message"] [] := .all fun us hl => match us, hl with | [_, _, _], _ => rfl
  have D0 : Ds ⟨l.prog, w, K, mg, base⟩ := ⟨⟨_, _, F0, b0, PySem.W.mg_of X Gn a0⟩, ⟨_, _, F1, b1, PySem.W.mg_of X Gn a1⟩, ⟨_, _, F2, b2, PySem.W.mg_of X Gn a2⟩, ⟨_, _, _, PySem.W.mg_of X Gn aC0, ⟨mk0, a3, i3, kc0⟩, F3, b3⟩, ⟨_, _, _, PySem.W.mg_of X Gn aC0, ⟨pg0, hd0, po0, sa0⟩, ⟨a4, i4, k4⟩, F4, b4⟩, ⟨_, _, _, PySem.W.mg_of X Gn aC0, ⟨pg0, hd0, po0, sa0⟩, ⟨a5, i5, k5⟩, F5, b5⟩, ⟨_, _, _, PySem.W.mg_of X Gn aC0, ⟨pg0, hd0, po0, sa0⟩, ⟨a6, i6, k6⟩, F6, b6⟩, ⟨_, _, _, PySem.W.mg_of X Gn aC0, ⟨pg0, hd0, po0, sa0⟩, ⟨a7, i7, k7⟩, F7, b7⟩, ⟨_, _, _, PySem.W.mg_of X Gn aC0, ⟨pg0, hd0, po0, sa0⟩, ⟨a8, i8, k8⟩, F8, b8⟩, ⟨_, _, _, PySem.W.mg_of X Gn aC0, ⟨pg0, hd0, po0, sa0⟩, ⟨a9, i9, k9⟩, F9, b9⟩, ⟨_, _, _, PySem.W.mg_of X Gn aC0, ⟨pg0, hd0, po0, sa0⟩, ⟨a10, i10, k10⟩, F10, b10⟩, ⟨_, _, _, PySem.W.mg_of X Gn aC0, ⟨pg0, hd0, po0, sa0⟩, ⟨a11, i11, k11⟩, F11, b11⟩, ⟨_, _, F12, b12, PySem.W.mg_of X Gn a12⟩, ⟨_, _, F13, b13, PySem.W.mg_of X Gn a13⟩, ⟨_, _, F14, b14, PySem.W.mg_of X Gn a14⟩, ⟨_, _, F15, b15, PySem.W.mg_of X Gn a15⟩, ⟨_, _, F16, b16, PySem.W.mg_of X Gn a16⟩, ⟨_, _, F17, b17, PySem.W.mg_of X Gn a17⟩, ⟨_, _, F18, b18, PySem.W.mg_of X Gn a18⟩, ⟨_, _, F19, b19, PySem.W.mg_of X Gn a19⟩, ⟨_, _, F20, b20, PySem.W.mg_of X Gn a20⟩, ⟨_, _, F21, b21, PySem.W.mg_of X Gn a21⟩, ⟨_, PySem.W.mg_of X Gn aC0, ⟨pg0, hd0, po0, sa0⟩, nA0_size⟩, ⟨_, PySem.W.mg_of X Gn aC0, ⟨pg0, hd0, po0, sa0⟩, nA0_parts⟩, ⟨_, PySem.W.mg_of X Gn aC0, ⟨pg0, hd0, po0, sa0⟩, nA0_taken⟩, glob_str (PySem.W.mg_of X Gn gc_END), glob_int (PySem.W.mg_of X Gn gc_NAME_MOST), ex_for ti_text ZI (PySem.W.mg_of X Gn xe_a) xe_i xe_ti (PySem.W.mg_none_of X Gn xe_su) bI, ⟨E0, S0, ⟨PySem.W.mg_of X Gn xe_a, PySem.W.mg_of X Gn xe_sa, (exm_self ZI.cls xe_e).2, ⟨xe_ga, xe_gg, xe_x, xe_hd⟩, ⟨(exm_self ZI.cls xe_e).1, xe_ca, xe_cn, xe_ct, xe_mo⟩, xi_k, xe_sr, xe_g, xe_p, PySem.W.mg_none_of X Gn z_isi, PySem.W.mg_none_of X Gn z_str⟩⟩⟩
  exact f_law B D0 ⟨F21, b21, PySem.W.mg_of X Gn a21⟩
end K42
end VS
open PySem PySem.W PyProof.Rows in
set_option maxRecDepth 100000 in
set_option maxHeartbeats 0 in
theorem PySem.Challenge.cw_soonsettled_k42_errors_of_events_holds : PySem.Challenge.rw_soonsettled_k42_errors_of_events.Holds := by
  w_on; o_law; k_head; (case hw => w_witness2)
  k_fill
  refine L2.walk_of (l := PySem.Challenge.rw_soonsettled_k42_errors_of_events) (n := 63) (k := 20) (x := "_law_script") (CX := fun w => VX.CX PySem.Challenge.rw_soonsettled_k42_errors_of_events.prog w) (sp := fun w => VS.spTop _) rfl (by decide) rfl ⟨rfl, by decide, by decide⟩ (fun w h Y => PySem.W.kIn_of Y) ?F (fun w H a ns hl _ hS => ⟨a, ns, rfl, hS, hl, fun _ => rfl⟩) fun w H s e s' z => VS.cx_none z
  case F =>
    intro w mg fa h KX G hmg
    refine' VS.K42.all_mk KX G hmg ?aC0 ?pg0 ?hd0 ?po0 ?sa0 ?mk0 ?kc0 ?nA0_size ?nA0_parts ?nA0_taken ?gc_END ?gc_NAME_MOST ?a0 ?l0 ?c0 ?k0 ?a1 ?l1 ?c1 ?k1 ?a2 ?l2 ?c2 ?k2 ?a3 ?i3 ?l3 ?c3 ?k3 ?a4 ?i4 ?l4 ?c4 ?k4 ?a5 ?i5 ?l5 ?c5 ?k5 ?a6 ?i6 ?l6 ?c6 ?k6 ?a7 ?i7 ?l7 ?c7 ?k7 ?a8 ?i8 ?l8 ?c8 ?k8 ?a9 ?i9 ?l9 ?c9 ?k9 ?a10 ?i10 ?l10 ?c10 ?k10 ?a11 ?i11 ?l11 ?c11 ?k11 ?a12 ?l12 ?c12 ?k12 ?a13 ?l13 ?c13 ?k13 ?a14 ?l14 ?c14 ?k14 ?a15 ?l15 ?c15 ?k15 ?a16 ?l16 ?c16 ?k16 ?a17 ?l17 ?c17 ?k17 ?a18 ?l18 ?c18 ?k18 ?a19 ?l19 ?c19 ?k19 ?a20 ?l20 ?c20 ?k20 ?a21 ?l21 ?c21 ?k21 ?xe_a ?xe_l ?xd_v ?xe_s ?xe_x ?xe_t ?xe_k ?xe_i ?xe_ti ?xe_li ?xe_ci ?xe_di ?xd_vi ?xd_fi ?xe_ce ?xe_m ?xu_u ?xe_w ?xe_n ?xd_h ?xe_p ?xe_g ?xe_e ?xe_ga ?xe_gg ?xe_hd ?xe_su ?xe_sa ?xe_sr ?xe_ca ?xe_cn ?xe_ct ?xe_mo ?xi_k ?z_len ?z_list ?z_tuple ?z_range ?z_abs ?z_int ?z_isi ?z_all ?z_str ?z_bool
    (case aC0 => k_is)
    (case pg0 => k_is)
    (case hd0 => k_is)
    (case po0 => k_is)
    (case sa0 => k_is)
    (case mk0 => k_is)
    (case kc0 => k_is)
    (case nA0_size => k_is)
    (case nA0_parts => k_is)
    (case nA0_taken => k_is)
    (case gc_END => k_is)
    (case gc_NAME_MOST => k_is)
    (case a0 => k_is)
    (case l0 => k_is)
    (case c0 => k_is)
    (case k0 => k_is)
    (case a1 => k_is)
    (case l1 => k_is)
    (case c1 => k_is)
    (case k1 => k_is)
    (case a2 => k_is)
    (case l2 => k_is)
    (case c2 => k_is)
    (case k2 => k_is)
    (case a3 => k_is)
    (case i3 => k_is)
    (case l3 => k_is)
    (case c3 => k_is)
    (case k3 => k_is)
    (case a4 => k_is)
    (case i4 => k_is)
    (case l4 => k_is)
    (case c4 => k_is)
    (case k4 => k_is)
    (case a5 => k_is)
    (case i5 => k_is)
    (case l5 => k_is)
    (case c5 => k_is)
    (case k5 => k_is)
    (case a6 => k_is)
    (case i6 => k_is)
    (case l6 => k_is)
    (case c6 => k_is)
    (case k6 => k_is)
    (case a7 => k_is)
    (case i7 => k_is)
    (case l7 => k_is)
    (case c7 => k_is)
    (case k7 => k_is)
    (case a8 => k_is)
    (case i8 => k_is)
    (case l8 => k_is)
    (case c8 => k_is)
    (case k8 => k_is)
    (case a9 => k_is)
    (case i9 => k_is)
    (case l9 => k_is)
    (case c9 => k_is)
    (case k9 => k_is)
    (case a10 => k_is)
    (case i10 => k_is)
    (case l10 => k_is)
    (case c10 => k_is)
    (case k10 => k_is)
    (case a11 => k_is)
    (case i11 => k_is)
    (case l11 => k_is)
    (case c11 => k_is)
    (case k11 => k_is)
    (case a12 => k_is)
    (case l12 => k_is)
    (case c12 => k_is)
    (case k12 => k_is)
    (case a13 => k_is)
    (case l13 => k_is)
    (case c13 => k_is)
    (case k13 => k_is)
    (case a14 => k_is)
    (case l14 => k_is)
    (case c14 => k_is)
    (case k14 => k_is)
    (case a15 => k_is)
    (case l15 => k_is)
    (case c15 => k_is)
    (case k15 => k_is)
    (case a16 => k_is)
    (case l16 => k_is)
    (case c16 => k_is)
    (case k16 => k_is)
    (case a17 => k_is)
    (case l17 => k_is)
    (case c17 => k_is)
    (case k17 => k_is)
    (case a18 => k_is)
    (case l18 => k_is)
    (case c18 => k_is)
    (case k18 => k_is)
    (case a19 => k_is)
    (case l19 => k_is)
    (case c19 => k_is)
    (case k19 => k_is)
    (case a20 => k_is)
    (case l20 => k_is)
    (case c20 => k_is)
    (case k20 => k_is)
    (case a21 => k_is)
    (case l21 => k_is)
    (case c21 => k_is)
    (case k21 => k_is)
    (case xe_a => k_is)
    (case xe_l => k_is)
    (case xd_v => first | decide +kernel | exact rfl | kernel_rfl)
    (case xe_s => k_is)
    (case xe_x => k_is)
    (case xe_t => k_is)
    (case xe_k => k_is)
    (case xe_i => k_is)
    (case xe_ti => k_is)
    (case xe_li => k_is)
    (case xe_ci => k_is)
    (case xe_di => k_is)
    (case xd_vi => first | decide +kernel | exact rfl | kernel_rfl)
    (case xd_fi => first | decide +kernel | exact rfl | kernel_rfl)
    (case xe_ce => k_is)
    (case xe_m => k_is)
    (case xu_u => ks_is)
    (case xe_w => k_is)
    (case xe_n => k_is)
    (case xd_h => first | decide +kernel | exact rfl | kernel_rfl)
    (case xe_p => k_is)
    (case xe_g => k_is)
    (case xe_e => k_is)
    (case xe_ga => k_is)
    (case xe_gg => k_is)
    (case xe_hd => k_is)
    (case xe_su => k_is)
    (case xe_sa => k_is)
    (case xe_sr => k_is)
    (case xe_ca => k_is)
    (case xe_cn => k_is)
    (case xe_ct => k_is)
    (case xe_mo => k_is)
    (case xi_k => kit_is)
    (case z_len => k_is)
    (case z_list => k_is)
    (case z_tuple => k_is)
    (case z_range => k_is)
    (case z_abs => k_is)
    (case z_int => k_is)
    (case z_isi => k_is)
    (case z_all => k_is)
    (case z_str => k_is)
    (case z_bool => k_is)
