import PyProof.Rows.All
import Wide.All
import OpenK.AllK
import Wide.FinOn
import HandS.ForMost
import HandS.Zip
import HandS.Flow
import HandS.Strs
import HandS.IsInst
import HandS.Conv
import HandS.NoneIn
import HandS.WideBits
import HandS.TupAny
import HandS.TupMul
import HandS.DictComp
import HandS.Deep
import HandS.SetFor
import KE.SortData
import KE.DataMinMax
import KE.DataCmp
import PyProof.ReprRoads
import PyProof.Rows.SeqMore
import HandS.RaiseMore
import KE.SortKeyHeap
import HandS.SortKw
import KE.GoesMore
import HandS.Walk
import HandS.Small
import HandS.Style
import HandS.Defaults
import HandS.Ends
import HandS.HeadHook2
import HandS.HeadEnd
import KE.DatumOrd
import HandS.Head0
import HandS.Head1
import HandS.Head2
import HandS.HeadHook1
import HandS.HeadHook4
import PySem.Challenge.RW_deadmade_k22_whole_depths_and_losses
set_option autoImplicit false
set_option Elab.async false
set_option linter.all false
set_option maxRecDepth 100000
set_option maxHeartbeats 0
/-! Values of a small pure reading of Python, and how the abstract heap bears them. -/
namespace Mi
open PySem L2

abbrev Frg := PySem.W.Frag

/-- a value: frozen data, or a list, a dict, a tuple whose parts may still be owned -/
inductive AV where
  | d (x : PyData)
  | own (ts : List AV)
  | odk (ks : List Key) (ts : List AV)
  | tup (ts : List AV)

abbrev SEnv := List (Option AV)

def keyD : Key → PyData
  | .inl i => .int i
  | .inr s => .str s

mutual
def AV.dat : AV → PyData
  | .d x => x
  | .own ts => .list (datL ts)
  | .odk ks ts => .dict ((ks.map keyD).zip (datL ts))
  | .tup ts => .tuple (datL ts)
def datL : List AV → List PyData
  | [] => []
  | t :: ts => t.dat :: datL ts
end

/-! ### frozen data -/
mutual
inductive Rp (K : Frg) (F : Hp) : V → PyData → Prop
  | non : Rp K F .non .none
  | bl (b : Bool) : Rp K F (.bl b) (.bool b)
  | int (i : Int) : Rp K F (.int i) (.int i)
  | str (x : Str) : Rp K F (.str x) (.str x)
  | lst {a : Addr} {xs : List V} {ds : List PyData} : SqL K F a xs → RpL K F xs ds → Rp K F (.ref a) (.list ds)
  | tup {a : Addr} {xs : List V} {ds : List PyData} : SqT K F a xs → RpL K F xs ds → Rp K F (.ref a) (.tuple ds)
  | dct {a : Addr} {kvs : List (Key × V)} {ds : List PyData} {ps : List (PyData × PyData)} : Rd F a (.dK kvs) → RpL K F (kvs.map (·.2)) ds → ps = (kvs.map fun kv => keyD kv.1).zip ds → Rp K F (.ref a) (.dict ps)
inductive RpL (K : Frg) (F : Hp) : List V → List PyData → Prop
  | nil : RpL K F [] []
  | cons {v : V} {vs : List V} {d : PyData} {ds : List PyData} : Rp K F v d → RpL K F vs ds → RpL K F (v :: vs) (d :: ds)
end

/-- what may be read may still be read -/
def Ext (F G : Hp) : Prop := ∀ a u, Rd F a u → Rd G a u
theorem Ext.refl (F : Hp) : Ext F F := fun _ _ h => h
theorem Ext.trans {F G H : Hp} (a : Ext F G) (b : Ext G H) : Ext F H := fun x u h => b x u (a x u h)
theorem Ext.of {F G : Hp} (s : Same F G) : Ext F G := fun a u h => by
  rcases h with h | ⟨o, h⟩
  · exact .inl (s a _ h)
  · exact .inr ⟨o, s a _ h⟩
theorem sqL_mono {K : Frg} {F G : Hp} {a : Addr} {xs : List V} (s : Ext F G) (h : SqL K F a xs) : SqL K G a xs := h.elim (fun h => .inl (s _ _ h)) .inr
theorem sqT_mono {K : Frg} {F G : Hp} {a : Addr} {xs : List V} (s : Ext F G) (h : SqT K F a xs) : SqT K G a xs := h.elim (fun h => .inl (s _ _ h)) .inr

section
variable {K : Frg} {F G : Hp}
mutual
theorem Rp.mono (s : Ext F G) : ∀ {v : V} {d : PyData}, Rp K F v d → Rp K G v d
  | _, _, .non => .non
  | _, _, .bl b => .bl b
  | _, _, .int i => .int i
  | _, _, .str x => .str x
  | _, _, .lst h hs => .lst (sqL_mono s h) (RpL.mono s hs)
  | _, _, .tup h hs => .tup (sqT_mono s h) (RpL.mono s hs)
  | _, _, .dct h hs e => .dct (s _ _ h) (RpL.mono s hs) e
theorem RpL.mono (s : Ext F G) : ∀ {vs : List V} {ds : List PyData}, RpL K F vs ds → RpL K G vs ds
  | _, _, .nil => .nil
  | _, _, .cons h hs => .cons (Rp.mono s h) (RpL.mono s hs)
end

theorem RpL.length : ∀ {vs : List V} {ds : List PyData}, RpL K F vs ds → vs.length = ds.length
  | _, _, .nil => rfl
  | _, _, .cons _ hs => by simp [RpL.length hs]
theorem RpL.get : ∀ {vs : List V} {ds : List PyData}, RpL K F vs ds → ∀ {i : Nat} {d : PyData}, ds[i]? = some d → ∃ v, vs[i]? = some v ∧ Rp K F v d
  | _, _, .nil, i, d, h => by simp at h
  | _, _, .cons hv _, 0, d, h => by
    have e := Option.some.inj h
    subst e
    exact ⟨_, rfl, hv⟩
  | _, _, .cons _ hs, i + 1, d, h => RpL.get hs (i := i) (by simpa using h)
theorem RpL.getV : ∀ {vs : List V} {ds : List PyData}, RpL K F vs ds → ∀ {i : Nat} {v : V}, vs[i]? = some v → ∃ d, ds[i]? = some d ∧ Rp K F v d
  | _, _, .nil, i, d, h => by simp at h
  | _, _, .cons hv _, 0, d, h => by
    have e := Option.some.inj h
    subst e
    exact ⟨_, rfl, hv⟩
  | _, _, .cons _ hs, i + 1, d, h => RpL.getV hs (i := i) (by simpa using h)
theorem RpL.append : ∀ {vs ws : List V} {ds es : List PyData}, RpL K F vs ds → RpL K F ws es → RpL K F (vs ++ ws) (ds ++ es)
  | _, _, _, _, .nil, h => h
  | _, _, _, _, .cons hv hs, h => .cons hv (RpL.append hs h)
theorem RpL.take : ∀ {vs : List V} {ds : List PyData} (n : Nat), RpL K F vs ds → RpL K F (vs.take n) (ds.take n)
  | _, _, 0, _ => .nil
  | _, _, _ + 1, .nil => .nil
  | _, _, n + 1, .cons hv hs => .cons hv (RpL.take n hs)
theorem RpL.drop : ∀ {vs : List V} {ds : List PyData} (n : Nat), RpL K F vs ds → RpL K F (vs.drop n) (ds.drop n)
  | _, _, 0, h => h
  | _, _, _ + 1, .nil => .nil
  | _, _, n + 1, .cons _ hs => RpL.drop n hs
theorem RpL.set {v : V} {d : PyData} (h : Rp K F v d) : ∀ {vs : List V} {ds : List PyData} (i : Nat), RpL K F vs ds → RpL K F (vs.set i v) (ds.set i d)
  | _, _, _, .nil => .nil
  | _, _, 0, .cons _ hs => .cons h hs
  | _, _, i + 1, .cons hv hs => .cons hv (RpL.set h i hs)
theorem RpL.erase : ∀ {vs : List V} {ds : List PyData} (i : Nat), RpL K F vs ds → RpL K F (vs.eraseIdx i) (ds.eraseIdx i)
  | _, _, _, .nil => .nil
  | _, _, 0, .cons _ hs => hs
  | _, _, i + 1, .cons hv hs => .cons hv (RpL.erase i hs)
theorem RpL.dropLast {vs : List V} {ds : List PyData} (h : RpL K F vs ds) : RpL K F vs.dropLast ds.dropLast := by
  rw [List.dropLast_eq_take, List.dropLast_eq_take, h.length]
  exact h.take _
theorem RpL.reverse : ∀ {vs : List V} {ds : List PyData}, RpL K F vs ds → RpL K F vs.reverse ds.reverse
  | _, _, .nil => .nil
  | _, _, .cons hv hs => by
    rw [List.reverse_cons, List.reverse_cons]
    exact RpL.append (RpL.reverse hs) (.cons hv .nil)
theorem RpL.rep {vs : List V} {ds : List PyData} (h : RpL K F vs ds) : ∀ n : Nat, RpL K F (List.replicate n vs).flatten (List.replicate n ds).flatten
  | 0 => .nil
  | n + 1 => by
    rw [List.replicate_succ, List.replicate_succ, List.flatten_cons, List.flatten_cons]
    exact h.append (RpL.rep h n)

theorem Rp.int_inv {v : V} {i : Int} (h : Rp K F v (.int i)) : v = .int i := by cases h; rfl
theorem Rp.bl_inv {v : V} {b : Bool} (h : Rp K F v (.bool b)) : v = .bl b := by cases h; rfl
theorem Rp.str_inv {v : V} {x : Str} (h : Rp K F v (.str x)) : v = .str x := by cases h; rfl
theorem Rp.non_inv {v : V} (h : Rp K F v .none) : v = .non := by cases h; rfl
theorem Rp.lst_inv {v : V} {ds : List PyData} (h : Rp K F v (.list ds)) : ∃ a xs, v = .ref a ∧ SqL K F a xs ∧ RpL K F xs ds := by cases h with | lst h hs => exact ⟨_, _, rfl, h, hs⟩
theorem Rp.tup_inv {v : V} {ds : List PyData} (h : Rp K F v (.tuple ds)) : ∃ a xs, v = .ref a ∧ SqT K F a xs ∧ RpL K F xs ds := by cases h with | tup h hs => exact ⟨_, _, rfl, h, hs⟩
theorem Rp.dct_inv {v : V} {ps : List (PyData × PyData)} (h : Rp K F v (.dict ps)) : ∃ a kvs ds, v = .ref a ∧ Rd F a (.dK kvs) ∧ RpL K F (kvs.map (·.2)) ds ∧ ps = (kvs.map fun kv => keyD kv.1).zip ds := by cases h with | dct h hs e => exact ⟨_, _, _, rfl, h, hs, e⟩
theorem RpL.ints : ∀ {vs : List V} {ns : List Int}, RpL K F vs (ns.map .int) → vs = ns.map .int
  | _, [], .nil => rfl
  | _, n :: ns, .cons h hs => by
    rw [h.int_inv, RpL.ints hs]
    rfl
theorem RpL.ofInts : ∀ ns : List Int, RpL K F (ns.map .int) (ns.map .int)
  | [] => .nil
  | n :: ns => .cons (.int n) (RpL.ofInts ns)
end

/-! ### what is owned -/
mutual
inductive TR (K : Frg) (F H : Hp) : V → AV → List Addr → Prop
  | d {v : V} {x : PyData} : Rp K F v x → TR K F H v (.d x) []
  | own {a : Addr} {vs : List V} {ts : List AV} {fp : List Addr} : H a = some (.lst vs) → TRs K F H vs ts fp → TR K F H (.ref a) (.own ts) (a :: fp)
  | odk {a : Addr} {kvs : List (Key × V)} {ks : List Key} {ts : List AV} {fp : List Addr} : H a = some (.dK kvs) → kvs.map (·.1) = ks → TRs K F H (kvs.map (·.2)) ts fp → TR K F H (.ref a) (.odk ks ts) (a :: fp)
  | tup {a : Addr} {vs : List V} {ts : List AV} {fp : List Addr} : SqT K F a vs → TRs K F H vs ts fp → TR K F H (.ref a) (.tup ts) fp
inductive TRs (K : Frg) (F H : Hp) : List V → List AV → List Addr → Prop
  | nil : TRs K F H [] [] []
  | cons {v : V} {vs : List V} {t : AV} {ts : List AV} {fp fq : List Addr} : TR K F H v t fp → TRs K F H vs ts fq → TRs K F H (v :: vs) (t :: ts) (fp ++ fq)
end
section
variable {K : Frg} {F F' H H' : Hp}
mutual
theorem TR.mono (s : Ext F F') : ∀ {v : V} {t : AV} {fp : List Addr}, TR K F H v t fp → (∀ a ∈ fp, ∀ o, H a = some o → H' a = some o) → TR K F' H' v t fp
  | _, _, _, .d h, _ => .d (h.mono s)
  | _, _, _, .own h hs, k => .own (k _ List.mem_cons_self _ h) (TRs.mono s hs fun a m => k a (List.mem_cons_of_mem _ m))
  | _, _, _, .odk h e hs, k => .odk (k _ List.mem_cons_self _ h) e (TRs.mono s hs fun a m => k a (List.mem_cons_of_mem _ m))
  | _, _, _, .tup h hs, k => .tup (sqT_mono s h) (TRs.mono s hs k)
theorem TRs.mono (s : Ext F F') : ∀ {vs : List V} {ts : List AV} {fp : List Addr}, TRs K F H vs ts fp → (∀ a ∈ fp, ∀ o, H a = some o → H' a = some o) → TRs K F' H' vs ts fp
  | _, _, _, .nil, _ => .nil
  | _, _, _, .cons h hs, k => .cons (TR.mono s h fun a m => k a (List.mem_append_left _ m)) (TRs.mono s hs fun a m => k a (List.mem_append_right _ m))
end
mutual
theorem TR.there : ∀ {v : V} {t : AV} {fp : List Addr}, TR K F H v t fp → ∀ a ∈ fp, ∃ o, H a = some o
  | _, _, _, .d _, a, m => nomatch m
  | _, _, _, .own h hs, a, m => by
    rcases List.mem_cons.mp m with rfl | m
    · exact ⟨_, h⟩
    · exact TRs.there hs a m
  | _, _, _, .odk h _ hs, a, m => by
    rcases List.mem_cons.mp m with rfl | m
    · exact ⟨_, h⟩
    · exact TRs.there hs a m
  | _, _, _, .tup _ hs, a, m => TRs.there hs a m
theorem TRs.there : ∀ {vs : List V} {ts : List AV} {fp : List Addr}, TRs K F H vs ts fp → ∀ a ∈ fp, ∃ o, H a = some o
  | _, _, _, .nil, a, m => nomatch m
  | _, _, _, .cons h hs, a, m => by
    rcases List.mem_append.mp m with m | m
    · exact TR.there h a m
    · exact TRs.there hs a m
end
/-! what is owned may be frozen: in any G that has F and the owned objects as they stand -/
mutual
theorem TR.freeze {G : Hp} (s : Ext F G) : ∀ {v : V} {t : AV} {fp : List Addr}, TR K F H v t fp → (∀ a ∈ fp, ∀ o, H a = some o → G a = some o) → Rp K G v t.dat
  | _, _, _, .d h, _ => by
    unfold AV.dat
    exact h.mono s
  | _, _, _, .own h hs, k => by
    unfold AV.dat
    exact .lst (.inl (.inl (k _ List.mem_cons_self _ h))) (TRs.freeze s hs fun a m => k a (List.mem_cons_of_mem _ m))
  | _, _, _, .odk h e hs, k => by
    unfold AV.dat
    refine .dct (.inl (k _ List.mem_cons_self _ h)) (TRs.freeze s hs fun a m => k a (List.mem_cons_of_mem _ m)) ?_
    rw [← e, List.map_map]
    rfl
  | _, _, _, .tup h hs, k => by
    unfold AV.dat
    exact .tup (sqT_mono s h) (TRs.freeze s hs k)
theorem TRs.freeze {G : Hp} (s : Ext F G) : ∀ {vs : List V} {ts : List AV} {fp : List Addr}, TRs K F H vs ts fp → (∀ a ∈ fp, ∀ o, H a = some o → G a = some o) → RpL K G vs (datL ts)
  | _, _, _, .nil, _ => by
    unfold datL
    exact .nil
  | _, _, _, .cons h hs, k => by
    unfold datL
    exact .cons (TR.freeze s h fun a m => k a (List.mem_append_left _ m)) (TRs.freeze s hs fun a m => k a (List.mem_append_right _ m))
end
theorem TRs.length : ∀ {vs : List V} {ts : List AV} {fp : List Addr}, TRs K F H vs ts fp → vs.length = ts.length
  | _, _, _, .nil => rfl
  | _, _, _, .cons _ hs => by simp [TRs.length hs]
theorem TRs.append : ∀ {vs ws : List V} {ts us : List AV} {fp fq : List Addr}, TRs K F H vs ts fp → TRs K F H ws us fq → TRs K F H (vs ++ ws) (ts ++ us) (fp ++ fq)
  | _, _, _, _, _, _, .nil, h => h
  | _, _, _, _, _, _, .cons hv hs, h => by
    rw [List.append_assoc]
    exact .cons hv (TRs.append hs h)
theorem TRs.one {v : V} {t : AV} {fp : List Addr} (h : TR K F H v t fp) : TRs K F H [v] [t] fp := by
  have := TRs.cons h .nil
  rwa [List.append_nil] at this
/-- frozen items -/
theorem TRs.ofRp : ∀ {vs : List V} {ds : List PyData}, RpL K F vs ds → TRs K F H vs (ds.map .d) []
  | _, _, .nil => .nil
  | _, _, .cons h hs => TRs.cons (fp := []) (fq := []) (.d h) (TRs.ofRp hs)
end

/-! ### the whole state -/
abbrev Fps := Nat → List Addr
def ownd (fps : Fps) : Addr → Prop := fun a => ∃ i, a ∈ fps i

structure SK (K : Frg) (F : Hp) (fps : Fps) (σ : L2.St) (H : Hp) (env : SEnv) : Prop where
  slot : ∀ (i : Nat) (t : AV), env[i]? = some (some t) → ∃ v, σ[i]? = some (some v) ∧ TR K F H v t (fps i)
  nd : ∀ i, (fps i).Nodup
  dis : ∀ i j a, a ∈ fps i → a ∈ fps j → i = j
  free : ∀ i a, a ∈ fps i → F a = none
  there : ∀ i a, a ∈ fps i → ∃ o, H a = some o
  sub : Ext F H
  len : σ.length = env.length

/-- from one state to a later one: F frozen, W owned, H the heap -/
structure Step (F : Hp) (W : Addr → Prop) (H F' : Hp) (W' : Addr → Prop) (H' : Hp) : Prop where
  f : Ext F F'
  k : ∀ a o, H a = some o → ¬ W a → H' a = some o
  n : ∀ a, F' a ≠ none → F a ≠ none ∨ W a ∨ H a = none
  w : ∀ a, W' a → W a ∨ H a = none
theorem Step.refl {F : Hp} {W : Addr → Prop} {H : Hp} : Step F W H F W H := ⟨Ext.refl F, fun _ _ h _ => h, fun _ h => .inl h, fun _ h => .inl h⟩
theorem Step.trans {F F1 F2 H H1 H2 : Hp} {W W1 W2 : Addr → Prop} (a : Step F W H F1 W1 H1) (b : Step F1 W1 H1 F2 W2 H2) : Step F W H F2 W2 H2 := by
  have back : ∀ x, W1 x ∨ H1 x = none → W x ∨ H x = none := fun x h => by
    rcases h with h | h
    · exact a.w x h
    · by_cases hw : W x
      · exact .inl hw
      · cases e : H x with
        | none => exact .inr rfl
        | some o => rw [a.k x o e hw] at h; cases h
  refine ⟨a.f.trans b.f, fun x o h hw => b.k x o (a.k x o h hw) fun h1 => ?_, fun x h => ?_, fun x h => ?_⟩
  · rcases a.w x h1 with h2 | h2
    · exact hw h2
    · rw [h2] at h; cases h
  · rcases b.n x h with h1 | h1
    · exact a.n x h1
    · exact .inr (back x h1)
  · rcases b.w x h with h1 | h1
    · exact a.w x h1
    · exact back x (.inr h1)
theorem Step.weak {F F' H H' : Hp} {W W' W2 : Addr → Prop} (a : Step F W H F' W' H') (h : ∀ x, W2 x → W' x) : Step F W H F' W2 H' := ⟨a.f, a.k, a.n, fun x hx => a.w x (h x hx)⟩
theorem Step.more {F F' H H' : Hp} {W W' W2 : Addr → Prop} (a : Step F W H F' W' H') (h : ∀ x, W x → W2 x) : Step F W2 H F' W' H' :=
  ⟨a.f, fun x o e n => a.k x o e fun z => n (h x z), fun x e => (a.n x e).elim .inl fun z => .inr (z.elim (fun y => .inl (h x y)) .inr), fun x e => (a.w x e).elim (fun y => .inl (h x y)) .inr⟩
/-- something that the step does not own is as it was, and is owned by nobody behind it -/
theorem Step.apart {F F' H H' : Hp} {W W' : Addr → Prop} (a : Step F W H F' W' H') {x : Addr} {o : HO} (h : H x = some o) (hw : ¬ W x) : H' x = some o ∧ ¬ W' x ∧ (F x = none → F' x = none) := by
  refine ⟨a.k x o h hw, fun h1 => ?_, fun hF => ?_⟩
  · rcases a.w x h1 with h2 | h2
    · exact hw h2
    · rw [h2] at h; cases h
  · cases e : F' x with
    | none => rfl
    | some u =>
      rcases a.n x (by rw [e]; simp) with h1 | h1 | h1
      · exact absurd hF h1
      · exact absurd h1 hw
      · rw [h1] at h; cases h
/-- .. so is a whole owned tree beside it -/
theorem Step.tr {K : Frg} {F F' H H' : Hp} {W W' : Addr → Prop} (a : Step F W H F' W' H') {v : V} {t : AV} {fp : List Addr} (h : TR K F H v t fp) (hw : ∀ x ∈ fp, ¬ W x) : TR K F' H' v t fp := h.mono a.f fun x m o e => a.k x o e (hw x m)
theorem Step.trs {K : Frg} {F F' H H' : Hp} {W W' : Addr → Prop} (a : Step F W H F' W' H') {v : List V} {t : List AV} {fp : List Addr} (h : TRs K F H v t fp) (hw : ∀ x ∈ fp, ¬ W x) : TRs K F' H' v t fp := h.mono a.f fun x m o e => a.k x o e (hw x m)
end Mi
/-! A small syntax with places for names, and its pure reading. -/
namespace Mi
open PySem L2

/-- built-in classes that isinstance is asked about -/
inductive PTy where
  | int | bool | str | tup | lst | dct
  deriving DecidableEq
/-- built-in functions -/
inductive Bi where
  | len | abs | int | max2 | min2 | divmod | list | tuple | sorted | sset | lset | sum | all | any | min1 | max1 | repr | range1 | range2 | range3 | enum | zip | items | vals
  deriving DecidableEq

inductive E where
  | var (i : Nat) | mv (i : Nat) | ref (i : Nat) | lend (i : Nat)
  | lit (x : PyData)
  | glob (g : Nat) (x : PyData)
  | bin (op : Operator) (a b : E)
  | neg (a : E)
  | cmp (op : CmpOp) (a b : E)
  | chain (o1 o2 : CmpOp) (a b c : E)
  | and (a b : E) | or (a b : E) | not (a : E)
  | ife (c a b : E)
  | tup (es : E) | lst (es : E) | dnew
  | ix (a i : E)
  | slc (a lo hi : E)
  | call (f : Nat) (es : E)
  | callk (f : Nat) (pm : List Nat) (es : E)
  | bi (b : Bi) (es : E)
  | isi (a : E) (ts : List PTy)
  | pop (i : Nat) | popi (i : Nat) (e : E) | repL (es : E) | frz (a : E)
  | rg1 (t : Bool) (a : E) | rg2 (t : Bool) (a b : E)
  | get1 (o k : E) | get2 (o k e : E)
  | srtl (a : E) | dctp (a : E) | lset (a : E)
  | lc (own : List Nat) (tg : E) (it cond elt : E)
  | dc (own : List Nat) (tg : E) (it cond k v : E)
  | lc2 (own own1 : List Nat) (tg it cond tg1 : E) (k : Nat) (cond1 elt : E)
  | nil | cons (a b : E)

inductive S where
  | skip | never
  | seq (a b : S)
  | asg (tg : E) (e : E)
  | par (i j : Nat) (a b : E) | par3 (i j k : Nat) (a b c : E)
  | sub (i : Nat) (k e : E) | sbp (i : Nat) (k : E) (j : Nat) (e : E)
  | app (i : Nat) (e : E) | app1 (i : Nat) (k e : E) | ext (i : Nat) (e : E)
  | expr (e : E)
  | ife (c : E) (a b : S)
  | whil (c : E) (b : S)
  | forr (tg it : E) (b : S)
  | ret (e : E) | retn | brk | cnt
  | fgt (is : List Nat)
  | aug (i : Nat) (op : Operator) (e : E)

/-! ### looking at values -/
def LIM : Nat := 1000000

def leafs : List AV → Option (List PyData)
  | [] => some []
  | .d x :: r => (leafs r).map (x :: ·)
  | _ :: _ => none
def AV.lst? : AV → Option (List PyData)
  | .d (.list xs) => some xs
  | .own ts => leafs ts
  | _ => none
def AV.tup? : AV → Option (List PyData)
  | .d (.tuple xs) => some xs
  | .tup ts => leafs ts
  | _ => none
def AV.seq? : AV → Option (List PyData)
  | .d (.list xs) => some xs
  | .own ts => leafs ts
  | .d (.tuple xs) => some xs
  | .tup ts => leafs ts
  | _ => none
def mkTup (ts : List AV) : AV := match leafs ts with
  | some xs => .d (.tuple xs)
  | none => .tup ts
def fr (xs : List PyData) : AV := .own (xs.map .d)

def keyOf? : PyData → Option Key
  | .int i => some (.inl i)
  | .str s => some (.inr s)
  | _ => none
def keyIs : PyData → Key → Bool
  | .int i, .inl j => decide (i = j)
  | .str s, .inr u => decide (s = u)
  | _, _ => false
def dfind (ps : List (PyData × PyData)) (k : Key) : Option PyData := (ps.find? fun p => keyIs p.1 k).map (·.2)
def ofind (kts : List (Key × AV)) (k : Key) : Option AV := (kts.find? fun p => decide (p.1 = k)).map (·.2)
/-- the item of a dict at a key; some none: it is not there -/
def AV.at? (t : AV) (k : Key) : Option (Option AV) := match t with
  | .d (.dict ps) => some ((dfind ps k).map .d)
  | .odk ks ts => some (ofind (ks.zip ts) k)
  | _ => none
def oput (ks : List Key) (ts : List AV) (k : Key) (t : AV) : List Key × List AV := if (ks.any fun j => decide (j = k)) = true then (ks, (ks.zip ts).map fun p => if p.1 = k then t else p.2) else (ks ++ [k], ts ++ [t])

def getv (env : SEnv) (i : Nat) : Option AV := (env[i]?).join
inductive Opd where
  | slot (i : Nat)
  | val (t : AV)
def look (env : SEnv) : Opd → Option AV
  | .slot i => getv env i
  | .val t => some t
def AV.isDi : AV → Bool
  | .d (.dict _) => true
  | .odk _ _ => true
  | _ => false
def isOwn : Option AV → Bool
  | some (.own _) => true
  | _ => false
def wipeE (env : SEnv) : List Nat → SEnv
  | [] => env
  | i :: is => (wipeE env is).set i none

def truth : PyData → Bool
  | .none => false
  | .bool b => b
  | .int i => i != 0
  | .str s => decide (s.length ≠ 0)
  | .list xs => !xs.isEmpty
  | .tuple xs => !xs.isEmpty
  | .dict ps => !ps.isEmpty
def strFit : PyData → Bool
  | .str s => decide (s.length ≤ LIM)
  | _ => true

/-! ### operators by values -/
def okMul (i j : Int) : Bool := decide (-(2 ^ 64) < i ∧ i < 2 ^ 64) || decide (-(2 ^ 64) < j ∧ j < 2 ^ 64)
def fitL (n : Nat) : Bool := decide (n ≤ LIM)
def catV (a b : AV) : Option AV := match a.lst?, b.lst? with
  | some xs, some ys => if fitL (xs.length + ys.length) then some (fr (xs ++ ys)) else none
  | _, _ => match a.tup?, b.tup? with
    | some xs, some ys => if fitL (xs.length + ys.length) then some (.d (.tuple (xs ++ ys))) else none
    | _, _ => none
def AV.own? : AV → Option (List PyData)
  | .own ts => leafs ts
  | _ => none
def repV (a : AV) (k : Int) : Option AV := match a.own? with
  | some xs => if decide (0 ≤ k ∧ k ≤ 1000000) && fitL (xs.length * k.toNat) then some (fr (List.replicate k.toNat xs).flatten) else none
  | none => match a.tup? with
    | some xs => if decide (xs ≠ [] ∧ 2 ≤ k ∧ k ≤ 1000 ∧ xs.length ≤ 1000) then some (.d (.tuple (List.replicate k.toNat xs).flatten))
      else if decide ((xs = [] ∨ k ≤ 1) ∧ -(2 ^ 62) ≤ k ∧ k < 2 ^ 62) then some (.d (.tuple (List.replicate k.toNat xs).flatten)) else none
    | none => none
def binV (op : Operator) (a b : AV) : Option AV := match a, b with
  | .d (.int i), .d (.int j) => match op with
    | .Add => some (.d (.int (i + j)))
    | .Sub => some (.d (.int (i - j)))
    | .Mult => if okMul i j then some (.d (.int (i * j))) else none
    | .Mod => if decide (0 < j) then some (.d (.int (i % j))) else none
    | .FloorDiv => if decide (0 < j ∧ j < 1073741824) then some (.d (.int (i / j))) else none
    | .Pow => if decide (0 ≤ j ∧ j ≤ 10000) && decide (i.natAbs < 2 ^ 64) then some (.d (.int (i ^ j.toNat))) else none
    | _ => none
  | .d (.str x), .d (.str y) => match op with
    | .Add => if fitL (x.length + y.length) then some (.d (.str (x ++ y))) else none
    | _ => none
  | a, .d (.int k) => match op with
    | .Mult => repV a k
    | _ => none
  | a, b => match op with
    | .Add => catV a b
    | _ => none

def noD : PyData → Bool := fun x => x.canLay0
def eqOk (x : PyData) : Bool := SeqAt.shaped x
def flatD : PyData → Bool
  | .none => true
  | .bool _ => true
  | .int _ => true
  | .str _ => true
  | _ => false
def isNoneD : PyData → Bool
  | .none => true
  | _ => false
def inVal (neg : Bool) (a b : AV) : Option Bool := match b.at? (.inl 0) with
  | some _ => (keyOf? a.dat).bind fun k => (b.at? k).map fun o => if neg then !o.isSome else o.isSome
  | none => match b.lst? with
    | some ys => if eqOk a.dat && eqOk (.list ys) then some (if neg then !ys.any fun y => PyData.eqv y a.dat else ys.any fun y => PyData.eqv y a.dat) else none
    | none => match b.tup? with
      | some ys => if flatD a.dat && ys.all flatD then some (if neg then !ys.any fun y => PyData.eqv y a.dat else ys.any fun y => PyData.eqv y a.dat) else none
      | none => none
def intCmp (g : Int → Int → Bool) : AV → AV → Option Bool
  | .d (.int i), .d (.int j) => some (g i j)
  | _, _ => none
def isBV : AV → AV → Option Bool
  | .d (.bool p), .d (.bool q) => some (p == q)
  | _, _ => none
def cmpV (op : CmpOp) (a b : AV) : Option Bool := match op with
  | .Eq => if eqOk a.dat && eqOk b.dat then some (PyData.eqv a.dat b.dat) else none
  | .NotEq => if eqOk a.dat && eqOk b.dat then some (!PyData.eqv a.dat b.dat) else none
  | .Is => if isNoneD b.dat then some (isNoneD a.dat) else isBV a b
  | .IsNot => if isNoneD b.dat then some (!isNoneD a.dat) else (isBV a b).map fun q => !q
  | .In => inVal false a b
  | .NotIn => inVal true a b
  | .Lt => intCmp (fun i j => decide (i < j)) a b
  | .LtE => intCmp (fun i j => decide (i ≤ j)) a b
  | .Gt => intCmp (fun i j => decide (j < i)) a b
  | .GtE => intCmp (fun i j => decide (j ≤ i)) a b

def ixV (a i : AV) : Option AV := match a with
  | .d (.list xs) | .d (.tuple xs) => match i with
    | .d (.int k) => (atI xs k).map .d
    | _ => none
  | .own ts | .tup ts => match i with
    | .d (.int k) => match atI ts k with
      | some (.d x) => some (.d x)
      | _ => none
    | _ => none
  | t => match i with
    | .d x => match (keyOf? x).bind t.at? with
      | some (some (.d y)) => some (.d y)
      | _ => none
    | _ => none
def partV : Option AV → Option (Option Int)
  | none => some none
  | some (.d (.int i)) => some (some i)
  | _ => none
def cutD (xs : List PyData) (lo hi : Option Int) : List PyData := (xs.drop (HT.sIx xs.length 0 lo)).take (HT.sIx xs.length xs.length hi - HT.sIx xs.length 0 lo)
def slcV (a : AV) (lo hi : Option Int) : Option AV := match a.lst? with
  | some xs => some (fr (cutD xs lo hi))
  | none => match a.tup? with
    | some xs => some (.d (.tuple (cutD xs lo hi)))
    | none => none

def isiD : PTy → PyData → Bool
  | .int, .int _ => true
  | .int, .bool _ => true
  | .bool, .bool _ => true
  | .str, .str _ => true
  | .tup, .tuple _ => true
  | .lst, .list _ => true
  | .dct, .dict _ => true
  | _, _ => false

/-! ### built-in functions by values -/
def allInts : List PyData → Option (List Int)
  | [] => some []
  | .int i :: r => (allInts r).map (i :: ·)
  | _ :: _ => none
def allBools : List PyData → Option (List Bool)
  | [] => some []
  | .bool b :: r => (allBools r).map (b :: ·)
  | _ :: _ => none
def alikes (xs : List PyData) : Bool := xs.all fun x => xs.all fun y => PySem.W.alike x y
def noNones (xs : List PyData) : Bool := xs.all fun x => match x with
  | .none => false
  | _ => true
def neTup : PyData → Bool
  | .tuple (_ :: _) => true
  | _ => false
def plainS : PyData → Bool
  | .none => false
  | .tuple _ => false
  | _ => true
def shallow (xs : List PyData) : Bool := decide (PyData.depthAll xs ≤ 60)
def sortV (xs : List PyData) : Option (List PyData) :=
  if alikes xs && (xs.all neTup || xs.all plainS) && PyData.canLayAll0 xs && fitL xs.length && shallow xs then some (xs.mergeSort (PySem.W.dataLe false id)) else none
def minV : List PyData → Option PyData
  | [] => none
  | x :: xs => if alikes (x :: xs) && noNones (x :: xs) && PyData.canLayAll0 (x :: xs) && shallow (x :: xs) then some (PySem.W.minD x xs) else none
def maxV : List PyData → Option PyData
  | [] => none
  | x :: xs => if alikes (x :: xs) && noNones (x :: xs) && PyData.canLayAll0 (x :: xs) && shallow (x :: xs) then some (PySem.W.maxD x xs) else none
def isSeqD : PyData → Bool
  | .list _ => true
  | .tuple _ => true
  | _ => false
def okRepr (x : PyData) : Bool := isSeqD x && x.canLay0 && x.showable && !x.hasDict && decide (x.depth ≤ 60) && fitL x.shown.length
/-- what is no sequence, shown -/
def atomR : PyData → Bool
  | .none => true
  | .bool _ => true
  | .int i => decide (i.natAbs.log2 < 1920)
  | _ => false
def reprV (x : PyData) : Option PyData := if okRepr x then some (.str x.shown) else if atomR x then some (.str x.shown) else none
def okDiv (i j : Int) : Bool := decide (0 < j ∧ j < 1073741824)
/-- a rising list without doubles -/
def insU (x : Int) : List Int → List Int
  | [] => [x]
  | y :: ys => if x < y then x :: y :: ys else if x = y then y :: ys else y :: insU x ys
def setL : List Int → List Int
  | [] => []
  | x :: xs => insU x (setL xs)
/-- a list of pairs (key, value) as keys and values -/
def pairsK : List PyData → Option (List Key × List PyData)
  | [] => some ([], [])
  | .tuple [k, v] :: r => match keyOf? k, pairsK r with
    | some key, some (ks, vs) => some (key :: ks, v :: vs)
    | _, _ => none
  | _ :: _ => none
/-- lists sorted by their lengths -/
def lenD : PyData → Int
  | .list xs => (xs.length : Int)
  | _ => 0
def isLstD : PyData → Bool
  | .list _ => true
  | _ => false
def srtL (xs : List PyData) : List PyData := xs.mergeSort (PySem.W.dataLe false fun x => .int (lenD x))
def biV (b : Bi) (ts : List AV) : Option AV := match b, ts with
  | .len, [t] => match t with
    | .d (.list xs) | .d (.tuple xs) => some (.d (.int xs.length))
    | .own us | .tup us => some (.d (.int us.length))
    | .d (.dict ps) => some (.d (.int ps.length))
    | .odk ks _ => some (.d (.int ks.length))
    | .d (.str s) => if fitL s.length then some (.d (.int s.length)) else none
    | _ => none
  | .abs, [.d (.int i)] => some (.d (.int (if i < 0 then -i else i)))
  | .int, [.d (.int i)] => some (.d (.int i))
  | .int, [.d (.bool c)] => some (.d (.int (if c then 1 else 0)))
  | .max2, [.d (.int i), .d (.int j)] => some (.d (.int (if i < j then j else i)))
  | .min2, [.d (.int i), .d (.int j)] => some (.d (.int (if j < i then j else i)))
  | .divmod, [.d (.int i), .d (.int j)] => if okDiv i j then some (.d (.tuple [.int (i / j), .int (i % j)])) else none
  | .list, [t] => match t with
    | .d (.dict ps) => some (fr (ps.map (·.1)))
    | .odk ks _ => some (fr (ks.map keyD))
    | t => t.seq?.map fr
  | .tuple, [t] => t.seq?.map fun xs => .d (.tuple xs)
  | .sorted, [t] => (t.lst?.bind sortV).map fr
  | .sset, [t] => match (t.seq?.bind allInts) with
    | some ns => if decide (ns.length ≤ 60) then some (fr ((setL ns).map .int)) else none
    | none => none
  | .sum, [t] => ((t.lst?.bind allInts).map fun ns => .d (.int ns.sum))
  | .all, [t] => ((t.lst?.bind allBools).map fun bs => .d (.bool (bs.all id)))
  | .any, [t] => ((t.lst?.bind allBools).map fun bs => .d (.bool (bs.any id)))
  | .min1, [t] => (t.lst?.bind minV).map .d
  | .max1, [t] => (t.lst?.bind maxV).map .d
  | .repr, [t] => (reprV t.dat).map .d
  | _, _ => none

/-! ### what loops walk -/
def rangeL (lo : Int) (n : Nat) : List PyData := (List.range n).map fun (i : Nat) => .int (lo + (i : Int))
def okRg (i : Int) : Bool := decide (-(2 ^ 62) ≤ i ∧ i < 2 ^ 62)
def okRgs (m n : Int) : Bool := okRg m && okRg n && fitL (n - m).toNat
def enumL (xs : List PyData) : List PyData := (xs.zipIdx).map fun p => .tuple [.int (p.2 : Int), p.1]
def zipL (xs ys : List PyData) : List PyData := (xs.zip ys).map fun p => .tuple [p.1, p.2]
def srcV : AV → Option (List PyData)
  | .d (.dict ps) => some (ps.map (·.1))
  | .odk ks _ => some (ks.map keyD)
  | t => t.seq?

/-! ### targets -/
/-- a target is .ref i, or .tup of a chain of targets -/
def asgT : E → AV → SEnv → Option SEnv
  | .ref i, t, env => if i < env.length then some (env.set i (some t)) else none
  | .tup ts, t, env => match t with
    | .d (.tuple xs) => asgTs ts (xs.map .d) env
    | .d (.list xs) => asgTs ts (xs.map .d) env
    | .tup us => asgTs ts us env
    | _ => none
  | _, _, _ => none
where asgTs : E → List AV → SEnv → Option SEnv
  | .nil, [], env => some env
  | .cons (.ref i) r, t :: ts, env => if i < env.length then asgTs r ts (env.set i (some t)) else none
  | .cons (.tup (.cons (.ref i) (.cons (.ref j) .nil))) r, t :: ts, env => match t with
    | .d (.tuple [x, y]) => if i < env.length ∧ j < env.length then asgTs r ts ((env.set i (some (.d x))).set j (some (.d y))) else none
    | _ => none
  | _, _, _ => none
def tgNames : E → List Nat
  | .ref i => [i]
  | .tup ts => tgNames ts
  | .cons a b => tgNames a ++ tgNames b
  | _ => []

/-! ### defs -/
structure FnS where
  n : Nat
  io : List Nat
  sem : List AV → Option (AV × List AV)
abbrev Phi := List FnS

/-- the arguments of a call: what the callee may change is taken out of its slot -/
def prepA (io : List Nat) : Nat → List Opd → SEnv → Option (List AV × List (Option Nat) × SEnv)
  | _, [], env => some ([], [], env)
  | k, .slot i :: os, env => if io.contains k then match getv env i with
      | some t => (prepA io (k + 1) os (env.set i none)).map fun (ts, bs, e) => (t :: ts, some i :: bs, e)
      | none => none
    else none
  | k, .val t :: os, env => if io.contains k then (prepA io (k + 1) os env).map fun (ts, bs, e) => (t :: ts, none :: bs, e)
    else (prepA io (k + 1) os env).map fun (ts, bs, e) => (.d t.dat :: ts, bs, e)
def putB : List (Option Nat) → List AV → SEnv → Option SEnv
  | [], [], env => some env
  | some i :: bs, t :: ts, env => putB bs ts (env.set i (some t))
  | none :: bs, _ :: ts, env => putB bs ts env
  | _, _, _ => none
def callV (F : FnS) (os : List Opd) (env : SEnv) : Option (AV × SEnv) :=
  if os.length = F.n then do
    let (ts, bs, e1) ← prepA F.io 0 os env
    let (r, us) ← F.sem ts
    let e2 ← putB bs us e1
    some (r, e2)
  else none
def permL {α : Type} (pm : List Nat) (os : List α) : List α := (List.range pm.length).filterMap fun k => (pm.idxOf? k).bind fun j => os[j]?
def permO (pm : List Nat) (os : List Opd) : Option (List Opd) := if (permL pm os).length = os.length ∧ pm.length = os.length then some (permL pm os) else none
def frzO : Opd → Opd
  | .slot i => .slot i
  | .val t => .val (.d t.dat)

/-! ### expressions -/
def opd (a : E) (f : SEnv → Option (AV × SEnv)) (env : SEnv) : Option (Opd × SEnv) := match a with
  | .ref i => if (getv env i).isSome then some (.slot i, env) else none
  | _ => (f env).map fun (t, e) => (.val t, e)

/-- one turn of a comprehension over the rest -/
def lcLoop (f : PyData → SEnv → Option (Option AV × SEnv)) : List PyData → SEnv → Option (List AV × SEnv)
  | [], env => some ([], env)
  | x :: xs, env => do
    let (o, e1) ← f x env
    let (ts, e2) ← lcLoop f xs e1
    some (match o with
      | some t => t :: ts
      | none => ts, e2)
/-- the same, whose turns make many -/
def lcLoopL (f : PyData → SEnv → Option (List AV × SEnv)) : List PyData → SEnv → Option (List AV × SEnv)
  | [], env => some ([], env)
  | x :: xs, env => do
    let (o, e1) ← f x env
    let (ts, e2) ← lcLoopL f xs e1
    some (o ++ ts, e2)
/-- a frozen list or tuple -/
def frzSeq : Option AV → Option (List PyData)
  | some (.d (.list xs)) => some xs
  | some (.d (.tuple xs)) => some xs
  | _ => none
def dcLoop (f : PyData → SEnv → Option (Option (Key × AV) × SEnv)) : List PyData → List Key → List AV → SEnv → Option (List Key × List AV × SEnv)
  | [], ks, ts, env => some (ks, ts, env)
  | x :: xs, ks, ts, env => do
    let (o, e1) ← f x env
    match o with
    | some (k, t) => dcLoop f xs (oput ks ts k (.d t.dat)).1 (oput ks ts k (.d t.dat)).2 e1
    | none => dcLoop f xs ks ts e1
/-- the slots of a comprehension's own names, as they were -/
def putSlots (env from_ : SEnv) : List Nat → SEnv
  | [] => env
  | i :: is => (putSlots env from_ is).set i (match getv from_ i with
    | some (.d x) => some (.d x)
    | _ => none)
def putBack : Option (Nat × AV) → SEnv → SEnv
  | none, env => env
  | some (i, t), env => env.set i (some t)

mutual
def evE (Φ : Phi) : E → SEnv → Option (AV × SEnv)
  | .var i, env => match getv env i with
    | some t => some (.d t.dat, env.set i (some (.d t.dat)))
    | none => none
  | .mv i, env => match getv env i with
    | some t => some (t, env.set i none)
    | none => none
  | .lit x, env => some (.d x, env)
  | .glob _ x, env => some (.d x, env)
  | .bin op a b, env => do
    let (oa, e1) ← opd a (evE Φ a) env
    let (ob, e2) ← opd b (evE Φ b) e1
    let r ← binV op (← look e2 oa) (← look e2 ob)
    some (r, e2)
  | .neg a, env => do
    let (t, e1) ← evE Φ a env
    match t with
    | .d (.int i) => some (.d (.int (-i)), e1)
    | _ => none
  | .cmp op a b, env => do
    let (oa, e1) ← opd a (evE Φ a) env
    let (ob, e2) ← opd b (evE Φ b) e1
    let r ← cmpV op (← look e2 oa) (← look e2 ob)
    some (.d (.bool r), e2)
  | .chain o1 o2 a b c, env => do
    let (oa, e1) ← opd a (evE Φ a) env
    let (ob, e2) ← opd b (evE Φ b) e1
    let r ← cmpV o1 (← look e2 oa) (← look e2 ob)
    if r then do
      let (oc, e3) ← opd c (evE Φ c) e2
      let r2 ← cmpV o2 (← look e3 ob) (← look e3 oc)
      some (.d (.bool r2), e3)
    else some (.d (.bool false), e2)
  | .and a b, env => do
    let (t, e1) ← evE Φ a env
    match t with
    | .d (.bool true) => evE Φ b e1
    | .d (.bool false) => some (.d (.bool false), e1)
    | _ => none
  | .or a b, env => do
    let (t, e1) ← evE Φ a env
    match t with
    | .d (.bool false) => evE Φ b e1
    | .d (.bool true) => some (.d (.bool true), e1)
    | _ => none
  | .not a, env => do
    let (t, e1) ← evE Φ a env
    match t with
    | .d (.bool c) => some (.d (.bool (!c)), e1)
    | _ => none
  | .ife c a b, env => do
    let (k, e1) ← evT Φ c env
    if k then evE Φ a e1 else evE Φ b e1
  | .tup es, env => do
    let (ts, e1) ← evA Φ es env
    if fitL ts.length then some (mkTup ts, e1) else none
  | .lst es, env => do
    let (ts, e1) ← evA Φ es env
    if fitL ts.length then some (.own ts, e1) else none
  | .dnew, env => some (.odk [] [], env)
  | .ix a i, env => do
    let (oa, e1) ← opd a (evE Φ a) env
    let (ob, e2) ← opd i (evE Φ i) e1
    let r ← ixV (← look e2 oa) (← look e2 ob)
    some (r, e2)
  | .slc a lo hi, env => do
    let (oa, e1) ← opd a (evE Φ a) env
    let (l, e2) ← evP Φ lo e1
    let (u, e3) ← evP Φ hi e2
    let r ← slcV (← look e3 oa) l u
    some (r, e3)
  | .call f es, env => do
    let F ← Φ[f]?
    let (os, e1) ← evL Φ es env
    callV F os e1
  | .callk f pm es, env => do
    let F ← Φ[f]?
    let (os, e1) ← evL Φ es env
    let os2 ← permO pm (os.map frzO)
    callV F os2 e1
  | .bi b es, env => do
    let (os, e1) ← evL Φ es env
    let ts ← os.mapM (look e1)
    let r ← biV b ts
    some (r, e1)
  | .isi a ts, env => do
    let (oa, e1) ← opd a (evE Φ a) env
    let t ← look e1 oa
    some (.d (.bool (ts.any fun p => isiD p t.dat)), e1)
  | .rg1 t a, env => do
    let (v, e1) ← evE Φ a env
    match v with
    | .d (.int n) => if okRgs 0 n then some (if t then .d (.tuple (rangeL 0 n.toNat)) else fr (rangeL 0 n.toNat), e1) else none
    | _ => none
  | .rg2 t a b, env => do
    let (v, e1) ← evE Φ a env
    let (w, e2) ← evE Φ b e1
    match v, w with
    | .d (.int m), .d (.int n) => if okRgs m n then some (if t then .d (.tuple (rangeL m (n - m).toNat)) else fr (rangeL m (n - m).toNat), e2) else none
    | _, _ => none
  | .frz a, env => do
    let (t, e1) ← evE Φ a env
    some (.d t.dat, e1)
  | .pop i, env => match getv env i with
    | some (.own ts) => match ts.getLast? with
      | some t => some (t, env.set i (some (.own ts.dropLast)))
      | none => none
    | _ => none
  | .popi i e, env => if isOwn (getv env i) then do
    let (t, e1) ← evE Φ e env
    match t, getv e1 i with
    | .d (.int k), some (.own ts) => match (if decide (-(2 ^ 62) ≤ k ∧ k < 2 ^ 62) then ixN ts.length k else none) with
      | some j => match ts[j]? with
        | some u => some (u, e1.set i (some (.own (ts.eraseIdx j))))
        | none => none
      | none => none
    | _, _ => none
    else none
  | .repL es, env => do
    let (os, e1) ← evL Φ es env
    let ts ← os.mapM (look e1)
    if fitL ts.length then (reprV (.list (datL ts))).map fun x => (.d x, e1) else none
  | .srtl a, env => do
    let (t, e1) ← evE Φ a env
    match t.lst? with
    | some xs => if xs.all isLstD && fitL xs.length then some (fr (srtL xs), e1) else none
    | none => none
  | .dctp a, env => do
    let (t, e1) ← evE Φ a env
    match t.lst?.bind pairsK with
    | some (ks, vs) => if decide ks.Nodup then some (.odk ks (vs.map .d), e1) else none
    | none => none
  | .lset a, env => do
    let (t, e1) ← evE Φ a env
    match t.seq?.bind allInts with
    | some ns => if decide (ns.length ≤ 60) then some (.d (.int ((setL ns).length : Int)), e1) else none
    | none => none
  | .get1 o k, env => do
    let (oa, e1) ← opd o (evE Φ o) env
    let t0 ← look e1 oa
    if t0.isDi then do
      let (x, e2) ← evE Φ k e1
      let key ← keyOf? x.dat
      match (← (← look e2 oa).at? key) with
      | some (.d y) => some (.d y, e2)
      | some _ => none
      | none => some (.d .none, e2)
    else none
  | .get2 o k e, env => do
    let (oa, e1) ← opd o (evE Φ o) env
    let t0 ← look e1 oa
    if t0.isDi then do
      let (x, e2) ← evE Φ k e1
      let (z, e3) ← evE Φ e e2
      let key ← keyOf? x.dat
      match (← (← look e3 oa).at? key) with
      | some (.d y) => some (.d y, e3)
      | some _ => none
      | none => some (z, e3)
    else none
  | .lc own tg it cond elt, env => do
    let (xs, e1, rs) ← evI Φ it env
    if fitL xs.length then do
      let (ts, e2) ← lcLoop (fun x e => do
        let e' ← asgT tg (.d x) e
        let (k, e'') ← evC Φ cond e'
        if k then do
          let (t, e3) ← evE Φ elt e''
          some (some t, wipeE e3 own)
        else some (none, wipeE e'' own)) xs (wipeE e1 own)
      some (.own ts, putBack rs (putSlots (wipeE e2 own) e1 own))
    else none
  | .lc2 own own1 tg it cond tg1 i1 cond1 elt, env => do
    let (xs, e1, rs) ← evI Φ it env
    let (ts, e2) ← lcLoopL (fun x e => do
      let e' ← asgT tg (.d x) e
      let (k, e'') ← evC Φ cond e'
      if k then do
        let ys ← frzSeq (getv e'' i1)
        let (us, e4) ← lcLoop (fun y e => do
          let e' ← asgT tg1 (.d y) e
          let (k, e'') ← evC Φ cond1 e'
          if k then do
            let (t, e3) ← evE Φ elt e''
            some (some t, wipeE e3 own1)
          else some (none, wipeE e'' own1)) ys (wipeE e'' own1)
        some (us, wipeE e4 own)
      else some ([], wipeE e'' own)) xs (wipeE e1 own)
    if fitL xs.length && fitL ts.length then
      some (.own ts, putBack rs (putSlots (wipeE e2 own) e1 own))
    else none
  | .dc own tg it cond k v, env => do
    let (xs, e1, rs) ← evI Φ it env
    if fitL xs.length then do
      let (ks, ts, e2) ← dcLoop (fun x e => do
        let e' ← asgT tg (.d x) e
        let (c, e'') ← evC Φ cond e'
        if c then do
          let (kt, e3) ← evE Φ k e''
          let (t, e4) ← evE Φ v e3
          match keyOf? kt.dat with
          | some key => some (some (key, t), wipeE e4 own)
          | none => none
        else some (none, wipeE e'' own)) xs [] [] (wipeE e1 own)
      some (.odk ks ts, putBack rs (putSlots (wipeE e2 own) e1 own))
    else none
  | _, _ => none
/-- operands of a call -/
def evL (Φ : Phi) : E → SEnv → Option (List Opd × SEnv)
  | .nil, env => some ([], env)
  | .cons a b, env => do
    let (o, e1) ← opd a (evE Φ a) env
    let (os, e2) ← evL Φ b e1
    some (o :: os, e2)
  | _, _ => none
/-- items of a display -/
def evA (Φ : Phi) : E → SEnv → Option (List AV × SEnv)
  | .nil, env => some ([], env)
  | .cons a b, env => do
    let (t, e1) ← evE Φ a env
    let (ts, e2) ← evA Φ b e1
    some (t :: ts, e2)
  | _, _ => none
/-- a test -/
def evT (Φ : Phi) : E → SEnv → Option (Bool × SEnv)
  | .and a b, env => do
    let (k, e1) ← evT Φ a env
    if k then evT Φ b e1 else some (false, e1)
  | .or a b, env => do
    let (k, e1) ← evT Φ a env
    if k then some (true, e1) else evT Φ b e1
  | .not a, env => do
    let (k, e1) ← evT Φ a env
    some (!k, e1)
  | .cmp op a b, env => do
    let (oa, e1) ← opd a (evE Φ a) env
    let (ob, e2) ← opd b (evE Φ b) e1
    let r ← cmpV op (← look e2 oa) (← look e2 ob)
    some (r, e2)
  | .chain o1 o2 a b c, env => do
    let (oa, e1) ← opd a (evE Φ a) env
    let (ob, e2) ← opd b (evE Φ b) e1
    let r ← cmpV o1 (← look e2 oa) (← look e2 ob)
    if r then do
      let (oc, e3) ← opd c (evE Φ c) e2
      let r2 ← cmpV o2 (← look e3 ob) (← look e3 oc)
      some (r2, e3)
    else some (false, e2)
  | .ife c a b, env => do
    let (k, e1) ← evT Φ c env
    if k then evT Φ a e1 else evT Φ b e1
  | .ref i, env => match getv env i with
    | some t => if strFit t.dat && !t.isDi then some (truth t.dat, env) else none
    | none => none
  | .ix a i, env => do
    let (oa, e1) ← opd a (evE Φ a) env
    let (ob, e2) ← opd i (evE Φ i) e1
    let r ← ixV (← look e2 oa) (← look e2 ob)
    if strFit r.dat && !r.isDi then some (truth r.dat, e2) else none
  | .call f es, env => do
    let F ← Φ[f]?
    let (os, e1) ← evL Φ es env
    let (r, e2) ← callV F os e1
    if strFit r.dat && !r.isDi then some (truth r.dat, e2) else none
  | .callk f pm es, env => do
    let F ← Φ[f]?
    let (os, e1) ← evL Φ es env
    let os2 ← permO pm (os.map frzO)
    let (r, e2) ← callV F os2 e1
    if strFit r.dat && !r.isDi then some (truth r.dat, e2) else none
  | .bi b es, env => do
    let (os, e1) ← evL Φ es env
    let ts ← os.mapM (look e1)
    let r ← biV b ts
    if strFit r.dat && !r.isDi then some (truth r.dat, e1) else none
  | .isi a ts, env => do
    let (oa, e1) ← opd a (evE Φ a) env
    let t ← look e1 oa
    some (ts.any fun p => isiD p t.dat, e1)
  | _, _ => none
/-- a comprehension's test, or none -/
def evC (Φ : Phi) : E → SEnv → Option (Bool × SEnv)
  | .nil, env => some (true, env)
  | .cons c .nil, env => evT Φ c env
  | _, _ => none
/-- a part of a slice -/
def evP (Φ : Phi) : E → SEnv → Option (Option Int × SEnv)
  | .nil, env => some (none, env)
  | .cons a .nil, env => do
    let (t, e1) ← evE Φ a env
    match t with
    | .d (.int i) => some (some i, e1)
    | _ => none
  | _, _ => none
/-- what a loop walks, whom it holds meanwhile -/
def evI (Φ : Phi) : E → SEnv → Option (List PyData × SEnv × Option (Nat × AV))
  | .lend i, env => match getv env i with
    | some t => match t.seq? with
      | some xs => some (xs, env.set i none, some (i, t))
      | none => none
    | none => none
  | .bi .range1 (.cons a .nil), env => do
    let (t, e1) ← evE Φ a env
    match t with
    | .d (.int n) => if okRg n then some (rangeL 0 n.toNat, e1, none) else none
    | _ => none
  | .bi .range2 (.cons a (.cons b .nil)), env => do
    let (t, e1) ← evE Φ a env
    let (u, e2) ← evE Φ b e1
    match t, u with
    | .d (.int m), .d (.int n) => if okRg m && okRg n then some (rangeL m (n - m).toNat, e2, none) else none
    | _, _ => none
  | .bi .enum (.cons a .nil), env => do
    let (t, e1) ← evE Φ a env
    match t.seq? with
    | some xs => some (enumL xs, e1, none)
    | none => none
  | .bi .zip (.cons a (.cons b .nil)), env => do
    let (t, e1) ← evE Φ a env
    let (u, e2) ← evE Φ b e1
    match t.lst?, u.lst? with
    | some xs, some ys => some (zipL xs ys, e2, none)
    | _, _ => match t.tup?, u.tup? with
      | some xs, some ys => some (zipL xs ys, e2, none)
      | _, _ => none
  | .cons a .nil, env => do
    let (t, e1) ← evE Φ a env
    match t.seq? with
    | some xs => some (xs, e1, none)
    | none => none
  | _, _ => none
end

/-! ### statements -/
inductive Fl where
  | nx | rt (t : AV) | bk | ct

def whileI (c : SEnv → Option (Bool × SEnv)) (b : SEnv → Option (Fl × SEnv)) (env : SEnv) : Option (Fl × SEnv) := do
  let (k, e1) ← c env
  if k then do
    let (f, e2) ← b e1
    match f with
    | .nx => whileI c b e2
    | .ct => whileI c b e2
    | .bk => some (.nx, e2)
    | .rt t => some (.rt t, e2)
  else some (.nx, e1)
partial_fixpoint

def forI (b : PyData → SEnv → Option (Fl × SEnv)) : List PyData → SEnv → Option (Fl × SEnv)
  | [], env => some (.nx, env)
  | x :: xs, env => do
    let (f, e1) ← b x env
    match f with
    | .nx => forI b xs e1
    | .ct => forI b xs e1
    | .bk => some (.nx, e1)
    | .rt t => some (.rt t, e1)

def heldOk (ns : List Nat) : Option (Nat × AV) → Bool
  | none => true
  | some p => !ns.contains p.1
/-- names that a statement may store -/
def S.names : S → List Nat
  | .seq a b => a.names ++ b.names
  | .asg tg _ => tgNames tg
  | .par i j _ _ => [i, j]
  | .par3 i j k _ _ _ => [i, j, k]
  | .ife _ a b => a.names ++ b.names
  | .whil _ b => b.names
  | .forr tg _ b => tgNames tg ++ b.names
  | .aug i _ _ => [i]
  | .sbp _ _ j _ => [j]
  | _ => []

def setIx (t : AV) (k v : AV) : Option AV := match t, k with
  | .own ts, .d (.int i) => (ixN ts.length i).map fun j => .own (ts.set j v)
  | .odk ks ts, .d x => match keyOf? x with
    | some key => if fitL (ks.length + 1) then some (.odk (oput ks ts key (.d v.dat)).1 (oput ks ts key (.d v.dat)).2) else none
    | none => none
  | _, _ => none

def exS (Φ : Phi) : S → SEnv → Option (Fl × SEnv)
  | .skip, env => some (.nx, env)
  | .seq a b, env => do
    let (f, e1) ← exS Φ a env
    match f with
    | .nx => exS Φ b e1
    | f => some (f, e1)
  | .asg tg e, env => do
    let (t, e1) ← evE Φ e env
    let e2 ← asgT tg t e1
    some (.nx, e2)
  | .par i j a b, env => do
    let (t, e1) ← evE Φ a env
    let (u, e2) ← evE Φ b e1
    if i < e2.length ∧ j < e2.length ∧ i ≠ j then some (.nx, (e2.set i (some t)).set j (some u)) else none
  | .par3 i j k a b c, env => do
    let (t, e1) ← evE Φ a env
    let (u, e2) ← evE Φ b e1
    let (v, e3) ← evE Φ c e2
    if i < e3.length ∧ j < e3.length ∧ k < e3.length ∧ i ≠ j ∧ i ≠ k ∧ j ≠ k then some (.nx, ((e3.set i (some t)).set j (some u)).set k (some v)) else none
  | .sub i k e, env => do
    let (t, e1) ← evE Φ e env
    let _ ← getv e1 i
    let (u, e2) ← evE Φ k e1
    let x ← getv e2 i
    let y ← setIx x u t
    some (.nx, e2.set i (some y))
  | .sbp i k j e, env => do
    let (t, e1) ← evE Φ e env
    match t with
    | .d (.tuple [p, q]) => do
      let _ ← getv e1 i
      let (u, e2) ← evE Φ k e1
      match getv e2 i, u with
      | some (.own ts), .d (.int z) => match ixN ts.length z with
        | some l => if j < e2.length then some (.nx, (e2.set i (some (.own (ts.set l (.d p))))).set j (some (.d q))) else none
        | none => none
      | _, _ => none
    | _ => none
  | .app i e, env => if isOwn (getv env i) then do
    let (t, e1) ← evE Φ e env
    match getv e1 i with
    | some (.own ts) => if fitL (ts.length + 1) then some (.nx, e1.set i (some (.own (ts ++ [t])))) else none
    | _ => none
    else none
  | .app1 i k e, env => do
    let _ ← getv env i
    let (u, e1) ← evE Φ k env
    match u, getv e1 i with
    | .d (.int z), some (.own ts) => match (if decide (-(2 ^ 62) ≤ z ∧ z < 2 ^ 62) then ixN ts.length z else none) with
      | some j => match ts[j]? with
        | some (.own us) => if fitL (us.length + 1) then do
          let (t, e2) ← evE Φ e (e1.set i none)
          some (.nx, e2.set i (some (.own (ts.set j (.own (us ++ [t])))))) else none
        | _ => none
      | none => none
    | _, _ => none
  | .ext i e, env => if isOwn (getv env i) then do
    let (t, e1) ← evE Φ e env
    match getv e1 i, t with
    | some (.own ts), .own us => if fitL (ts.length + us.length) then some (.nx, e1.set i (some (.own (ts ++ us)))) else none
    | some (.own ts), .d (.list xs) => if fitL (ts.length + xs.length) then some (.nx, e1.set i (some (.own (ts ++ xs.map .d)))) else none
    | _, _ => none
    else none
  | .expr e, env => do
    let (_, e1) ← evE Φ e env
    some (.nx, e1)
  | .ife c a b, env => do
    let (k, e1) ← evT Φ c env
    if k then exS Φ a e1 else exS Φ b e1
  | .whil c b, env => whileI (evT Φ c) (exS Φ b) env
  | .forr tg it b, env => do
    let (xs, e1, rs) ← evI Φ it env
    if heldOk (tgNames tg ++ b.names) rs then do
      let (f, e2) ← forI (fun x e => do
        let e' ← asgT tg (.d x) e
        exS Φ b e') xs e1
      some (f, putBack rs e2)
    else none
  | .ret e, env => do
    let (t, e1) ← evE Φ e env
    some (.rt t, e1)
  | .retn, env => some (.rt (.d .none), env)
  | .brk, env => some (.bk, env)
  | .cnt, env => some (.ct, env)
  | .fgt is, env => some (.nx, wipeE env is)
  | .aug i op e, env => do
    let _ ← getv env i
    let (t, e1) ← evE Φ e env
    match getv e1 i, t, op with
    | some (.d (.int a)), .d (.int b), .Add => some (.nx, e1.set i (some (.d (.int (a + b)))))
    | some (.d (.int a)), .d (.int b), .Sub => some (.nx, e1.set i (some (.d (.int (a - b)))))
    | _, _, _ => none
  | .never, _ => none

structure FnD where
  /-- how many names, how many of them parameters -/
  nn : Nat
  n : Nat
  io : List Nat
  body : S
def startE (nn : Nat) (ts : List AV) : SEnv := ts.map some ++ List.replicate (nn - ts.length) none
def runF (Φ : Phi) (f : FnD) (ts : List AV) : Option (AV × List AV) :=
  if ts.length = f.n then
    match exS Φ f.body (startE f.nn ts) with
    | some (.rt r, e) => (f.io.mapM (getv e)).map fun us => (r, us)
    | some (.nx, e) => (f.io.mapM (getv e)).map fun us => (.d .none, us)
    | _ => none
  else none
def semOf (Φ : Phi) (f : FnD) : FnS := ⟨f.n, f.io, runF Φ f⟩
/-- the defs one behind another; each may call those ahead of it -/
def linkF : List FnD → Phi → Phi
  | [], Φ => Φ
  | f :: fs, Φ => linkF fs (Φ ++ [semOf Φ f])
end Mi
/-! Readings of expressions as HandS' readings: states, pending values, what an operation leaves. -/
namespace Mi
open PySem L2

/-! ### frozen data as the library's data -/
theorem keyD_inj {a b : Key} (e : keyD a = keyD b) : a = b := by
  cases a <;> cases b <;> simp [keyD] at e <;> simp [e]
section
variable {K : Frg} {F H : Hp}
mutual
theorem Rp.dp : ∀ {x : PyData} {v : V}, Rp K H v x → x.canLay0 = true → Dp K H v x
  | .none, _, .non, _ => .non
  | .bool _, _, .bl b, _ => .bl b
  | .int _, _, .int i, _ => .int i
  | .str _, _, .str s, _ => .str s
  | .list _, _, .lst h hs, e => .lst h (RpL.dp hs (by simpa [PyData.canLay0] using e))
  | .tuple _, _, .tup h hs, e => .tup h (RpL.dp hs (by simpa [PyData.canLay0] using e))
  | .dict _, _, .dct _ _ _, e => by simp [PyData.canLay0] at e
theorem RpL.dp : ∀ {xs : List PyData} {vs : List V}, RpL K H vs xs → PyData.canLayAll0 xs = true → DpAll K H vs xs
  | [], _, .nil, _ => .nil
  | x :: xs, _, .cons h hs, e => by
    have e' : x.canLay0 = true ∧ PyData.canLayAll0 xs = true := by simpa [PyData.canLayAll0] using e
    exact .cons (Rp.dp h e'.1) (RpL.dp hs e'.2)
end
theorem Rp.dpS {x : PyData} {v : V} (h : Rp K H v x) (e : SeqAt.shaped x = true) : Dp K H v x := h.dp (by
  unfold SeqAt.shaped at e
  exact (Bool.and_eq_true _ _ ▸ e : _ ∧ _).1)

theorem leafs_map : ∀ {ts : List AV} {xs : List PyData}, leafs ts = some xs → ts = xs.map .d
  | [], xs, e => by
    have : xs = [] := by simpa [leafs] using e.symm
    rw [this]
    rfl
  | .d x :: r, xs, e => by
    unfold leafs at e
    cases h : leafs r with
    | none => rw [h] at e; simp at e
    | some ys =>
      rw [h] at e
      have : x :: ys = xs := by simpa using e
      rw [← this, leafs_map h]
      rfl
  | .own _ :: _, _, e => by simp [leafs] at e
  | .odk _ _ :: _, _, e => by simp [leafs] at e
  | .tup _ :: _, _, e => by simp [leafs] at e
theorem leafs_of : ∀ xs : List PyData, leafs (xs.map .d) = some xs
  | [] => rfl
  | x :: xs => by
    show (leafs (xs.map .d)).map (x :: ·) = _
    rw [leafs_of xs]
    rfl
theorem datL_leaf : ∀ xs : List PyData, datL (xs.map .d) = xs
  | [] => rfl
  | x :: xs => by
    show AV.dat (.d x) :: datL (xs.map .d) = _
    rw [datL_leaf xs]
    rfl
/-- items that are frozen -/
theorem TRs.leaf : ∀ {xs : List PyData} {vs : List V} {fp : List Addr}, TRs K F H vs (xs.map .d) fp → RpL K F vs xs ∧ fp = []
  | [], _, _, .nil => ⟨.nil, rfl⟩
  | x :: xs, _, _, .cons (.d h) hs => by
    obtain ⟨h1, h2⟩ := TRs.leaf hs
    subst h2
    exact ⟨.cons h h1, rfl⟩
theorem TR.datH (s : Ext F H) {v : V} {t : AV} {fp : List Addr} (h : TR K F H v t fp) : Rp K H v t.dat := h.freeze s fun _ _ _ e => e

theorem TR.lst {v : V} {t : AV} {fp : List Addr} {xs : List PyData} (s : Ext F H) (h : TR K F H v t fp) (e : t.lst? = some xs) : ∃ a ws, v = .ref a ∧ SqL K H a ws ∧ RpL K F ws xs := by
  cases h with
  | d h =>
    cases h with
    | lst h hs =>
      simp only [AV.lst?, Option.some.injEq] at e
      subst e
      exact ⟨_, _, rfl, sqL_mono s h, hs⟩
    | _ => simp [AV.lst?] at e
  | own h hs =>
    have := leafs_map (show leafs _ = some xs from e)
    subst this
    exact ⟨_, _, rfl, .inl (.inl h), hs.leaf.1⟩
  | odk _ _ _ => simp [AV.lst?] at e
  | tup _ _ => simp [AV.lst?] at e
theorem TR.tupl {v : V} {t : AV} {fp : List Addr} {xs : List PyData} (s : Ext F H) (h : TR K F H v t fp) (e : t.tup? = some xs) : ∃ a ws, v = .ref a ∧ SqT K F a ws ∧ RpL K F ws xs := by
  cases h with
  | d h =>
    cases h with
    | tup h hs =>
      simp only [AV.tup?, Option.some.injEq] at e
      subst e
      exact ⟨_, _, rfl, h, hs⟩
    | _ => simp [AV.tup?] at e
  | tup h hs =>
    have := leafs_map (show leafs _ = some xs from e)
    subst this
    exact ⟨_, _, rfl, h, hs.leaf.1⟩
  | odk _ _ _ => simp [AV.tup?] at e
  | own _ _ => simp [AV.tup?] at e
theorem AV.seq_cases {t : AV} {xs : List PyData} (e : t.seq? = some xs) : t.lst? = some xs ∨ t.tup? = some xs := by
  cases t with
  | d x => cases x <;> simp [AV.seq?, AV.lst?, AV.tup?] at e ⊢ <;> exact e
  | own ts => exact .inl e
  | tup ts => exact .inr e
  | odk _ _ => simp [AV.seq?] at e
theorem TR.seq {v : V} {t : AV} {fp : List Addr} {xs : List PyData} (s : Ext F H) (h : TR K F H v t fp) (e : t.seq? = some xs) : ∃ a ws, v = .ref a ∧ (SqL K H a ws ∨ SqT K H a ws) ∧ RpL K F ws xs := by
  rcases AV.seq_cases e with e | e
  · obtain ⟨a, ws, r, h1, h2⟩ := h.lst s e
    exact ⟨a, ws, r, .inl h1, h2⟩
  · obtain ⟨a, ws, r, h1, h2⟩ := h.tupl s e
    exact ⟨a, ws, r, .inr (sqT_mono s h1), h2⟩
end

/-! ### values that wait -/
inductive ORs (K : Frg) (F H : Hp) (σ : L2.St) : List V → List Opd → List Addr → Prop
  | nil : ORs K F H σ [] [] []
  | slot {v : V} {vs : List V} {i : Nat} {os : List Opd} {fp : List Addr} : σ[i]? = some (some v) → ORs K F H σ vs os fp → ORs K F H σ (v :: vs) (.slot i :: os) fp
  | val {v : V} {vs : List V} {t : AV} {os : List Opd} {fp fq : List Addr} : TR K F H v t fp → ORs K F H σ vs os fq → ORs K F H σ (v :: vs) (.val t :: os) (fp ++ fq)
section
variable {K : Frg} {F F' H H' : Hp} {σ : L2.St}
theorem ORs.mono (s : Ext F F') : ∀ {vs : List V} {os : List Opd} {fp : List Addr}, ORs K F H σ vs os fp → (∀ a ∈ fp, ∀ o, H a = some o → H' a = some o) → ORs K F' H' σ vs os fp
  | _, _, _, .nil, _ => .nil
  | _, _, _, .slot h hs, k => .slot h (ORs.mono s hs k)
  | _, _, _, .val h hs, k => .val (h.mono s fun a m => k a (List.mem_append_left _ m)) (ORs.mono s hs fun a m => k a (List.mem_append_right _ m))
theorem ORs.there : ∀ {vs : List V} {os : List Opd} {fp : List Addr}, ORs K F H σ vs os fp → ∀ a ∈ fp, ∃ o, H a = some o
  | _, _, _, .nil, a, m => nomatch m
  | _, _, _, .slot _ hs, a, m => ORs.there hs a m
  | _, _, _, .val h hs, a, m => by
    rcases List.mem_append.mp m with m | m
    · exact h.there a m
    · exact ORs.there hs a m
theorem ORs.length : ∀ {vs : List V} {os : List Opd} {fp : List Addr}, ORs K F H σ vs os fp → vs.length = os.length
  | _, _, _, .nil => rfl
  | _, _, _, .slot _ hs => by simp [ORs.length hs]
  | _, _, _, .val _ hs => by simp [ORs.length hs]
theorem ORs.append : ∀ {vs ws : List V} {os us : List Opd} {fp fq : List Addr}, ORs K F H σ vs os fp → ORs K F H σ ws us fq → ORs K F H σ (vs ++ ws) (os ++ us) (fp ++ fq)
  | _, _, _, _, _, _, .nil, h => h
  | _, _, _, _, _, _, .slot hv hs, h => .slot hv (ORs.append hs h)
  | _, _, _, _, _, _, .val hv hs, h => by
    rw [List.append_assoc]
    exact .val hv (ORs.append hs h)
theorem ORs.one {v : V} {t : AV} {fp : List Addr} (h : TR K F H v t fp) : ORs K F H σ [v] [.val t] fp := by
  have := ORs.val (σ := σ) h .nil
  rwa [List.append_nil] at this
theorem ORs.one_inv {v : V} {t : AV} {fp : List Addr} (h : ORs K F H σ [v] [.val t] fp) : TR K F H v t fp := by
  cases h with
  | val h1 h2 =>
    cases h2
    rw [List.append_nil]
    exact h1
end

/-- behind some evaluation from (F, fps, H): the state, the values that wait -/
structure RVs (K : Frg) (σ : L2.St) (env : SEnv) (os : List Opd) (F : Hp) (fps : Fps) (H : Hp) (vs : List V) (F' : Hp) (fps' : Fps) (H' : Hp) (fp : List Addr) : Prop where
  sk : SK K F' fps' σ H' env
  rs : ORs K F' H' σ vs os fp
  nd : fp.Nodup
  ap : ∀ a ∈ fp, F' a = none ∧ ¬ ownd fps' a
  st : Step F (ownd fps) H F' (fun a => ownd fps' a ∨ a ∈ fp) H'

theorem Step.frame {F F' H H' : Hp} {W W' : Addr → Prop} (a : Step F W H F' W' H') (P : Addr → Prop) : Step F (fun x => W x ∨ P x) H F' (fun x => W' x ∨ P x) H' :=
  ⟨a.f, fun x o e n => a.k x o e fun z => n (.inl z), fun x e => (a.n x e).elim .inl fun z => .inr (z.elim (fun y => .inl (.inl y)) .inr), fun x e => e.elim (fun y => (a.w x y).elim (fun z => .inl (.inl z)) .inr) fun y => .inl (.inr y)⟩

section
variable {K : Frg} {σ : L2.St} {env env' : SEnv} {os us : List Opd} {F F1 F2 H H1 H2 : Hp} {fps fps1 fps2 : Fps} {vs ws : List V} {fp fq : List Addr}
theorem SK.start (s : SK K F fps σ H env) : RVs K σ env [] F fps H [] F fps H [] :=
  ⟨s, .nil, List.nodup_nil, fun _ m => (nomatch m), Step.refl.weak fun _ h => h.elim id fun m => (nomatch m)⟩
/-- one evaluation behind another -/
theorem RVs.seq (a : RVs K σ env os F fps H vs F1 fps1 H1 fp) (b : RVs K σ env' us F1 fps1 H1 ws F2 fps2 H2 fq) : RVs K σ env' (os ++ us) F fps H (vs ++ ws) F2 fps2 H2 (fp ++ fq) := by
  have key : ∀ x ∈ fp, H2 x ≠ none ∧ ¬ (ownd fps2 x ∨ x ∈ fq) ∧ F2 x = none := fun x m => by
    obtain ⟨o, e⟩ := a.rs.there x m
    obtain ⟨f0, w0⟩ := a.ap x m
    obtain ⟨h1, h2, h3⟩ := b.st.apart e w0
    exact ⟨by rw [h1]; simp, h2, h3 f0⟩
  refine ⟨b.sk, (a.rs.mono b.st.f fun x m o e => b.st.k x o e (a.ap x m).2).append b.rs, ?_, ?_, ?_⟩
  · refine List.nodup_append.mpr ⟨a.nd, b.nd, fun x hx y hy e => ?_⟩
    subst e
    exact (key x hx).2.1 (.inr hy)
  · intro x m
    rcases List.mem_append.mp m with m | m
    · obtain ⟨_, h2, h3⟩ := key x m
      exact ⟨h3, fun z => h2 (.inl z)⟩
    · exact b.ap x m
  · refine (a.st.trans (b.st.frame fun x => x ∈ fp)).weak fun x h => ?_
    rcases h with h | h
    · exact .inl (.inl h)
    · rcases List.mem_append.mp h with h | h
      · exact .inr h
      · exact .inl (.inr h)
/-- nothing waits any more: what was owned is dropped -/
theorem RVs.drop (a : RVs K σ env os F fps H vs F1 fps1 H1 fp) : RVs K σ env [] F fps H [] F1 fps1 H1 [] :=
  ⟨a.sk, .nil, List.nodup_nil, fun _ m => (nomatch m), a.st.weak fun _ h => h.elim .inl fun m => (nomatch m)⟩
/-- a value without anything owned -/
theorem RVs.dat (a : RVs K σ env os F fps H vs F1 fps1 H1 fp) {v : V} {x : PyData} (h : Rp K F1 v x) : RVs K σ env [.val (.d x)] F fps H [v] F1 fps1 H1 [] :=
  ⟨a.sk, .one (.d h), List.nodup_nil, fun _ m => (nomatch m), a.st.weak fun _ h => h.elim .inl fun m => (nomatch m)⟩

theorem fresh_own (s : SK K F1 fps1 σ H1 env) {p : Addr} (hp : H1 p = none) : ¬ ownd fps1 p ∧ F1 p = none := by
  refine ⟨fun ⟨i, m⟩ => ?_, ?_⟩
  · obtain ⟨o, e⟩ := s.there i p m
    rw [hp] at e
    cases e
  · cases e : F1 p with
    | none => rfl
    | some u =>
      rcases s.sub p u (.inl e) with h | ⟨o, h⟩ <;> rw [hp] at h <;> cases h
theorem SK.grow (s : SK K F1 fps1 σ H1 env) {p : Addr} {o : HO} (hp : H1 p = none) : SK K F1 fps1 σ (upd H1 p o) env := by
  have e : Same H1 (upd H1 p o) := fun a u h => by
    rw [upd_ne (ne_of_none h hp)]
    exact h
  refine ⟨fun i t h => ?_, s.nd, s.dis, s.free, fun i a m => ?_, s.sub.trans (.of e), s.len⟩
  · obtain ⟨v, h1, h2⟩ := s.slot i t h
    exact ⟨v, h1, h2.mono (Ext.refl _) fun a _ u q => e a u q⟩
  · obtain ⟨u, q⟩ := s.there i a m
    exact ⟨u, e a u q⟩
theorem SK.growF (s : SK K F1 fps1 σ H1 env) {p : Addr} {o : HO} (hp : H1 p = none) : SK K (upd F1 p o) fps1 σ (upd H1 p o) env := by
  obtain ⟨w0, f0⟩ := fresh_own s hp
  have g := s.grow (o := o) hp
  have e : Same F1 (upd F1 p o) := fun a u h => by
    rw [upd_ne (ne_of_none h f0)]
    exact h
  refine ⟨fun i t h => ?_, s.nd, s.dis, fun i a m => ?_, g.there, fun a u h => ?_, s.len⟩
  · obtain ⟨v, h1, h2⟩ := g.slot i t h
    exact ⟨v, h1, h2.mono (.of e) fun a _ u q => q⟩
  · rw [upd_ne (fun z => w0 ⟨i, by rw [← z]; exact m⟩)]
    exact s.free i a m
  · by_cases ha : a = p
    · subst ha
      rcases h with h | ⟨ob, h⟩ <;> rw [upd_same] at h
      · exact .inl (by rw [upd_same]; exact h)
      · exact .inr ⟨ob, by rw [upd_same]; exact h⟩
    · refine g.sub a u ?_
      rcases h with h | ⟨ob, h⟩ <;> rw [upd_ne ha] at h
      · exact .inl h
      · exact .inr ⟨ob, h⟩
/-- a new list, a new dict: owned by the value that waits -/
theorem RVs.new (a : RVs K σ env os F fps H vs F1 fps1 H1 fp) {p : Addr} {o : HO} {t : AV} {fq : List Addr} (hp : H1 p = none) (hf : ∀ x ∈ fq, x ∈ fp) (hn : fq.Nodup) (h : TR K F1 (upd H1 p o) (.ref p) t (p :: fq)) :
    RVs K σ env [.val t] F fps H [.ref p] F1 fps1 (upd H1 p o) (p :: fq) := by
  obtain ⟨w0, f0⟩ := fresh_own a.sk hp
  have np : ∀ x ∈ fp, x ≠ p := fun x m z => by
    obtain ⟨u, e⟩ := a.rs.there x m
    rw [z, hp] at e
    cases e
  refine ⟨a.sk.grow hp, .one h, List.nodup_cons.mpr ⟨fun m => np p (hf p m) rfl, hn⟩, fun x m => ?_, ?_⟩
  · rcases List.mem_cons.mp m with rfl | m
    · exact ⟨f0, w0⟩
    · exact a.ap x (hf x m)
  · refine ⟨a.st.f, fun x u e n => ?_, a.st.n, fun x m => ?_⟩
    · have e1 := a.st.k x u e n
      rw [upd_ne (ne_of_none e1 hp)]
      exact e1
    · rcases m with m | m
      · exact a.st.w x (.inl m)
      · rcases List.mem_cons.mp m with rfl | m
        · by_cases hw : ownd fps x
          · exact .inl hw
          · cases e : H x with
            | none => exact .inr rfl
            | some u =>
              have := a.st.k x u e hw
              rw [hp] at this
              cases this
        · exact a.st.w x (.inr (hf x m))
/-- a new tuple, frozen at once; its parts may be owned -/
theorem RVs.newT (a : RVs K σ env os F fps H vs F1 fps1 H1 fp) {p : Addr} {o : HO} {t : AV} {fq : List Addr} (hp : H1 p = none) (hf : ∀ x ∈ fq, x ∈ fp) (hn : fq.Nodup) (h : TR K (upd F1 p o) (upd H1 p o) (.ref p) t fq) :
    RVs K σ env [.val t] F fps H [.ref p] (upd F1 p o) fps1 (upd H1 p o) fq := by
  obtain ⟨w0, f0⟩ := fresh_own a.sk hp
  have np : ∀ x ∈ fp, x ≠ p := fun x m z => by
    obtain ⟨u, e⟩ := a.rs.there x m
    rw [z, hp] at e
    cases e
  have hW : ownd fps p ∨ H p = none := by
    by_cases hw : ownd fps p
    · exact .inl hw
    · cases e : H p with
      | none => exact .inr rfl
      | some u =>
        have := a.st.k p u e hw
        rw [hp] at this
        cases this
  refine ⟨a.sk.growF hp, .one h, hn, fun x m => ?_, ?_⟩
  · rw [upd_ne (np x (hf x m))]
    exact a.ap x (hf x m)
  · refine ⟨a.st.f.trans (.of fun x u e => ?_), fun x u e n => ?_, fun x e => ?_, fun x m => ?_⟩
    · rw [upd_ne (ne_of_none e f0)]
      exact e
    · have e1 := a.st.k x u e n
      rw [upd_ne (ne_of_none e1 hp)]
      exact e1
    · by_cases hx : x = p
      · subst hx
        exact .inr hW
      · rw [upd_ne hx] at e
        exact a.st.n x e
    · rcases m with m | m
      · exact a.st.w x (.inl m)
      · exact a.st.w x (.inr (hf x m))

/-- what an operand stands for now -/
theorem RVs.look1 (sk : SK K F1 fps1 σ H1 env) {v : V} {o : Opd} {t : AV} {fp : List Addr} (h : ORs K F1 H1 σ [v] [o] fp) (e : look env o = some t) : ∃ fq, TR K F1 H1 v t fq := by
  cases h with
  | slot hv hs =>
    have e' : getv env _ = some t := e
    unfold getv at e'
    rename_i i
    cases q : env[i]? with
    | none => rw [q] at e'; simp at e'
    | some u =>
      rw [q] at e'
      have e2 : u = some t := by simpa using e'
      subst e2
      obtain ⟨v', h1, h2⟩ := sk.slot i t q
      rw [hv] at h1
      cases h1
      exact ⟨_, h2⟩
  | val hv hs =>
    have e' : some _ = some t := e
    cases e'
    exact ⟨_, hv⟩
theorem RVs.looks (sk : SK K F1 fps1 σ H1 env) : ∀ {vs : List V} {os : List Opd} {ts : List AV} {fp : List Addr}, ORs K F1 H1 σ vs os fp → os.mapM (look env) = some ts → ∃ us : List (V × AV), vs = us.map (·.1) ∧ ts = us.map (·.2) ∧ ∀ u ∈ us, ∃ fq, TR K F1 H1 u.1 u.2 fq
  | _, [], ts, _, .nil, e => by
    have : ts = [] := by simpa using e.symm
    subst this
    exact ⟨[], rfl, rfl, fun _ m => nomatch m⟩
  | v :: vs, o :: os, ts, fp, h, e => by
    have e2 : ∃ t r, look env o = some t ∧ os.mapM (look env) = some r ∧ ts = t :: r := by
      rw [List.mapM_cons] at e
      cases q : look env o with
      | none => rw [q] at e; simp at e
      | some t =>
        cases q2 : os.mapM (look env) with
        | none => rw [q, q2] at e; simp at e
        | some r =>
          rw [q, q2] at e
          exact ⟨t, r, rfl, rfl, by simpa using e.symm⟩
    obtain ⟨t, r, h1, h2, rfl⟩ := e2
    have hd : (∃ fp1, ORs K F1 H1 σ [v] [o] fp1) ∧ ∃ fp2, ORs K F1 H1 σ vs os fp2 := by
      cases h with
      | slot a b => exact ⟨⟨_, .slot a .nil⟩, _, b⟩
      | val a b => exact ⟨⟨_, .val a .nil⟩, _, b⟩
    obtain ⟨⟨_, ha⟩, _, hb⟩ := hd
    obtain ⟨us, e1, e2, hu⟩ := RVs.looks sk hb h2
    refine ⟨(v, t) :: us, by rw [e1]; rfl, by rw [e2]; rfl, fun u m => ?_⟩
    rcases List.mem_cons.mp m with rfl | m
    · exact RVs.look1 sk ha h1
    · exact hu u m
end

/-! ### readings -/
section
variable {X : Cx} {e : Expr} {es : List Expr}
theorem PE.weak {t t' : TE} (h : PE X e t) (w : ∀ σ H Q, t' σ H Q → t σ H Q) : PE X e t' := ⟨fun pins s σ H Q I q => h.run pins s σ H Q I (w σ H Q q)⟩
theorem PT.weak {t t' : TT} (h : PT X e t) (w : ∀ σ H Q, t' σ H Q → t σ H Q) : PT X e t' := ⟨fun pins s σ H Q I q => h.run pins s σ H Q I (w σ H Q q)⟩
theorem PA.weak {t t' : TA} (h : PA X es t) (w : ∀ σ H Q, t' σ H Q → t σ H Q) : PA X es t' := ⟨fun pos pins s σ H Q I q => h.run pos pins s σ H Q I (w σ H Q q)⟩
theorem PS.weak {st : Stmt} {t t' : TS} (h : PS X st t) (w : ∀ D σ H, t' D σ H → t D σ H) : PS X st t' := ⟨fun pins s σ H D I q => h.run pins s σ H D I (w D σ H q)⟩
theorem PSs.weak {st : List Stmt} {t t' : TS} (h : PSs X st t) (w : ∀ D σ H, t' D σ H → t D σ H) : PSs X st t' := ⟨fun pins s σ H D I q => h.run pins s σ H D I (w D σ H q)⟩
end

/-- an operand's reading -/
def TIo (K : Frg) (env env' : SEnv) (o : Opd) : TE := fun σ H Q => ∃ F fps, SK K F fps σ H env ∧ ∀ v F' fps' H' fp, RVs K σ env' [o] F fps H [v] F' fps' H' fp → Q v H'
abbrev TIe (K : Frg) (env env' : SEnv) (t : AV) : TE := TIo K env env' (.val t)
def TIt (K : Frg) (env env' : SEnv) (b : Bool) : TT := fun σ H Q => ∃ F fps, SK K F fps σ H env ∧ ∀ F' fps' H', RVs K σ env' [] F fps H [] F' fps' H' [] → Q b H'
def TIa (K : Frg) (env env' : SEnv) (os : List Opd) : TA := fun σ H Q => ∃ F fps, SK K F fps σ H env ∧ ∀ vs F' fps' H' fp, RVs K σ env' os F fps H vs F' fps' H' fp → Q vs H'

theorem RVs.v1 {K : Frg} {σ : L2.St} {env : SEnv} {o : Opd} {F F' H H' : Hp} {fps fps' : Fps} {vs : List V} {fp : List Addr} (a : RVs K σ env [o] F fps H vs F' fps' H' fp) : ∃ v, vs = [v] := by
  have := a.rs.length
  match vs, this with
  | [v], _ => exact ⟨v, rfl⟩

section
variable {X : Cx} {a b c : Expr} {env e1 e2 e3 : SEnv} {oa ob oc : Opd}
/-- two operands, then an operation -/
theorem two_ok {t : AV} {r : R2} (h : ∀ {σ F fps H v w F2 fps2 H2 fp}, RVs X.K σ e2 [oa, ob] F fps H [v, w] F2 fps2 H2 fp → ∀ Q : VK, (∀ z F3 H3 fq, RVs X.K σ e2 [.val t] F fps H [z] F3 fps2 H3 fq → Q z H3) → r v w H2 Q) :
    ∀ σ H Q, TIe X.K env e2 t σ H Q → tOp r (TIo X.K env e1 oa) (TIo X.K e1 e2 ob) σ H Q := by
  rintro σ H Q ⟨F, fps, s, q⟩
  refine ⟨F, fps, s, fun v F1 fps1 H1 fp1 r1 => ⟨F1, fps1, r1.sk, fun w F2 fps2 H2 fp2 r2 => ?_⟩⟩
  exact h (r1.seq r2) Q fun z F3 H3 fq r3 => q z F3 fps2 H3 fq r3
end
end Mi
namespace Mi
open PySem L2 PyProof.Rows
/-- a tuple times 1, or an empty one times anything: the same object -/
theorem tup_mul_same (l : Addr) (its : Array Value) (n : Nat) (dd : Option Addr) (sl : Array (Option Value)) (x : Int) (u : Tok) (z0 : (decide (x < -(2 ^ 63)) || decide (x ≥ 2 ^ 63)) = false) (z1 : (its.isEmpty || x == 1) = true) :
    Meets (Builtin.«tuple.__mul__» ⟨[.ref l, .int x u], []⟩) (fun _ W s => s.heap.get? l = some { cls := .type "tuple", dict := dd, data := .seq its n, slots := sl } ∧ W (.ok (.ret (Value.ref l))) s) :=
  .of_wp fun prog w A W s h => by
    obtain ⟨hp, g, d, tk, os⟩ := s
    obtain ⟨hl, h⟩ := h
    have f1 := AutoSeq1.idx_int
    wp_walk using wpAny_loadPart' hl
    repeat (first
      | (refine wpAny_ite_false (decide_eq_false (by rw [z0]; exact Bool.false_ne_true)) ?_; wp_walk using wpAny_loadPart' hl)
      | (refine wpAny_ite_true (decide_eq_true z1) ?_; wp_walk using wpAny_loadPart' hl))

    exact ⟨_, rfl, h⟩
theorem tup_mul_none (l : Addr) (its : Array Value) (n : Nat) (dd : Option Addr) (sl : Array (Option Value)) (x : Int) (u : Tok) (z0 : (decide (x < -(2 ^ 63)) || decide (x ≥ 2 ^ 63)) = false) (z1 : (its.isEmpty || x == 1) = false) (z2 : (decide (x ≤ 0) || its.isEmpty) = true) :
    Meets (Builtin.«tuple.__mul__» ⟨[.ref l, .int x u], []⟩) (fun _ W s => s.heap.get? l = some { cls := .type "tuple", dict := dd, data := .seq its n, slots := sl } ∧ W (.ok (.ret (Value.ref s.heap.objs.size))) { s with heap := s.heap.push { cls := Value.type "tuple", data := Data.seq #[] }, toks := s.toks }) :=
  .of_wp fun prog w A W s h => by
    obtain ⟨hp, g, d, tk, os⟩ := s
    obtain ⟨hl, h⟩ := h
    have f1 := AutoSeq1.idx_int
    wp_walk using wpAny_loadPart' hl
    repeat (first
      | (refine wpAny_ite_false (decide_eq_false (by rw [z0]; exact Bool.false_ne_true)) ?_; wp_walk using wpAny_loadPart' hl)
      | (refine wpAny_ite_false (decide_eq_false (by rw [z1]; exact Bool.false_ne_true)) ?_; wp_walk using wpAny_loadPart' hl)
      | (refine wpAny_ite_true (decide_eq_true z2) ?_; wp_walk using wpAny_loadPart' hl))

    exact ⟨_, rfl, h⟩
section
variable {X : Cx}
def rRepS (K : Frg) : R2 := fun x y H Q => ∃ l k xs, x = .ref l ∧ y = .int k ∧ SqT K H l xs ∧ (xs = [] ∨ k = 1) ∧ -(2 ^ 62) ≤ k ∧ k < 2 ^ 62 ∧ Q (.ref l) H
def rRepZ (K : Frg) : R2 := fun x y H Q => ∃ l k xs, x = .ref l ∧ y = .int k ∧ SqT K H l xs ∧ xs ≠ [] ∧ k ≤ 0 ∧ -(2 ^ 62) ≤ k ∧ ∀ p, H p = none → Q (.ref p) (upd H p (.tup []))
theorem op_repS : OpR X (binaryOp .Mult) (rRepS X.K) := by
  intro pins s σ H x y v u Q I rx ry h
  obtain ⟨l, k, xs, rfl, rfl, hT, hc, h1, h2, q⟩ := h
  cases rx
  obtain ⟨t, rfl⟩ := ry
  obtain ⟨its, r, ⟨⟨cls, dd, data, sl⟩, ho, hcl, n, hd⟩, hs⟩ := I.tuple hT
  simp only at hcl hd
  subst hcl hd
  have z0 : (decide (k < -(2 ^ 63)) || decide (k ≥ 2 ^ 63)) = false := by
    rw [decide_eq_false (by omega), decide_eq_false (by omega)] <;> rfl
  have z1 : (its.toArray.isEmpty || k == 1) = true := by
    rcases hc with rfl | rfl
    · have : its = [] := List.eq_nil_of_length_eq_zero (by rw [← r.length]; rfl)
      subst this
      rfl
    · rw [beq_self_eq_true, Bool.or_true]
  refine wpAny_binaryOp_repeat_ref (T := "tuple") (U := "int") (by decide) ⟨_, ho, rfl⟩ (fun s' => typeIs_int s' k t) noFill_tuple_mul PySem.F.fills_int_mul PySem.F.slot_int_rmul repeat_tuple PySem.F.slot_int_index.lookup
    (call_meets PySem.F.slot_int_rmul (typeIs_int s k t) PySem.F.entry_int_rmul (PySem.F.args_int_rmul_2 _ _) (int_rmul_tuple k t l its.toArray n dd sl)
      ⟨ho, rfl, ⟨_, ho, rfl⟩, call_meets PySem.F.slot_tuple_mul ⟨_, ho, rfl⟩ PySem.F.entry_tuple_mul (PySem.F.args_tuple_mul_2 _ _) (tup_mul_same l its.toArray n dd sl k t z0 z1) ⟨ho, ?_⟩⟩)
  exact ⟨.ref l, _, I, rfl, q⟩
theorem op_repZ : OpR X (binaryOp .Mult) (rRepZ X.K) := by
  intro pins s σ H x y v u Q I rx ry h
  obtain ⟨l, k, xs, rfl, rfl, hT, hne, hk, h1, q⟩ := h
  cases rx
  obtain ⟨t, rfl⟩ := ry
  obtain ⟨its, r, ⟨⟨cls, dd, data, sl⟩, ho, hcl, n, hd⟩, hs⟩ := I.tuple hT
  simp only at hcl hd
  subst hcl hd
  have z0 : (decide (k < -(2 ^ 63)) || decide (k ≥ 2 ^ 63)) = false := by
    rw [decide_eq_false (by omega), decide_eq_false (by omega)] <;> rfl
  have hi : its.toArray.isEmpty = false := by
    cases its with
    | nil => exact absurd (List.eq_nil_of_length_eq_zero r.length) hne
    | cons a b => rfl
  have z1 : (its.toArray.isEmpty || k == 1) = false := by
    rw [hi, Bool.false_or]
    exact beq_eq_false_iff_ne.mpr (by omega)
  have z2 : (decide (k ≤ 0) || its.toArray.isEmpty) = true := by
    rw [decide_eq_true hk, Bool.true_or]
  refine wpAny_binaryOp_repeat_ref (T := "tuple") (U := "int") (by decide) ⟨_, ho, rfl⟩ (fun s' => typeIs_int s' k t) noFill_tuple_mul PySem.F.fills_int_mul PySem.F.slot_int_rmul repeat_tuple PySem.F.slot_int_index.lookup
    (call_meets PySem.F.slot_int_rmul (typeIs_int s k t) PySem.F.entry_int_rmul (PySem.F.args_int_rmul_2 _ _) (int_rmul_tuple k t l its.toArray n dd sl)
      ⟨ho, rfl, ⟨_, ho, rfl⟩, call_meets PySem.F.slot_tuple_mul ⟨_, ho, rfl⟩ PySem.F.entry_tuple_mul (PySem.F.args_tuple_mul_2 _ _) (tup_mul_none l its.toArray n dd sl k t z0 z1 z2) ⟨ho, ?_⟩⟩)
  refine ⟨.ref s.heap.objs.size, _, I.laid (t' := s.toks) (o := .tup []) (fun b ob q => Heap.get?_push_of_some _ q) (Nat.le_refl _) ?_, rfl, q _ (I.hok.fresh (Nat.le_refl _))⟩
  exact ⟨Nat.zero_le _, [], .nil, IsTup.new _ _⟩
theorem op_isB : OpR X (compareOp .Is) (fun x y H Q => ∃ p q, x = .bl p ∧ y = .bl q ∧ Q (.bl (p == q)) H) := by
  intro pins s σ H x y v u Q I rx ry h
  obtain ⟨p, q, rfl, rfl, h⟩ := h
  cases rx
  cases ry
  refine wpAny_is_plain (by cases p <;> cases q <;> rfl) ?_
  exact ⟨.bl (p == q), H, I, by cases p <;> cases q <;> rfl, h⟩
theorem op_notB : OpR X (compareOp .IsNot) (fun x y H Q => ∃ p q, x = .bl p ∧ y = .bl q ∧ Q (.bl (!(p == q))) H) := by
  intro pins s σ H x y v u Q I rx ry h
  obtain ⟨p, q, rfl, rfl, h⟩ := h
  cases rx
  cases ry
  refine wpAny_isNot_plain (by cases p <;> cases q <;> rfl) ?_
  exact ⟨.bl (!(p == q)), H, I, by cases p <;> cases q <;> rfl, h⟩
/-- extend by a list of whatever kind -/
theorem list_ext_any (l : Addr) (its : Array Value) (n : Nat) (b : Addr) (zs : Array Value) (m : Nat) (dd : Option Addr) (sl : Array (Option Value)) (z0 : ¬ (!its.isEmpty && Builtin.List.listTooLong (its.size + zs.size)) = true) (z1 : its.size ≤ sizeLine) (z2 : its.size + zs.size ≤ sizeLine + 1) :
    Meets (Builtin.«list.extend» ⟨[.ref l, .ref b], []⟩) (fun _ W s => s.heap.get? l = some { cls := .type "list", dict := none, data := .seq its n, slots := #[] } ∧ s.heap.get? b = some { cls := .type "list", dict := dd, data := .seq zs m, slots := sl } ∧
      W (.ok (.ret Value.none)) { s with heap := s.heap.update l (Obj.mapSeq fun x => x ++ zs), toks := s.toks }) :=
  .of_wp fun prog w A W s h => by
    obtain ⟨hp, g, d, tk, os⟩ := s
    obtain ⟨hl, hb, h⟩ := h
    have f1 := AutoSeq1.idx_int
    have f2 := AutoSeq1.sub_tuple_tuple
    have f3 := AutoSeq1.sub_list_list
    have f4 := AutoSeq1.sub_tuple_list
    have f5 := AutoSeq1.sub_list_tuple
    have hz : (its ++ zs).size ≤ sizeLine + 1 := by
      rw [Array.size_append]
      exact z2
    wp_walk using (wpAny_updateSeq hl rfl (hz := z1) (_hz' := hz)), wpAny_loadPart' hl, wpAny_loadPart' hb
    exact ⟨_, rfl, h⟩
def rExtendR (K : Frg) : V → List V → Hp → VK → Prop := fun x vs H Q => ∃ l b xs zs, x = .ref l ∧ vs = [.ref b] ∧ H l = some (.lst xs) ∧ SqL K H b zs ∧ xs.length + zs.length ≤ sizeLine ∧ Q .non (upd H l (.lst (xs ++ zs)))
theorem mt_extendR : MtR X "list.extend" (rExtendR X.K) := by
  intro pins s σ H x vs v us Q I rx rv h
  obtain ⟨l, b, xs, zs, rfl, rfl, hH, hB, hz, q⟩ := h
  cases rx
  obtain ⟨u, rfl, ru⟩ := rv.one
  cases ru
  obtain ⟨z, i1, n1, r1, l1, e1⟩ := I.lstM hH
  obtain ⟨i2, r2, ⟨⟨c2, d2, t2, s2⟩, n2, o2, k2, m2, q2⟩, _⟩ := I.list hB
  simp only at k2 m2 q2
  subst k2 m2 q2
  have l2 := r2.length
  have hsz : i1.toArray.size + i2.toArray.size ≤ sizeLine := by
    rw [List.size_toArray, List.size_toArray]
    omega
  have hlong : ¬ (!i1.toArray.isEmpty && Builtin.List.listTooLong (i1.toArray.size + i2.toArray.size)) = true := by
    rw [notLongL hsz, Bool.and_false]
    exact Bool.false_ne_true
  refine call_meets PySem.F.slot_list_extend ⟨_, e1, rfl⟩ PySem.F.entry_list_extend (PySem.F.args_list_extend_2 _ _)
    (list_ext_any l i1.toArray n1 b i2.toArray n2 none s2 hlong (by rw [List.size_toArray]; omega) (by omega)) ⟨e1, o2, ?_⟩
  refine ⟨.non, _, I.lset (its' := i1 ++ i2) hH e1 (by simp) (r1.append r2) ?_, rfl, q⟩
  rw [List.length_append]
  omega
end
end Mi
/-! Operators by values. -/
namespace Mi
open PySem L2

theorem lim_lt : LIM < sizeLine := by decide
theorem fitL_le {n : Nat} (h : fitL n = true) : n ≤ sizeLine := by
  have := of_decide_eq_true h
  exact Nat.le_trans this (Nat.le_of_lt lim_lt)
theorem fitL_lt {n : Nat} (h : fitL n = true) : n < sizeLine := by
  have := of_decide_eq_true h
  exact Nat.lt_of_le_of_lt this lim_lt
theorem fitL_pred {n : Nat} (h : fitL (n + 1) = true) : n < sizeLine := by
  have := of_decide_eq_true h
  exact Nat.lt_of_lt_of_le (Nat.lt_succ_self n) (Nat.le_trans this (Nat.le_of_lt lim_lt))

/-- what the operations ask of the place -/
structure Opx (X : Cx) : Prop where
  calm : X.calm = true
  un : X.A.units + 150 < cLine
  gd : X.A.guards = some []

section
variable {X : Cx}
/-- a readable list, as an object -/
theorem rdL {pins : List (Addr × Obj)} {σ : L2.St} {H : Hp} {s : Shared} {a : Addr} {xs : List V} (I : Inv X pins σ H s) (h : SqL X.K H a xs) :
    xs.length ≤ sizeLine ∧ ∃ its : List Value, Vals xs its ∧ xs.length = its.length ∧ s.heap.IsList a its.toArray := by
  obtain ⟨its, r, p, z⟩ := I.list h
  exact ⟨z, its, r, r.length, p.isList⟩
def rCatR (K : Frg) : R2 := fun x y H Q => ∃ l b xs zs, x = .ref l ∧ y = .ref b ∧ SqL K H l xs ∧ SqL K H b zs ∧ xs.length + zs.length ≤ sizeLine ∧ ∀ p, H p = none → Q (.ref p) (upd H p (.lst (xs ++ zs)))
theorem op_catR : OpR X (binaryOp .Add) (rCatR X.K) := by
  intro pins s σ H x y v u Q I rx ry h
  obtain ⟨l, b, xs, zs, rfl, rfl, h1, h2, hz, q⟩ := h
  cases rx
  cases ry
  obtain ⟨_, i1, r1, l1, p1⟩ := rdL I h1
  obtain ⟨_, i2, r2, l2, p2⟩ := rdL I h2
  obtain ⟨⟨c1, d1, t1, s1⟩, o1, k1, n1, q1⟩ := p1
  obtain ⟨⟨c2, d2, t2, s2⟩, o2, k2, n2, q2⟩ := p2
  simp only at k1 q1 k2 q2
  subst k1 q1 k2 q2
  refine concat_meets ⟨_, o1, rfl⟩ ⟨_, o2, rfl⟩ noFill_list_add seq_list_add PySem.F.slot_list_add PySem.F.entry_list_add (PySem.F.args_list_add_2 _ _) (PyProof.Rows.list_addW l b i1.toArray i2.toArray n1 n2 d1 d2 s1 s2 (by simp only [List.size_toArray]; omega)) ⟨o1, o2, ?_⟩
  have ea : i1.toArray ++ i2.toArray = (i1 ++ i2).toArray := by simp
  rw [ea]
  exact ⟨.ref _, _, I.lnew (t' := s.toks) (r1.append r2) (by rw [List.length_append]; omega), rfl, q _ I.fresh⟩

/-- a binary operation, by its two values -/
def BinOk (X : Cx) (f : Value → Value → Sem Value) (ta tb t : AV) : Prop :=
  ∃ r, OpR X f r ∧ ∀ {σ : L2.St} {F fps H v w F2 fps2 H2 fp fa fb} {env : SEnv} {os : List Opd} {vs : List V}, RVs X.K σ env os F fps H vs F2 fps2 H2 fp → TR X.K F2 H2 v ta fa → TR X.K F2 H2 w tb fb →
    ∀ Q : VK, (∀ z F3 H3 fq, RVs X.K σ env [.val t] F fps H [z] F3 fps2 H3 fq → Q z H3) → r v w H2 Q

theorem TR.int {K : Frg} {F H : Hp} {v : V} {i : Int} {fp : List Addr} (h : TR K F H v (.d (.int i)) fp) : v = .int i := by
  cases h with
  | d h => exact h.int_inv
theorem TR.str {K : Frg} {F H : Hp} {v : V} {i : Str} {fp : List Addr} (h : TR K F H v (.d (.str i)) fp) : v = .str i := by
  cases h with
  | d h => exact h.str_inv
theorem TR.bl {K : Frg} {F H : Hp} {v : V} {i : Bool} {fp : List Addr} (h : TR K F H v (.d (.bool i)) fp) : v = .bl i := by
  cases h with
  | d h => exact h.bl_inv
theorem TR.rp {K : Frg} {F H : Hp} {v : V} {x : PyData} {fp : List Addr} (h : TR K F H v (.d x) fp) : Rp K F v x := by
  cases h with
  | d h => exact h

/-- a new list of frozen items -/
theorem RVs.newL {K : Frg} {σ : L2.St} {env : SEnv} {os : List Opd} {F F1 H H1 : Hp} {fps fps1 : Fps} {vs : List V} {fp : List Addr} (a : RVs K σ env os F fps H vs F1 fps1 H1 fp) {p : Addr} {ws : List V} {xs : List PyData} (hp : H1 p = none) (h : RpL K F1 ws xs) :
    RVs K σ env [.val (fr xs)] F fps H [.ref p] F1 fps1 (upd H1 p (.lst ws)) [p] :=
  a.new (fq := []) hp (fun _ m => nomatch m) List.nodup_nil (.own upd_same (TRs.ofRp h))
/-- a new tuple of frozen items -/
theorem RVs.newTd {K : Frg} {σ : L2.St} {env : SEnv} {os : List Opd} {F F1 H H1 : Hp} {fps fps1 : Fps} {vs : List V} {fp : List Addr} (a : RVs K σ env os F fps H vs F1 fps1 H1 fp) {p : Addr} {ws : List V} {xs : List PyData} (hp : H1 p = none) (h : RpL K F1 ws xs) :
    RVs K σ env [.val (.d (.tuple xs))] F fps H [.ref p] (upd F1 p (.tup ws)) fps1 (upd H1 p (.tup ws)) [] := by
  obtain ⟨_, f0⟩ := fresh_own a.sk hp
  refine a.newT (fq := []) hp (fun _ m => nomatch m) List.nodup_nil (.d (.tup (.of upd_same) (h.mono (.of fun x u e => ?_))))
  rw [upd_ne (ne_of_none e f0)]
  exact e

theorem bin_I0 {f : Value → Value → Sem Value} {g : Int → Int → Int} {i j : Int} (h : OpR X f (rI0 fun i j => .int (g i j))) : BinOk X f (.d (.int i)) (.d (.int j)) (.d (.int (g i j))) :=
  ⟨_, h, fun R ha hb Q q => ⟨i, j, ha.int, hb.int, q _ _ _ _ (R.dat (.int _))⟩⟩
theorem bin_I {f : Value → Value → Sem Value} {C : Int → Int → Prop} {g : Int → Int → Int} {i j : Int} (h : OpR X f (rI C fun i j => .int (g i j))) (hc : C i j) : BinOk X f (.d (.int i)) (.d (.int j)) (.d (.int (g i j))) :=
  ⟨_, h, fun R ha hb Q q => ⟨i, j, ha.int, hb.int, hc, q _ _ _ _ (R.dat (.int _))⟩⟩

theorem cat_ok {ta tb t : AV} (e : catV ta tb = some t) : BinOk X (binaryOp .Add) ta tb t := by
  unfold catV at e
  split at e
  · rename_i xs ys ea eb
    split at e
    · rename_i hf
      cases e
      refine ⟨_, op_catR, fun R ha hb Q q => ?_⟩
      obtain ⟨a, ws, rfl, h1, r1⟩ := ha.lst R.sk.sub ea
      obtain ⟨b, us, rfl, h2, r2⟩ := hb.lst R.sk.sub eb
      refine ⟨a, b, ws, us, rfl, rfl, h1, h2, by rw [r1.length, r2.length]; exact fitL_le hf, fun p hp => q _ _ _ _ (R.newL hp (r1.append r2))⟩
    · cases e
  · split at e
    · rename_i xs ys ea eb
      split at e
      · rename_i hf
        cases e
        refine ⟨_, op_catA, fun R ha hb Q q => ?_⟩
        obtain ⟨a, ws, rfl, h1, r1⟩ := ha.tupl R.sk.sub ea
        obtain ⟨b, us, rfl, h2, r2⟩ := hb.tupl R.sk.sub eb
        refine ⟨a, b, ws, us, rfl, rfl, sqT_mono R.sk.sub h1, sqT_mono R.sk.sub h2, by rw [r1.length, r2.length]; exact fitL_le hf, fun z => ?_, fun _ z => ?_, fun _ _ p hp => q _ _ _ _ (R.newTd hp (r1.append r2))⟩
        · subst z
          have : xs = [] := by
            have := r1.length
            exact List.eq_nil_of_length_eq_zero this.symm
          subst this
          exact q _ _ _ _ (R.dat (.tup h2 r2))
        · subst z
          have : ys = [] := by
            have := r2.length
            exact List.eq_nil_of_length_eq_zero this.symm
          subst this
          rw [List.append_nil] at q
          exact q _ _ _ _ (R.dat (.tup h1 r1))
      · cases e
    · cases e

def rRepR : R2 := fun x y H Q => ∃ l k xs, x = .ref l ∧ y = .int k ∧ H l = some (.lst xs) ∧ -(2 ^ 63) ≤ k ∧ k < 2 ^ 63 ∧ xs.length * k.toNat ≤ sizeLine ∧ ∀ p, H p = none → Q (.ref p) (upd H p (.lst (List.replicate k.toNat xs).flatten))
/-- an unlocked list -/
theorem rep_ok {ta t : AV} {k : Int} (e : repV ta k = some t) : BinOk X (binaryOp .Mult) ta (.d (.int k)) t := by
  unfold repV at e
  split at e
  · rename_i xs ea
    split at e
    · rename_i hf
      cases e
      have h1 := of_decide_eq_true (Bool.and_eq_true _ _ ▸ hf : _ ∧ _).1
      have h2 := (Bool.and_eq_true _ _ ▸ hf : _ ∧ _).2
      refine ⟨_, op_rep, fun R ha hb Q q => ?_⟩
      cases ha with
      | d h => simp [AV.own?] at ea
      | own h hs =>
        have := leafs_map (show leafs _ = some xs from ea)
        subst this
        have r1 := hs.leaf.1
        refine ⟨_, k, _, rfl, hb.int, h, by omega, by omega, by rw [r1.length]; exact fitL_le h2, fun p hp => q _ _ _ _ (R.newL hp (r1.rep _))⟩
      | odk _ _ _ => simp [AV.own?] at ea
      | tup _ _ => simp [AV.own?] at ea
    · cases e
  · split at e
    · rename_i xs ea
      split at e
      · rename_i hf
        cases e
        obtain ⟨h0, h1, h2, h3⟩ := of_decide_eq_true hf
        refine ⟨_, op_repT, fun R ha hb Q q => ?_⟩
        obtain ⟨a, ws, rfl, g1, r1⟩ := ha.tupl R.sk.sub ea
        refine ⟨a, k, ws, rfl, hb.int, sqT_mono R.sk.sub g1, fun z => h0 ?_, h1, h2, by rw [r1.length]; exact h3, fun p hp => q _ _ _ _ (R.newTd hp (r1.rep _))⟩
        subst z
        exact List.eq_nil_of_length_eq_zero r1.length.symm
      · split at e
        · rename_i hf
          cases e
          obtain ⟨h0, h1, h2⟩ := of_decide_eq_true hf
          by_cases hc : xs = [] ∨ k = 1
          · have es : (List.replicate k.toNat xs).flatten = xs := by
              rcases hc with rfl | rfl
              · simp
              · simp
            rw [es]
            refine ⟨_, op_repS, fun R ha hb Q q => ?_⟩
            obtain ⟨a, ws, rfl, g1, r1⟩ := ha.tupl R.sk.sub ea
            refine ⟨a, k, ws, rfl, hb.int, sqT_mono R.sk.sub g1, hc.imp (fun z => ?_) id, h1, h2, q _ _ _ _ (R.dat (.tup g1 r1))⟩
            subst z
            exact List.eq_nil_of_length_eq_zero r1.length
          · have hne : xs ≠ [] := fun z => hc (.inl z)
            have hk1 : k ≠ 1 := fun z => hc (.inr z)
            have hk : k ≤ 0 := by
              have := h0.resolve_left hne
              omega
            have es : (List.replicate k.toNat xs).flatten = [] := by
              rw [show k.toNat = 0 by omega]
              rfl
            rw [es]
            refine ⟨_, op_repZ, fun R ha hb Q q => ?_⟩
            obtain ⟨a, ws, rfl, g1, r1⟩ := ha.tupl R.sk.sub ea
            refine ⟨a, k, ws, rfl, hb.int, sqT_mono R.sk.sub g1, fun z => hne ?_, hk, h1, fun p hp => q _ _ _ _ (R.newTd hp .nil)⟩
            subst z
            exact List.eq_nil_of_length_eq_zero r1.length.symm
        · cases e
    · cases e

theorem bin_ok {op : Operator} {ta tb t : AV} (e : binV op ta tb = some t) : BinOk X (binaryOp op) ta tb t := by
  unfold binV at e
  split at e
  · rename_i i j
    split at e
    · cases e; exact bin_I0 op_add
    · cases e; exact bin_I0 op_sub
    · split at e
      · rename_i h
        cases e
        refine bin_I op_mul ?_
        unfold okMul at h
        rcases Bool.or_eq_true _ _ ▸ h with h | h
        · exact .inl (of_decide_eq_true h)
        · exact .inr (of_decide_eq_true h)
      · cases e
    · split at e
      · rename_i h
        cases e
        exact bin_I (g := fun i j => i % j) op_mod (of_decide_eq_true h)
      · cases e
    · split at e
      · rename_i h
        cases e
        have h' := of_decide_eq_true h
        exact bin_I (g := fun i j => i / j) op_fdiv (show CDiv _ _ from h')
      · cases e
    · split at e
      · rename_i h
        cases e
        obtain ⟨h1, h2⟩ := (Bool.and_eq_true _ _ ▸ h : _ ∧ _)
        have g := of_decide_eq_true h1
        exact bin_I (g := fun i j => i ^ j.toNat) op_pow ⟨g.1, by omega, of_decide_eq_true h2⟩
      · cases e
    · cases e
  · rename_i x y
    split at e
    · split at e
      · rename_i h
        cases e
        exact ⟨_, op_add_str, fun R ha hb Q q => ⟨x, y, ha.str, hb.str, fitL_le h, q _ _ _ _ (R.dat (.str _))⟩⟩
      · cases e
    · cases e
  · rename_i k hne
    split at e
    · exact rep_ok e
    · cases e
  · split at e
    · exact cat_ok e
    · cases e
end
end Mi
/-! Comparisons, dicts, places, slices, isinstance by values. -/
namespace Mi
open PySem L2

/-! ### dicts -/
theorem keyIs_iff (k j : Key) : keyIs (keyD k) j = decide (k = j) := by
  cases k <;> cases j <;> simp [keyIs, keyD]
section
variable {K : Frg} {F H : Hp}
theorem dfind_val (k : Key) : ∀ {kvs : List (Key × V)} {ds : List PyData}, RpL K F (kvs.map (·.2)) ds →
    (valV kvs k = none ∧ dfind ((kvs.map fun kv => keyD kv.1).zip ds) k = none) ∨ ∃ v y, valV kvs k = some v ∧ dfind ((kvs.map fun kv => keyD kv.1).zip ds) k = some y ∧ Rp K F v y
  | [], _, .nil => .inl ⟨rfl, rfl⟩
  | (j, v) :: kvs, d :: ds, .cons h hs => by
    by_cases e : j = k
    · subst e
      refine .inr ⟨v, d, by rw [valV_pos rfl], ?_, h⟩
      unfold dfind
      rw [List.map_cons, List.zip_cons_cons, List.find?_cons, keyIs_iff]
      simp
    · have h1 : dfind (((((j, v) :: kvs).map fun kv => keyD kv.1)).zip (d :: ds)) k = dfind ((kvs.map fun kv => keyD kv.1).zip ds) k := by
        unfold dfind
        rw [List.map_cons, List.zip_cons_cons, List.find?_cons, keyIs_iff, decide_eq_false e]
      rw [valV_neg (show ¬ ((j, v) : Key × V).1 = k from e), h1]
      exact dfind_val k hs
theorem ofind_val (k : Key) : ∀ {kvs : List (Key × V)} {ts : List AV} {fp : List Addr}, TRs K F H (kvs.map (·.2)) ts fp →
    (valV kvs k = none ∧ ofind ((kvs.map (·.1)).zip ts) k = none) ∨ ∃ v t fq, valV kvs k = some v ∧ ofind ((kvs.map (·.1)).zip ts) k = some t ∧ TR K F H v t fq
  | [], _, _, .nil => .inl ⟨rfl, rfl⟩
  | (j, v) :: kvs, t :: ts, _, .cons h hs => by
    by_cases e : j = k
    · subst e
      refine .inr ⟨v, t, _, by rw [valV_pos rfl], ?_, h⟩
      unfold ofind
      rw [List.map_cons, List.zip_cons_cons, List.find?_cons]
      simp
    · have h1 : ofind (((((j, v) :: kvs).map (·.1))).zip (t :: ts)) k = ofind ((kvs.map (·.1)).zip ts) k := by
        unfold ofind
        rw [List.map_cons, List.zip_cons_cons, List.find?_cons, decide_eq_false (show ¬ ((j, v) : Key × V).1 = k from e)]
      rw [valV_neg (show ¬ ((j, v) : Key × V).1 = k from e), h1]
      exact ofind_val k hs
/-- what stands at a key -/
theorem TR.at {v : V} {t : AV} {fp : List Addr} {k : Key} {r : Option AV} (s : Ext F H) (h : TR K F H v t fp) (e : t.at? k = some r) : ∃ a o, v = .ref a ∧ DGet H a (kV k) o ∧
    ((o = none ∧ r = none) ∨ ∃ w u fq, o = some w ∧ r = some u ∧ TR K F H w u fq) := by
  cases h with
  | d h =>
    cases h with
    | dct hd hs hp =>
      simp only [AV.at?, Option.some.injEq] at e
      subst hp
      refine ⟨_, _, rfl, .inl ⟨_, k, s _ _ hd, rfl, rfl⟩, ?_⟩
      rcases dfind_val k hs with ⟨h1, h2⟩ | ⟨w, y, h1, h2, h3⟩
      · rw [h2] at e
        exact .inl ⟨h1, e.symm⟩
      · rw [h2] at e
        exact .inr ⟨w, .d y, [], h1, e.symm, .d h3⟩
    | _ => simp [AV.at?] at e
  | odk hd hk hs =>
    simp only [AV.at?, Option.some.injEq] at e
    subst hk
    refine ⟨_, _, rfl, .inl ⟨_, k, .inl hd, rfl, rfl⟩, ?_⟩
    rcases ofind_val k hs with ⟨h1, h2⟩ | ⟨w, y, fq, h1, h2, h3⟩
    · rw [h2] at e
      exact .inl ⟨h1, e.symm⟩
    · rw [h2] at e
      exact .inr ⟨w, y, fq, h1, e.symm, h3⟩
  | own _ _ => simp [AV.at?] at e
  | tup _ _ => simp [AV.at?] at e
theorem keyOf_rp {v : V} {x : PyData} {k : Key} (h : Rp K F v x) (e : keyOf? x = some k) : v = kV k := by
  cases h <;> simp [keyOf?] at e <;> subst e <;> rfl
end

section
variable {X : Cx}
theorem op_dIn (hu : X.A.units + 1 < cLine) : OpR X (compareOp .In) (fun y x H Q => ∃ a o, x = .ref a ∧ DGet H a y o ∧ Q (.bl o.isSome) H) := by
  intro pins s σ H x y v u Q I rx ry h
  obtain ⟨a, o, rfl, g, q⟩ := h
  cases ry
  exact d_in hu I g rx fun s' I' => ⟨.bl _, H, I', rfl, q⟩
theorem op_dNotIn (hu : X.A.units + 1 < cLine) : OpR X (compareOp .NotIn) (fun y x H Q => ∃ a o, x = .ref a ∧ DGet H a y o ∧ Q (.bl (!o.isSome)) H) := by
  intro pins s σ H x y v u Q I rx ry h
  obtain ⟨a, o, rfl, g, q⟩ := h
  cases ry
  exact d_notIn hu I g rx fun s' I' => ⟨.bl _, H, I', rfl, q⟩

/-- a comparison, by its two values -/
def CmpOk (X : Cx) (f : Value → Value → Sem Value) (ta tb : AV) (b : Bool) : Prop :=
  ∃ r, OpR X f r ∧ ∀ {F H : Hp} {v w : V} {fa fb : List Addr}, Ext F H → TR X.K F H v ta fa → TR X.K F H w tb fb → ∀ Q : VK, Q (.bl b) H → r v w H Q

theorem flat_V {K : Frg} {F : Hp} {v : V} {x : PyData} (h : Rp K F v x) (e : flatD x = true) : flatV v = true := by
  cases h <;> first | rfl | simp [flatD] at e
theorem eqV_flat {K : Frg} {F G : Hp} {v w : V} {x y : PyData} (h : Rp K F v x) (g : Rp K G w y) (e : flatD x = true) (e' : flatD y = true) : eqV w v = PyData.eqv y x := by
  cases h <;> cases g <;> first
    | rfl
    | simp [flatD] at e
    | simp [flatD] at e'
    | simp [eqV, PyData.eqv]
theorem inV_flat {K : Frg} {F G : Hp} {v : V} {x : PyData} (h : Rp K F v x) (e : flatD x = true) : ∀ {ws : List V} {ys : List PyData}, RpL K G ws ys → ys.all flatD = true →
    ws.all flatV = true ∧ inV v ws = ys.any fun y => PyData.eqv y x
  | _, _, .nil, _ => ⟨rfl, rfl⟩
  | _, _, .cons g gs, e' => by
    rw [List.all_cons, Bool.and_eq_true] at e'
    obtain ⟨h1, h2⟩ := inV_flat h e gs e'.2
    refine ⟨by rw [List.all_cons, flat_V g e'.1, h1]; rfl, ?_⟩
    unfold inV at h2 ⊢
    rw [List.any_cons, List.any_cons, h2, eqV_flat h g e e'.1]

theorem isN_of {K : Frg} {F : Hp} {v : V} {x : PyData} (h : Rp K F v x) (e : isNoneD x = true) : v = .non := by
  cases h <;> first | rfl | simp [isNoneD] at e
theorem isN_dec {K : Frg} {F : Hp} {v : V} {x : PyData} (h : Rp K F v x) : decide (v = .non) = isNoneD x := by
  cases h <;> simp [isNoneD]
theorem cmp_ok (O : Opx X) {op : CmpOp} {ta tb : AV} {b : Bool} (e : cmpV op ta tb = some b) : CmpOk X (compareOp op) ta tb b := by
  have hu := O.un
  have hin : ∀ {neg : Bool}, inVal neg ta tb = some b → CmpOk X (compareOp (if neg then .NotIn else .In)) ta tb b := by
    intro neg e
    unfold inVal at e
    split at e
    · rename_i o ho
      cases hk : keyOf? ta.dat with
      | none => rw [hk] at e; simp at e
      | some k =>
        rw [hk] at e
        cases hr : tb.at? k with
        | none => simp [hr] at e
        | some r =>
          have e' : (if neg = true then !r.isSome else r.isSome) = b := by simpa [hr] using e
          have key : ∀ {F H : Hp} {v w : V} {fa fb : List Addr}, Ext F H → TR X.K F H v ta fa → TR X.K F H w tb fb → ∃ a o, w = .ref a ∧ DGet H a v o ∧ o.isSome = r.isSome := fun s ha hb => by
            obtain ⟨a, o, e1, g, h3⟩ := hb.at s hr
            have := keyOf_rp (ha.datH s) hk
            subst this
            refine ⟨a, o, e1, g, ?_⟩
            rcases h3 with ⟨e2, e3⟩ | ⟨w', u, fq, e2, e3, _⟩ <;> rw [e2, e3] <;> rfl
          cases neg with
          | false =>
            refine ⟨_, op_dIn (by omega), fun s ha hb Q q => ?_⟩
            obtain ⟨a, o, e1, g, e2⟩ := key s ha hb
            exact ⟨a, o, e1, g, by rw [e2, show r.isSome = b from e']; exact q⟩
          | true =>
            refine ⟨_, op_dNotIn (by omega), fun s ha hb Q q => ?_⟩
            obtain ⟨a, o, e1, g, e2⟩ := key s ha hb
            exact ⟨a, o, e1, g, by rw [e2, show (!r.isSome) = b from e']; exact q⟩
    · split at e
      · rename_i ys hl
        split at e
        · rename_i hf
          obtain ⟨s1, s2⟩ := (Bool.and_eq_true _ _ ▸ hf : _ ∧ _)
          have e' := Option.some.inj e
          have key : ∀ {F H : Hp} {w : V} {fb : List Addr}, Ext F H → TR X.K F H w tb fb → Rp X.K H w (.list ys) := fun s hb => by
            obtain ⟨a, ws, e1, h1, h2⟩ := hb.lst s hl
            subst e1
            exact .lst h1 (h2.mono s)
          cases neg with
          | false =>
            refine ⟨_, op_inD (by omega), fun s ha hb Q q => ⟨_, ys, (ha.datH s).dpS s1, (key s hb).dpS s2, s1, s2, ?_⟩⟩
            rw [show (ys.any fun z => PyData.eqv z ta.dat) = b from e']
            exact q
          | true =>
            refine ⟨_, op_notInD (by omega), fun s ha hb Q q => ⟨_, ys, (ha.datH s).dpS s1, (key s hb).dpS s2, s1, s2, ?_⟩⟩
            rw [show (!ys.any fun z => PyData.eqv z ta.dat) = b from e']
            exact q
        · cases e
      · split at e
        · rename_i ys hl
          split at e
          · rename_i hf
            obtain ⟨s1, s2⟩ := (Bool.and_eq_true _ _ ▸ hf : _ ∧ _)
            have e' := Option.some.inj e
            cases neg with
            | false =>
              refine ⟨_, op_in_seq, fun s ha hb Q q => ?_⟩
              obtain ⟨a, ws, e1, h1, h2⟩ := hb.tupl s hl
              obtain ⟨g1, g2⟩ := inV_flat (ha.datH s) s1 h2 s2
              refine ⟨a, ws, e1, .inr (sqT_mono s h1), flat_V (ha.datH s) s1, g1, ?_⟩
              rw [if_neg Bool.false_ne_true, g2, show (ys.any fun z => PyData.eqv z ta.dat) = b from e']
              exact q
            | true =>
              refine ⟨_, op_notIn_seq, fun s ha hb Q q => ?_⟩
              obtain ⟨a, ws, e1, h1, h2⟩ := hb.tupl s hl
              obtain ⟨g1, g2⟩ := inV_flat (ha.datH s) s1 h2 s2
              refine ⟨a, ws, e1, .inr (sqT_mono s h1), flat_V (ha.datH s) s1, g1, ?_⟩
              rw [if_pos rfl, g2, show (!ys.any fun z => PyData.eqv z ta.dat) = b from e']
              exact q
          · cases e
        · cases e
  have hint : ∀ {g : Int → Int → Bool} {o : CmpOp}, OpR X (compareOp o) (rI0 fun i j => .bl (g i j)) → intCmp g ta tb = some b → CmpOk X (compareOp o) ta tb b := by
    intro g o h e
    unfold intCmp at e
    split at e
    · cases e
      exact ⟨_, h, fun s ha hb Q q => ⟨_, _, ha.int, hb.int, q⟩⟩
    · cases e
  have hnon : ∀ {F H : Hp} {v w : V} {fa fb : List Addr}, Ext F H → TR X.K F H v ta fa → TR X.K F H w tb fb → isNoneD tb.dat = true → w = .non ∧ decide (v = .non) = isNoneD ta.dat := fun s ha hb h => by
    exact ⟨isN_of (hb.datH s) h, isN_dec (ha.datH s)⟩
  cases op with
  | Eq =>
    simp only [cmpV] at e
    split at e
    · rename_i hf
      obtain ⟨s1, s2⟩ := (Bool.and_eq_true _ _ ▸ hf : _ ∧ _)
      have e' := Option.some.inj e
      subst e'
      exact ⟨_, op_eqD (by omega), fun s ha hb Q q => ⟨_, _, (ha.datH s).dpS s1, (hb.datH s).dpS s2, s1, s2, q⟩⟩
    · cases e
  | NotEq =>
    simp only [cmpV] at e
    split at e
    · rename_i hf
      obtain ⟨s1, s2⟩ := (Bool.and_eq_true _ _ ▸ hf : _ ∧ _)
      have e' := Option.some.inj e
      subst e'
      exact ⟨_, op_neD (by omega), fun s ha hb Q q => ⟨_, _, (ha.datH s).dpS s1, (hb.datH s).dpS s2, s1, s2, q⟩⟩
    · cases e
  | Lt => exact hint op_lt e
  | LtE => exact hint op_le e
  | Gt => exact hint op_gt e
  | GtE => exact hint op_ge e
  | Is =>
    simp only [cmpV] at e
    split at e
    · rename_i hf
      have e' := Option.some.inj e
      subst e'
      refine ⟨_, op_isN, fun s ha hb Q q => ?_⟩
      obtain ⟨h1, h2⟩ := hnon s ha hb hf
      exact ⟨h1, by rw [h2]; exact q⟩
    · unfold isBV at e
      split at e
      · cases e
        exact ⟨_, op_isB, fun s ha hb Q q => ⟨_, _, ha.bl, hb.bl, q⟩⟩
      · cases e
  | IsNot =>
    simp only [cmpV] at e
    split at e
    · rename_i hf
      have e' := Option.some.inj e
      subst e'
      refine ⟨_, op_notN, fun s ha hb Q q => ?_⟩
      obtain ⟨h1, h2⟩ := hnon s ha hb hf
      exact ⟨h1, by rw [h2]; exact q⟩
    · unfold isBV at e
      split at e
      · cases e
        exact ⟨_, op_notB, fun s ha hb Q q => ⟨_, _, ha.bl, hb.bl, q⟩⟩
      · cases e
  | In => exact hin (neg := false) e
  | NotIn => exact hin (neg := true) e
end
end Mi
/-! Places, slices, isinstance, built-in functions by values. -/
namespace Mi
open PySem L2 PyProof.Rows

section
variable {K : Frg} {F H : Hp}
theorem RpL.atI {ws : List V} {xs : List PyData} {i : Int} {x : PyData} (h : RpL K F ws xs) (e : L2.atI xs i = some x) : ∃ v, L2.atI ws i = some v ∧ Rp K F v x := by
  unfold L2.atI at e ⊢
  rw [h.length]
  cases q : ixN xs.length i with
  | none => rw [q] at e; simp at e
  | some j =>
    rw [q] at e
    exact h.get (show xs[j]? = some x from e)
theorem TRs.get : ∀ {ws : List V} {ts : List AV} {fp : List Addr}, TRs K F H ws ts fp → ∀ {j : Nat} {t : AV}, ts[j]? = some t → ∃ v fq, ws[j]? = some v ∧ TR K F H v t fq
  | _, _, _, .nil, j, t, e => by simp at e
  | _, _, _, .cons h _, 0, t, e => by
    have := Option.some.inj e
    subst this
    exact ⟨_, _, rfl, h⟩
  | _, _, _, .cons _ hs, j + 1, t, e => TRs.get hs (j := j) (by simpa using e)
theorem TRs.atI {ws : List V} {ts : List AV} {fp : List Addr} {i : Int} {t : AV} (h : TRs K F H ws ts fp) (e : L2.atI ts i = some t) : ∃ v fq, L2.atI ws i = some v ∧ TR K F H v t fq := by
  unfold L2.atI at e ⊢
  rw [h.length]
  cases q : ixN ts.length i with
  | none => rw [q] at e; simp at e
  | some j =>
    rw [q] at e
    exact h.get (show ts[j]? = some t from e)
end

section
variable {X : Cx}
theorem ix_dict (hu : X.A.units + 1 < cLine) : IxR X (fun x y H Q => ∃ a v, x = .ref a ∧ DGet H a y (some v) ∧ Q v H) := by
  intro value slice pins s σ H x y v u Q I rx ry h hs
  obtain ⟨a, z, rfl, g, q⟩ := h
  cases rx
  refine PyProof.Rows.tail_any (dict_typeIs I g) PySem.F.slot_dict_getitem.lookup (d_getItem hu I g ry fun w' s3 I3 rw' => ⟨z, H, I3, rw', q⟩) hs

/-- a subscript, by its two values; what it gives is frozen -/
def IxOk (X : Cx) (ta tb : AV) (x : PyData) : Prop :=
  ∃ r, IxR X r ∧ ∀ {F H : Hp} {v w : V} {fa fb : List Addr}, Ext F H → TR X.K F H v ta fa → TR X.K F H w tb fb → ∀ Q : VK, (∀ z, Rp X.K F z x → Q z H) → r v w H Q

theorem ix_ok (O : Opx X) {ta tb t : AV} (e : ixV ta tb = some t) : ∃ x, t = .d x ∧ IxOk X ta tb x := by
  have hu := O.un
  unfold ixV at e
  split at e
  · rename_i xs
    split at e
    · rename_i k
      obtain ⟨x, hx, rfl⟩ := Option.map_eq_some_iff.mp e
      refine ⟨x, rfl, _, ix_list, fun s ha hb Q q => ?_⟩
      obtain ⟨a, ws, rfl, h1, h2⟩ := ha.rp.lst_inv
      obtain ⟨v, h3, h4⟩ := h2.atI hx
      exact ⟨a, ws, k, v, rfl, hb.int, sqL_mono s h1, h3, q v h4⟩
    · cases e
  · rename_i xs
    split at e
    · rename_i k
      obtain ⟨x, hx, rfl⟩ := Option.map_eq_some_iff.mp e
      refine ⟨x, rfl, _, ix_tup, fun s ha hb Q q => ?_⟩
      obtain ⟨a, ws, rfl, h1, h2⟩ := ha.rp.tup_inv
      obtain ⟨v, h3, h4⟩ := h2.atI hx
      exact ⟨a, ws, k, v, rfl, hb.int, sqT_mono s h1, h3, q v h4⟩
    · cases e
  · rename_i ts
    split at e
    · rename_i k
      split at e
      · rename_i x hx
        cases e
        refine ⟨x, rfl, _, ix_list, fun s ha hb Q q => ?_⟩
        cases ha with
        | own h hs =>
          obtain ⟨v, fq, h3, h4⟩ := hs.atI hx
          exact ⟨_, _, k, v, rfl, hb.int, .of h, h3, q v h4.rp⟩
      · cases e
    · cases e
  · rename_i ts
    split at e
    · rename_i k
      split at e
      · rename_i x hx
        cases e
        refine ⟨x, rfl, _, ix_tup, fun s ha hb Q q => ?_⟩
        cases ha with
        | tup h hs =>
          obtain ⟨v, fq, h3, h4⟩ := hs.atI hx
          exact ⟨_, _, k, v, rfl, hb.int, sqT_mono s h, h3, q v h4.rp⟩
      · cases e
    · cases e
  · split at e
    · rename_i y
      split at e
      · rename_i z hz
        cases e
        cases hk : keyOf? y with
        | none => rw [hk] at hz; simp at hz
        | some k =>
          rw [hk] at hz
          refine ⟨z, rfl, _, ix_dict (by omega), fun s ha hb Q q => ?_⟩
          obtain ⟨a, o, rfl, g, h3⟩ := ha.at s (show ta.at? k = some (some (.d z)) from hz)
          have := keyOf_rp hb.rp hk
          subst this
          rcases h3 with ⟨_, h3⟩ | ⟨v, u, fq, e1, e2, h3⟩
          · cases h3
          · cases e2
            subst e1
            exact ⟨a, v, rfl, g, q v h3.rp⟩
      · cases e
    · cases e

/-! ### slices -/
def SlcOk (X : Cx) (ta : AV) (lo hi : Option Int) (t : AV) : Prop :=
  ∃ r, SlR X r ∧ ∀ {σ : L2.St} {F fps H v F2 fps2 H2 fp fa} {env : SEnv} {os : List Opd} {vs : List V}, RVs X.K σ env os F fps H vs F2 fps2 H2 fp → TR X.K F2 H2 v ta fa →
    ∀ Q : VK, (∀ z F3 H3 fq, RVs X.K σ env [.val t] F fps H [z] F3 fps2 H3 fq → Q z H3) → r v lo hi H2 Q
theorem cutD_all {xs : List PyData} {lo hi : Option Int} (h1 : HT.sIx xs.length 0 lo = 0) (h2 : HT.sIx xs.length xs.length hi = xs.length) : cutD xs lo hi = xs := by
  unfold cutD
  rw [h1, h2]
  simp
theorem slc_ok {ta t : AV} {lo hi : Option Int} (e : slcV ta lo hi = some t) : SlcOk X ta lo hi t := by
  unfold slcV at e
  split at e
  · rename_i xs hx
    cases e
    refine ⟨_, sl_list, fun R ha Q q => ?_⟩
    obtain ⟨a, ws, rfl, h1, h2⟩ := ha.lst R.sk.sub hx
    refine ⟨a, ws, rfl, h1, fun p hp => q _ _ _ _ (R.newL hp ?_)⟩
    unfold cutV cutD
    rw [h2.length]
    exact (h2.drop _).take _
  · split at e
    · rename_i xs hx
      cases e
      refine ⟨_, sl_tupA, fun R ha Q q => ?_⟩
      obtain ⟨a, ws, rfl, h1, h2⟩ := ha.tupl R.sk.sub hx
      refine ⟨a, ws, rfl, sqT_mono R.sk.sub h1, fun z => ?_, fun z p hp => q _ _ _ _ (R.newTd hp ?_)⟩
      · rw [h2.length] at z
        rw [cutD_all z.1 z.2] at q
        exact q _ _ _ _ (R.dat (.tup h1 h2))
      · unfold cutV cutD
        rw [h2.length]
        exact (h2.drop _).take _
    · cases e

/-! ### isinstance -/
def tyD : PyData → String
  | .none => "NoneType"
  | .bool _ => "bool"
  | .int _ => "int"
  | .str _ => "str"
  | .list _ => "list"
  | .tuple _ => "tuple"
  | .dict _ => "dict"
def tyP : PTy → String
  | .int => "int"
  | .bool => "bool"
  | .str => "str"
  | .tup => "tuple"
  | .lst => "list"
  | .dct => "dict"
theorem kit_isi (p : PTy) (x : PyData) : kitB (tyD x) (tyP p) = some (isiD p x) := by
  cases p <;> cases x <;> (dsimp only [tyD, tyP, isiD]; decide +kernel)
theorem Rp.ty {K : Frg} {H : Hp} {v : V} {x : PyData} (h : Rp K H v x) : TyX K H v (.type (tyD x)) := by
  cases h with
  | non => exact .base .non
  | bl b => exact .base (.bl b)
  | int i => exact .base (.int i)
  | str x => exact .base (.str x)
  | lst h hs =>
    rcases h with (h | ⟨o, h⟩) | ⟨o, its, n, h1, h2, _⟩
    · exact .base (.lst h)
    · exact .base (.frz h)
    · exact .kList h1 h2
  | tup h hs =>
    rcases h with (h | ⟨o, h⟩) | ⟨o, its, n, h1, h2, _⟩
    · exact .base (.tup h)
    · exact .fTuple h
    · exact .kTuple h1 h2
  | dct h hs e =>
    rcases h with h | ⟨o, h⟩
    · exact .base (.dK h)
    · exact .fDict h
theorem kitAny_isi {K : Frg} (x : PyData) : ∀ ps : List PTy, PySem.W.kitAny K (.type (tyD x)) (ps.map fun p => .type (tyP p)) = some (ps.any fun p => isiD p x)
  | [] => kitAny_nil
  | p :: ps => by
    refine kitAny_cons (kit_ty (kit_isi p x)) (fun e => ?_) fun e => ?_
    · rw [List.any_cons, e, Bool.false_or]
      exact kitAny_isi x ps
    · rw [List.any_cons, e, Bool.true_or]
end
end Mi
/-! Built-in functions by values. -/
namespace Mi
open PySem L2 PyProof.Rows

section
variable {K : Frg} {F H : Hp}
theorem allInts_map : ∀ {xs : List PyData} {ns : List Int}, allInts xs = some ns → xs = ns.map .int
  | [], ns, e => by
    have : ns = [] := by simpa [allInts] using e.symm
    rw [this]
    rfl
  | .int i :: r, ns, e => by
    unfold allInts at e
    obtain ⟨ys, h1, h2⟩ := Option.map_eq_some_iff.mp e
    rw [← h2, allInts_map h1]
    rfl
  | .none :: _, _, e => by simp [allInts] at e
  | .bool _ :: _, _, e => by simp [allInts] at e
  | .str _ :: _, _, e => by simp [allInts] at e
  | .list _ :: _, _, e => by simp [allInts] at e
  | .tuple _ :: _, _, e => by simp [allInts] at e
  | .dict _ :: _, _, e => by simp [allInts] at e
theorem allBools_map : ∀ {xs : List PyData} {ns : List Bool}, allBools xs = some ns → xs = ns.map .bool
  | [], ns, e => by
    have : ns = [] := by simpa [allBools] using e.symm
    rw [this]
    rfl
  | .bool i :: r, ns, e => by
    unfold allBools at e
    obtain ⟨ys, h1, h2⟩ := Option.map_eq_some_iff.mp e
    rw [← h2, allBools_map h1]
    rfl
  | .none :: _, _, e => by simp [allBools] at e
  | .int _ :: _, _, e => by simp [allBools] at e
  | .str _ :: _, _, e => by simp [allBools] at e
  | .list _ :: _, _, e => by simp [allBools] at e
  | .tuple _ :: _, _, e => by simp [allBools] at e
  | .dict _ :: _, _, e => by simp [allBools] at e
theorem RpL.bools : ∀ {vs : List V} {bs : List Bool}, RpL K F vs (bs.map .bool) → vs = bs.map .bl
  | _, [], .nil => rfl
  | _, n :: ns, .cons h hs => by
    rw [h.bl_inv, RpL.bools hs]
    rfl
theorem RpL.keys : ∀ ks : List Key, RpL K F (ks.map kV) (ks.map keyD)
  | [] => .nil
  | .inl i :: ks => .cons (.int i) (RpL.keys ks)
  | .inr s :: ks => .cons (.str s) (RpL.keys ks)
theorem RpL.ofPairs : ∀ {ps : List (V × PyData)}, (∀ p ∈ ps, Rp K F p.1 p.2) → RpL K F (ps.map (·.1)) (ps.map (·.2))
  | [], _ => .nil
  | p :: ps, h => .cons (h p List.mem_cons_self) (RpL.ofPairs fun q m => h q (List.mem_cons_of_mem _ m))
theorem RpL.toPairs : ∀ {ws : List V} {xs : List PyData}, RpL K F ws xs → ∃ ps : List (V × PyData), ws = ps.map (·.1) ∧ xs = ps.map (·.2) ∧ ∀ p ∈ ps, Rp K F p.1 p.2
  | _, _, .nil => ⟨[], rfl, rfl, fun _ m => nomatch m⟩
  | _, _, .cons h hs => by
    obtain ⟨ps, h1, h2, h3⟩ := RpL.toPairs hs
    refine ⟨(_, _) :: ps, by rw [h1]; rfl, by rw [h2]; rfl, fun p m => ?_⟩
    rcases List.mem_cons.mp m with rfl | m
    · exact h
    · exact h3 p m
theorem canAll_mem : ∀ {xs : List PyData}, PyData.canLayAll0 xs = true → ∀ x ∈ xs, x.canLay0 = true
  | y :: ys, e, x, m => by
    have e' : y.canLay0 = true ∧ PyData.canLayAll0 ys = true := by simpa [PyData.canLayAll0] using e
    rcases List.mem_cons.mp m with rfl | m
    · exact e'.1
    · exact canAll_mem e'.2 x m
theorem depth_mem : ∀ {xs : List PyData}, ∀ x ∈ xs, x.depth ≤ PyData.depthAll xs
  | y :: ys, x, m => by
    have e : PyData.depthAll (y :: ys) = max y.depth (PyData.depthAll ys) := by simp [PyData.depthAll]
    rw [e]
    rcases List.mem_cons.mp m with rfl | m
    · exact Nat.le_max_left _ _
    · exact Nat.le_trans (depth_mem x m) (Nat.le_max_right _ _)
theorem alikes_iff {xs : List PyData} (e : alikes xs = true) : ∀ x ∈ xs, ∀ y ∈ xs, PySem.W.alike x y = true := fun x mx y my => List.all_eq_true.mp (List.all_eq_true.mp e x mx) y my
end

section
variable {X : Cx}
/-- the readings of the values of a list -/
theorem eachReads {pins : List (Addr × Obj)} {σ : L2.St} {H : Hp} {s : Shared} (I : Inv X pins σ H s) : ∀ {ps : List (V × PyData)} {its : List Value}, Vals (ps.map (·.1)) its → (∀ p ∈ ps, Dp X.K H p.1 p.2) →
    PySem.W.EachIs (fun (v : Value) (p : V × PyData) => RelV p.1 v) its ps ∧ PySem.W.EachIs (fun (v : Value) (p : V × PyData) => ∃ as, Reads s.heap v p.2 as) its ps
  | [], _, .nil, _ => ⟨.nil, .nil⟩
  | p :: ps, _, .cons r rs, h => by
    obtain ⟨h1, h2⟩ := eachReads I rs fun q m => h q (List.mem_cons_of_mem _ m)
    exact ⟨.cons r h1, .cons (Dp.reads I _ _ _ (h p List.mem_cons_self) r) h2⟩
theorem each_vals : ∀ {ps : List (V × PyData)} {out : List Value}, PySem.W.EachIs (fun (v : Value) (p : V × PyData) => RelV p.1 v) out ps → Vals (ps.map (·.1)) out
  | _, _, .nil => .nil
  | _, _, .cons h hs => .cons h (each_vals hs)

/-- sorted of data -/
def rSortD (K : Frg) : List V → Hp → VK → Prop := fun vs H Q => ∃ (a : Addr) (ps : List (V × PyData)), vs = [V.ref a] ∧ SqL K H a (ps.map (·.1)) ∧ (∀ p ∈ ps, Dp K H p.1 p.2) ∧ PySem.W.AllAlike (ps.map (·.2)) ∧ PySem.W.Sortable (ps.map (·.2)) ∧
  (∀ p ∈ ps, p.2.depth ≤ 60) ∧ ∀ p, H p = none → Q (.ref p) (upd H p (.lst ((ps.mergeSort (PySem.W.dataLe false (·.2))).map (·.1))))
theorem cr_sortD (O : Opx X) : CallR X (.builtin "sorted") (rSortD X.K) := by
  intro pins s σ H vs us Q I r h
  have hu := O.un
  obtain ⟨a, ps, rfl, hl, hd, hal, hk, hdep, q⟩ := h
  obtain ⟨z, its, rv, lv, pl⟩ := rdL I hl
  rw [Vals.ref1 r]
  obtain ⟨e1, e2⟩ := eachReads I rv hd
  refine PySem.W.sorted_data (enc := fun p : V × PyData => p.2) pl e1 e2 hal hk (by rw [List.length_map] at z; exact z) (fun b m => by have := hdep b m; omega) fun out ho he => ?_
  obtain ⟨ep, he'⟩ := sortedAll_at s.heap its out.toArray
  have hlen : ((ps.mergeSort (PySem.W.dataLe false (·.2))).map (·.1)).length ≤ sizeLine := by
    rw [List.length_map, (List.mergeSort_perm _ _).length_eq]
    rw [List.length_map] at z
    exact z
  exact ⟨.ref _, _, I.laid (a := s.heap.objs.size + 1) (o := .lst ((ps.mergeSort (PySem.W.dataLe false (·.2))).map (·.1))) (t' := s.toks) (fun _ _ => sortedAll_old) (Nat.le_succ _) ⟨hlen, out, ep, each_vals he, he'⟩, rfl, q _ (I.hok.fresh (Nat.le_succ _))⟩

/-- min of data, max of data -/
def rBestD (K : Frg) (best : PyData → List PyData → PyData) : List V → Hp → VK → Prop := fun vs H Q => ∃ (a : Addr) (p : V × PyData) (ps : List (V × PyData)), vs = [V.ref a] ∧ SqL K H a ((p :: ps).map (·.1)) ∧ (∀ q ∈ p :: ps, Dp K H q.1 q.2) ∧
  PySem.W.AlikeAll ((p :: ps).map (·.2)) ∧ PyData.depthAll ((p :: ps).map (·.2)) ≤ 60 ∧ ∀ q ∈ p :: ps, q.2 = best p.2 (ps.map (·.2)) → Q q.1 H
theorem reads_all {pins : List (Addr × Obj)} {σ : L2.St} {H : Hp} {s : Shared} (I : Inv X pins σ H s) : ∀ {ps : List (V × PyData)} {its : List Value}, Vals (ps.map (·.1)) its → (∀ p ∈ ps, Dp X.K H p.1 p.2) → ∃ as, ReadsAll s.heap its (ps.map (·.2)) as
  | [], _, .nil, _ => ⟨_, .nil⟩
  | p :: ps, _, .cons r rs, h => by
    obtain ⟨as, h1⟩ := Dp.reads I _ _ _ (h p List.mem_cons_self) r
    obtain ⟨bs, h2⟩ := reads_all I rs fun q m => h q (List.mem_cons_of_mem _ m)
    exact ⟨_, .cons h1 h2⟩
theorem pair_at : ∀ {ps : List (V × PyData)} {its : List Value}, Vals (ps.map (·.1)) its → ∀ {i : Nat} {v : Value}, its[i]? = some v → ∃ p ∈ ps, RelV p.1 v
  | [], _, .nil, i, v, e => by simp at e
  | p :: ps, _, .cons r rs, 0, v, e => by
    have := Option.some.inj e
    subst this
    exact ⟨p, List.mem_cons_self, r⟩
  | p :: ps, _, .cons r rs, i + 1, v, e => by
    obtain ⟨q, m, h⟩ := pair_at rs (i := i) (by simpa using e)
    exact ⟨q, List.mem_cons_of_mem _ m, h⟩
theorem cr_minD (O : Opx X) : CallR X (.builtin "min") (rBestD X.K PySem.W.minD) := by
  intro pins s σ H vs us Q I r h
  have hu := O.un
  obtain ⟨a, p, ps, rfl, hl, hd, hal, hdep, q⟩ := h
  obtain ⟨z, its, rv, lv, pl⟩ := rdL I hl
  rw [Vals.ref1 r]
  obtain ⟨as, ra⟩ := reads_all I rv hd
  refine PySem.W.min_list_data (x := p.2) (xs := ps.map (fun q : V × PyData => q.2)) (I.ok.hd O.calm) pl (by simpa using ra) (by simpa using hal) (by rw [List.map_cons] at hdep; omega) fun i v h' tk bs hi hr hk => ?_
  obtain ⟨w, mw, rw'⟩ := pair_at rv (i := i) (v := v) (by simpa using hi)
  have I' : Inv X pins σ H { s with heap := h', toks := tk } := I.kept hk
  obtain ⟨cs, rd⟩ := Dp.reads I' _ _ _ (hd w mw) rw'
  exact ⟨w.1, H, I', rw', q w mw (Reads.unique rd _ _ hr).1⟩
theorem cr_maxD (O : Opx X) : CallR X (.builtin "max") (rBestD X.K PySem.W.maxD) := by
  intro pins s σ H vs us Q I r h
  have hu := O.un
  obtain ⟨a, p, ps, rfl, hl, hd, hal, hdep, q⟩ := h
  obtain ⟨z, its, rv, lv, pl⟩ := rdL I hl
  rw [Vals.ref1 r]
  obtain ⟨as, ra⟩ := reads_all I rv hd
  refine PySem.W.max_list_data (x := p.2) (xs := ps.map (fun q : V × PyData => q.2)) (I.ok.hd O.calm) pl (by simpa using ra) (by simpa using hal) (by rw [List.map_cons] at hdep; omega) fun i v h' tk bs hi hr hk => ?_
  obtain ⟨w, mw, rw'⟩ := pair_at rv (i := i) (v := v) (by simpa using hi)
  have I' : Inv X pins σ H { s with heap := h', toks := tk } := I.kept hk
  obtain ⟨cs, rd⟩ := Dp.reads I' _ _ _ (hd w mw) rw'
  exact ⟨w.1, H, I', rw', q w mw (Reads.unique rd _ _ hr).1⟩

/-- repr of a list, a tuple -/
def rReprD (K : Frg) : List V → Hp → VK → Prop := fun vs H Q => ∃ (a : Addr) (x : PyData), vs = [V.ref a] ∧ Dp K H (.ref a) x ∧ x.showable = true ∧ x.hasDict = false ∧ x.depth ≤ 60 ∧ x.shown.length ≤ sizeLine ∧ Q (.str x.shown) H
theorem cr_reprD (O : Opx X) : CallR X (.builtin "repr") (rReprD X.K) := by
  intro pins s σ H vs us Q I r h
  have hu := O.un
  obtain ⟨a, x, rfl, hd, hs, hn, hdep, hz, q⟩ := h
  rw [Vals.ref1 r]
  obtain ⟨as, rd⟩ := Dp.reads I x (.ref a) (.ref a) hd rfl
  exact repr_of_reads' rd hs (fun z => by rw [hn] at z; cases z) O.gd (by omega) (fun _ _ e => e) (fun h' u tk hk => ⟨.str _, H, I.kept hk, ⟨_, rfl⟩, q⟩) hz
def rReprA (K : Frg) : List V → Hp → VK → Prop := fun vs H Q => ∃ (v : V) (x : PyData), vs = [v] ∧ Rp K H v x ∧ atomR x = true ∧ Q (.str x.shown) H
theorem cr_reprA : CallR X (.builtin "repr") (rReprA X.K) := by
  intro pins s σ H vs us Q I r h
  obtain ⟨v, x, rfl, hd, hs, q⟩ := h
  obtain ⟨u, rfl, rx⟩ := vals1 r
  cases x with
  | none =>
    cases hd
    obtain rfl : u = Value.none := rx
    exact PySem.P.repr_of_none ⟨.str _, H, I.tok _, ⟨_, rfl⟩, q⟩
  | bool b =>
    cases hd
    obtain rfl : u = Value.bool b := rx
    exact PySem.P.repr_of_bool ⟨.str _, H, I.tok _, ⟨_, rfl⟩, q⟩
  | int i =>
    cases hd
    obtain ⟨t, rfl⟩ : ∃ t, u = Value.int i t := rx
    exact PySem.P.repr_of_int (of_decide_eq_true hs) ⟨.str _, H, I.tok _, ⟨_, rfl⟩, q⟩
  | _ => cases hs
theorem call_lenR : CallR X (.builtin "len") (fun xs H Q => ∃ a kvs, xs = [V.ref a] ∧ Rd H a (.dK kvs) ∧ Q (.int kvs.length) H) := by
  intro pins s σ H xs us Q I r h
  obtain ⟨a, kvs, rfl, ha, q⟩ := h
  rw [Vals.ref1 r]
  exact d_len I ha fun t s' I' => ⟨.int _, H, I', ⟨_, rfl⟩, q⟩
end

/-! ### which built-in name a built-in function bears -/
def biN : Bi → Option (String × Bool)
  | .len => some ("len", true)
  | .abs => some ("abs", true)
  | .int => some ("int", false)
  | .max2 => some ("max", true)
  | .min2 => some ("min", true)
  | .divmod => some ("divmod", true)
  | .list => some ("list", false)
  | .tuple => some ("tuple", false)
  | .sorted => some ("sorted", true)
  | .sum => some ("sum", true)
  | .all => some ("all", true)
  | .any => some ("any", true)
  | .min1 => some ("min", true)
  | .max1 => some ("max", true)
  | .repr => some ("repr", true)
  | _ => none
def biVal (p : String × Bool) : Value := if p.2 then .builtin p.1 else .type p.1

/-- a call of a built-in, by its values -/
def BiOk (X : Cx) (f : Value) (ts : List AV) (t : AV) : Prop :=
  ∃ r, CallR X f r ∧ ∀ {σ : L2.St} {F fps H F2 fps2 H2 fp} {env : SEnv} {os : List Opd} {vs : List V} {us : List (V × AV)}, RVs X.K σ env os F fps H vs F2 fps2 H2 fp → ts = us.map (·.2) → (∀ u ∈ us, ∃ fq, TR X.K F2 H2 u.1 u.2 fq) →
    ∀ Q : VK, (∀ z F3 H3 fq, RVs X.K σ env [.val t] F fps H [z] F3 fps2 H3 fq → Q z H3) → r (us.map (·.1)) H2 Q

section
variable {X : Cx}
theorem one_of {P : V × AV → Prop} {us : List (V × AV)} {t : AV} (e : [t] = us.map (·.2)) (h : ∀ u ∈ us, P u) : ∃ v, us = [(v, t)] ∧ P (v, t) := by
  match us, e with
  | [(v, u)], e =>
    have : t = u := by simpa using e
    subst this
    exact ⟨v, rfl, h _ List.mem_cons_self⟩
theorem two_of {P : V × AV → Prop} {us : List (V × AV)} {t t' : AV} (e : [t, t'] = us.map (·.2)) (h : ∀ u ∈ us, P u) : ∃ v w, us = [(v, t), (w, t')] ∧ P (v, t) ∧ P (w, t') := by
  match us, e with
  | [(v, u), (w, u')], e =>
    have : t = u ∧ t' = u' := by simpa using e
    obtain ⟨rfl, rfl⟩ := this
    exact ⟨v, w, rfl, h _ List.mem_cons_self, h _ (List.mem_cons_of_mem _ List.mem_cons_self)⟩

theorem sort_pairs (ps : List (V × PyData)) : (ps.mergeSort (PySem.W.dataLe false (·.2))).map (·.2) = (ps.map (·.2)).mergeSort (PySem.W.dataLe false id) :=
  PySem.W.sort_maps (fun p : V × PyData => p.2) fun _ _ _ _ => rfl

theorem sortable_of {xs : List PyData} (h : (xs.all neTup || xs.all plainS) = true) : PySem.W.Sortable xs := by
  rcases Bool.or_eq_true _ _ ▸ h with h | h
  · refine .inl fun d m => ?_
    have := List.all_eq_true.mp h d m
    unfold neTup at this
    split at this
    · exact ⟨_, _, rfl⟩
    · cases this
  · refine .inr fun d m => ?_
    have := List.all_eq_true.mp h d m
    unfold plainS at this
    split at this
    · cases this
    · cases this
    · rename_i h1 h2
      exact ⟨fun e => h1 e, fun xs e => h2 xs e⟩
theorem alikeAll_of {xs : List PyData} (h1 : alikes xs = true) (h2 : noNones xs = true) : PySem.W.AlikeAll xs := by
  refine ⟨alikes_iff h1, fun x m e => ?_⟩
  subst e
  have := List.all_eq_true.mp h2 _ m
  cases this

theorem bi_ok (O : Opx X) {b : Bi} {ts : List AV} {t : AV} {p : String × Bool} (hb : biN b = some p) (e : biV b ts = some t) : BiOk X (biVal p) ts t := by
  have hc := O.calm
  have hu := O.un
  unfold biV at e
  split at e <;> (try (simp only [biN, reduceCtorEq] at hb)) <;> (try (have hp := Option.some.inj hb; subst hp; clear hb))
  -- len
  · rename_i t
    split at e
    · cases e
      refine ⟨_, call_len_seq, fun R eu h Q q => ?_⟩
      obtain ⟨v, rfl, fq, ha⟩ := one_of eu h
      obtain ⟨a, ws, rfl, h1, h2⟩ := ha.rp.lst_inv
      refine ⟨a, ws, rfl, .inl (sqL_mono R.sk.sub h1), ?_⟩
      rw [h2.length]
      exact q _ _ _ _ (R.dat (.int _))
    · cases e
      refine ⟨_, call_len_seq, fun R eu h Q q => ?_⟩
      obtain ⟨v, rfl, fq, ha⟩ := one_of eu h
      obtain ⟨a, ws, rfl, h1, h2⟩ := ha.rp.tup_inv
      refine ⟨a, ws, rfl, .inr (sqT_mono R.sk.sub h1), ?_⟩
      rw [h2.length]
      exact q _ _ _ _ (R.dat (.int _))
    · cases e
      refine ⟨_, call_len_seq, fun R eu h Q q => ?_⟩
      obtain ⟨v, rfl, fq, ha⟩ := one_of eu h
      cases ha with
      | own h1 hs =>
        refine ⟨_, _, rfl, .inl (.of h1), ?_⟩
        rw [hs.length]
        exact q _ _ _ _ (R.dat (.int _))
    · cases e
      refine ⟨_, call_len_seq, fun R eu h Q q => ?_⟩
      obtain ⟨v, rfl, fq, ha⟩ := one_of eu h
      cases ha with
      | tup h1 hs =>
        refine ⟨_, _, rfl, .inr (sqT_mono R.sk.sub h1), ?_⟩
        rw [hs.length]
        exact q _ _ _ _ (R.dat (.int _))
    · cases e
      refine ⟨_, call_lenR, fun R eu h Q q => ?_⟩
      obtain ⟨v, rfl, fq, ha⟩ := one_of eu h
      obtain ⟨a, kvs, ds, rfl, h1, h2, rfl⟩ := ha.rp.dct_inv
      refine ⟨a, kvs, rfl, R.sk.sub _ _ h1, ?_⟩
      have hl := h2.length
      rw [List.length_map] at hl
      have e2 : ((kvs.map fun kv => keyD kv.1).zip ds).length = kvs.length := by
        rw [List.length_zip, List.length_map]
        omega
      rw [e2] at q
      exact q _ _ _ _ (R.dat (.int _))
    · cases e
      refine ⟨_, call_lenR, fun R eu h Q q => ?_⟩
      obtain ⟨v, rfl, fq, ha⟩ := one_of eu h
      cases ha with
      | odk h1 hk hs =>
        refine ⟨_, _, rfl, .inl h1, ?_⟩
        rw [← hk, List.length_map] at q
        exact q _ _ _ _ (R.dat (.int _))
    · split at e
      · rename_i hf
        cases e
        refine ⟨_, call_len_str, fun R eu h Q q => ?_⟩
        obtain ⟨v, rfl, fq, ha⟩ := one_of eu h
        exact ⟨_, congrArg (fun z => [z]) ha.str, fitL_le hf, q _ _ _ _ (R.dat (.int _))⟩
      · cases e
    · cases e
  -- abs
  · cases e
    refine ⟨_, call_abs, fun R eu h Q q => ?_⟩
    obtain ⟨v, rfl, fq, ha⟩ := one_of eu h
    exact ⟨_, congrArg (fun z => [z]) ha.int, q _ _ _ _ (R.dat (.int _))⟩
  -- int
  · cases e
    refine ⟨_, call_int1, fun R eu h Q q => ?_⟩
    obtain ⟨v, rfl, fq, ha⟩ := one_of eu h
    exact .inl ⟨_, congrArg (fun z => [z]) ha.int, q _ _ _ _ (R.dat (.int _))⟩
  · cases e
    refine ⟨_, call_int1, fun R eu h Q q => ?_⟩
    obtain ⟨v, rfl, fq, ha⟩ := one_of eu h
    exact .inr ⟨_, congrArg (fun z => [z]) ha.bl, q _ _ _ _ (R.dat (.int _))⟩
  -- max, min of two
  · cases e
    refine ⟨_, call_max2 hc, fun R eu h Q q => ?_⟩
    obtain ⟨v, w, rfl, ⟨_, ha⟩, _, hb⟩ := two_of eu h
    exact ⟨_, _, by show [v, w] = _; rw [show v = V.int _ from ha.int, show w = V.int _ from hb.int], q _ _ _ _ (R.dat (.int _))⟩
  · cases e
    refine ⟨_, call_min2 hc, fun R eu h Q q => ?_⟩
    obtain ⟨v, w, rfl, ⟨_, ha⟩, _, hb⟩ := two_of eu h
    exact ⟨_, _, by show [v, w] = _; rw [show v = V.int _ from ha.int, show w = V.int _ from hb.int], q _ _ _ _ (R.dat (.int _))⟩
  -- divmod
  · split at e
    · rename_i hd
      cases e
      have hd' := of_decide_eq_true hd
      refine ⟨_, call_divmod, fun R eu h Q q => ?_⟩
      obtain ⟨v, w, rfl, ⟨_, ha⟩, _, hb⟩ := two_of eu h
      exact ⟨_, _, by show [v, w] = _; rw [show v = V.int _ from ha.int, show w = V.int _ from hb.int], (show CDiv _ _ from hd'), fun p hp => q _ _ _ _ (R.newTd hp (.cons (.int _) (.cons (.int _) .nil)))⟩
    · cases e
  -- list
  · split at e
    · cases e
      refine ⟨_, call_listD hc, fun R eu h Q q => ?_⟩
      obtain ⟨v, rfl, fq, ha⟩ := one_of eu h
      obtain ⟨a, kvs, ds, rfl, h1, h2, rfl⟩ := ha.rp.dct_inv
      refine ⟨a, kvs, rfl, R.sk.sub _ _ h1, fun p hp => q _ _ _ _ (R.newL hp ?_)⟩
      have hl := h2.length
      rw [List.length_map] at hl
      have e2 : (((kvs.map fun kv => keyD kv.1).zip ds).map (·.1)) = (kvs.map (·.1)).map keyD := by
        rw [List.map_fst_zip (by rw [List.length_map]; omega), List.map_map]
        rfl
      rw [e2, show (kvs.map fun kv => kV kv.1) = (kvs.map (·.1)).map kV by rw [List.map_map]; rfl]
      exact RpL.keys _
    · cases e
      refine ⟨_, call_listD hc, fun R eu h Q q => ?_⟩
      obtain ⟨v, rfl, fq, ha⟩ := one_of eu h
      cases ha with
      | odk h1 hk hs =>
        refine ⟨_, _, rfl, .inl h1, fun p hp => q _ _ _ _ (R.newL hp ?_)⟩
        rw [← hk, show (∀ kvs : List (Key × V), (kvs.map fun kv => kV kv.1) = (kvs.map (·.1)).map kV) from fun kvs => by rw [List.map_map]; rfl]
        exact RpL.keys _
    · obtain ⟨xs, hx, rfl⟩ := Option.map_eq_some_iff.mp e
      refine ⟨_, call_list_of, fun R eu h Q q => ?_⟩
      obtain ⟨v, rfl, fq, ha⟩ := one_of eu h
      obtain ⟨a, ws, rfl, h1, h2⟩ := ha.seq R.sk.sub hx
      exact ⟨a, ws, rfl, h1, fun p hp => q _ _ _ _ (R.newL hp h2)⟩
  -- tuple
  · obtain ⟨xs, hx, rfl⟩ := Option.map_eq_some_iff.mp e
    refine ⟨_, call_tuple_of, fun R eu h Q q => ?_⟩
    obtain ⟨v, rfl, fq, ha⟩ := one_of eu h
    rcases AV.seq_cases hx with hx | hx
    · obtain ⟨a, ws, rfl, h1, h2⟩ := ha.lst R.sk.sub hx
      exact ⟨a, ws, rfl, .inl ⟨h1, fun p hp => q _ _ _ _ (R.newTd hp h2)⟩⟩
    · obtain ⟨a, ws, rfl, h1, h2⟩ := ha.tupl R.sk.sub hx
      exact ⟨a, ws, rfl, .inr ⟨sqT_mono R.sk.sub h1, q _ _ _ _ (R.dat (.tup h1 h2))⟩⟩
  -- sorted
  · obtain ⟨ys, hy, rfl⟩ := Option.map_eq_some_iff.mp e
    obtain ⟨xs, hx, hs⟩ := Option.bind_eq_some_iff.mp hy
    unfold sortV at hs
    split at hs
    · rename_i hf
      cases hs
      simp only [Bool.and_eq_true] at hf
      obtain ⟨⟨⟨⟨f1, f2⟩, f3⟩, f4⟩, f5⟩ := hf
      refine ⟨_, cr_sortD O, fun R eu h Q q => ?_⟩
      obtain ⟨v, rfl, fq, ha⟩ := one_of eu h
      obtain ⟨a, ws, rfl, h1, h2⟩ := ha.lst R.sk.sub hx
      obtain ⟨ps, rfl, rfl, h3⟩ := h2.toPairs
      refine ⟨a, ps, rfl, h1, fun p m => ((h3 p m).mono R.sk.sub).dp (canAll_mem f3 _ (List.mem_map_of_mem m)), fun d m d' m' => alikes_iff f1 d m d' m', sortable_of f2, fun p m => ?_, fun p hp => q _ _ _ _ (R.newL hp ?_)⟩
      · exact Nat.le_trans (depth_mem _ (List.mem_map_of_mem m)) (of_decide_eq_true f5)
      · rw [← sort_pairs]
        exact RpL.ofPairs fun p m => h3 p ((List.mergeSort_perm _ _).mem_iff.mp m)
    · cases hs
  -- sum
  · obtain ⟨ns, hn, rfl⟩ := Option.map_eq_some_iff.mp e
    obtain ⟨xs, hx, hs⟩ := Option.bind_eq_some_iff.mp hn
    have := allInts_map hs
    subst this
    refine ⟨_, cr_sum hc, fun R eu h Q q => ?_⟩
    obtain ⟨v, rfl, fq, ha⟩ := one_of eu h
    obtain ⟨a, ws, rfl, h1, h2⟩ := ha.lst R.sk.sub hx
    rw [h2.ints] at h1
    exact ⟨a, ns, rfl, h1, q _ _ _ _ (R.dat (.int _))⟩
  -- all, any
  · obtain ⟨ns, hn, rfl⟩ := Option.map_eq_some_iff.mp e
    obtain ⟨xs, hx, hs⟩ := Option.bind_eq_some_iff.mp hn
    have := allBools_map hs
    subst this
    refine ⟨_, cr_all hc, fun R eu h Q q => ?_⟩
    obtain ⟨v, rfl, fq, ha⟩ := one_of eu h
    obtain ⟨a, ws, rfl, h1, h2⟩ := ha.lst R.sk.sub hx
    rw [h2.bools] at h1
    exact ⟨a, ns, rfl, h1, q _ _ _ _ (R.dat (.bl _))⟩
  · obtain ⟨ns, hn, rfl⟩ := Option.map_eq_some_iff.mp e
    obtain ⟨xs, hx, hs⟩ := Option.bind_eq_some_iff.mp hn
    have := allBools_map hs
    subst this
    refine ⟨_, cr_any hc, fun R eu h Q q => ?_⟩
    obtain ⟨v, rfl, fq, ha⟩ := one_of eu h
    obtain ⟨a, ws, rfl, h1, h2⟩ := ha.lst R.sk.sub hx
    rw [h2.bools] at h1
    exact ⟨a, ns, rfl, h1, q _ _ _ _ (R.dat (.bl _))⟩
  -- min, max of a list
  · obtain ⟨y, hy, rfl⟩ := Option.map_eq_some_iff.mp e
    obtain ⟨xs, hx, hs⟩ := Option.bind_eq_some_iff.mp hy
    unfold minV at hs
    split at hs
    · cases hs
    · rename_i x0 xs0
      split at hs
      · rename_i hf
        cases hs
        simp only [Bool.and_eq_true] at hf
        obtain ⟨⟨⟨f1, f2⟩, f3⟩, f4⟩ := hf
        refine ⟨_, cr_minD O, fun R eu h Q q => ?_⟩
        obtain ⟨v, rfl, fq, ha⟩ := one_of eu h
        obtain ⟨a, ws, rfl, h1, h2⟩ := ha.lst R.sk.sub hx
        obtain ⟨ps, rfl, e2, h3⟩ := h2.toPairs
        cases ps with
        | nil => cases e2
        | cons p ps =>
          rw [List.map_cons] at e2
          injection e2 with e3 e4
          subst e3 e4
          refine ⟨a, p, ps, rfl, h1, fun p m => ((h3 p m).mono R.sk.sub).dp (canAll_mem f3 _ ?_), alikeAll_of f1 f2, of_decide_eq_true f4, fun u m eu => ?_⟩
          · exact List.mem_map_of_mem (f := (·.2)) m
          · have := h3 u m
            rw [eu] at this
            exact q _ _ _ _ (R.dat this)
      · cases hs
  · obtain ⟨y, hy, rfl⟩ := Option.map_eq_some_iff.mp e
    obtain ⟨xs, hx, hs⟩ := Option.bind_eq_some_iff.mp hy
    unfold maxV at hs
    split at hs
    · cases hs
    · rename_i x0 xs0
      split at hs
      · rename_i hf
        cases hs
        simp only [Bool.and_eq_true] at hf
        obtain ⟨⟨⟨f1, f2⟩, f3⟩, f4⟩ := hf
        refine ⟨_, cr_maxD O, fun R eu h Q q => ?_⟩
        obtain ⟨v, rfl, fq, ha⟩ := one_of eu h
        obtain ⟨a, ws, rfl, h1, h2⟩ := ha.lst R.sk.sub hx
        obtain ⟨ps, rfl, e2, h3⟩ := h2.toPairs
        cases ps with
        | nil => cases e2
        | cons p ps =>
          rw [List.map_cons] at e2
          injection e2 with e3 e4
          subst e3 e4
          refine ⟨a, p, ps, rfl, h1, fun p m => ((h3 p m).mono R.sk.sub).dp (canAll_mem f3 _ ?_), alikeAll_of f1 f2, of_decide_eq_true f4, fun u m eu => ?_⟩
          · exact List.mem_map_of_mem (f := (·.2)) m
          · have := h3 u m
            rw [eu] at this
            exact q _ _ _ _ (R.dat this)
      · cases hs
  -- repr
  · obtain ⟨y, hy, rfl⟩ := Option.map_eq_some_iff.mp e
    unfold reprV at hy
    split at hy
    · rename_i hf
      cases hy
      unfold okRepr at hf
      simp only [Bool.and_eq_true] at hf
      obtain ⟨⟨⟨⟨⟨f1, f2⟩, f3⟩, f4⟩, f5⟩, f6⟩ := hf
      refine ⟨_, cr_reprD O, fun R eu h Q q => ?_⟩
      obtain ⟨v, rfl, fq, ha⟩ := one_of eu h
      have g := ha.datH R.sk.sub
      have hr : ∃ a, v = .ref a := by
        generalize AV.dat _ = y at g f1
        cases g <;> first | exact ⟨_, rfl⟩ | simp [isSeqD] at f1
      obtain ⟨a, rfl⟩ := hr
      exact ⟨a, _, rfl, g.dp f2, f3, by simpa using f4, of_decide_eq_true f5, fitL_le f6, q _ _ _ _ (R.dat (.str _))⟩
    · split at hy
      · rename_i hf
        cases hy
        refine ⟨_, cr_reprA, fun R eu h Q q => ?_⟩
        obtain ⟨v, rfl, fq, ha⟩ := one_of eu h
        exact ⟨v, _, rfl, ha.datH R.sk.sub, hf, q _ _ _ _ (R.dat (.str _))⟩
      · cases hy
  · cases e
end
end Mi
/-! set(xs) of a list of ints, whose table rises (the road of set(t), turned to lists). -/
namespace Mi
open PySem PySem.Spec PyProof PyProof.Rows L2

section
variable {P : Program} {w : World} {A : Around} {E : Value → Shared → Prop} {s : Shared}
theorem call_set_lstI {l : Addr} {items : Array Value} (ns : List Int) {Q : Value → Shared → Prop} (hh : A.handled = none) (hl : s.heap.IsList l items) (hit : IntsAre items.toList ns) (hb : ns.length + 1 < scanBound)
    (h : ∀ (h' : Heap) (tk c : Nat), SetR w h' s.heap.objs.size (fun j => decide (j ∈ ns)) c → c ≤ ns.length → (∀ b o, s.heap.get? b = some o → h'.get? b = some o) → Q (.ref s.heap.objs.size) { s with heap := h', toks := tk }) :
    wpAny (model P w) A (call (.type "set") [.ref l]) Q E s := by
  have hisz : items.size = ns.length := by
    have q := IntsAre.length hit
    rw [Array.length_toList] at q
    exact q
  obtain ⟨c, tl, hmro⟩ := F.called_set.mro
  have hmade := F.called_set.made
  have hsub := F.called_set.sub
  refine wpAny_call (codeAny_of_tree ?_)
  show wpAny _ _ (callAny (.type "set") _) _ _ _
  refine wpAny_pure ⟨Code.quiet_builtin _ (by decide +kernel), codeAny_builtin F.entry_type_call ?_⟩
  rw [Around.under_plain (weight_type_call_type "set" [.ref l] []) rfl]
  have h1 := F.called_set.notType
  have h2 := F.called_set.canCreate
  have hct := F.typeCall_set_1 (.ref l)
  repeat (any_goals (first | assumption | wp_step))

  refine codeAny_mono (code_set_led1 (.ref l) (E := E) (Q₁ := fun obj s₁ => obj = .ref s.heap.objs.size ∧ s₁ = { s with heap := s.heap.push { cls := .type "set", dict := none, data := .set #[] 0 (.fresh 0 0 (!w.params.followText "set-order")) } }) ⟨rfl, rfl⟩) fun r s₁ hr => ?_
  cases r with
  | error e => exact hr
  | ok fl =>
    cases fl with
    | ret obj =>
      obtain ⟨rfl, rfl⟩ := hr
      have hS : (s.heap.push { cls := .type "set", dict := none, data := .set #[] 0 (.fresh 0 0 (!w.params.followText "set-order")) }).get? s.heap.objs.size = some { cls := .type "set", dict := none, data := .set #[] 0 (.fresh 0 0 (!w.params.followText "set-order")) } := Heap.get?_push_size _ rfl
      have hT : Shared.TypeIs { s with heap := s.heap.push { cls := .type "set", dict := none, data := .set #[] 0 (.fresh 0 0 (!w.params.followText "set-order")) } } (.ref s.heap.objs.size) "set" := ⟨_, hS, rfl⟩
      have hli := F.called_set.init.lookup
      have hbi := F.called_set.init.bind (.ref s.heap.objs.size)
      repeat (any_goals (first | assumption | wp_step))

      refine codeAny_mono (codeAny_call_builtin (R := wants (fun r s₂ => r = .none ∧ ∃ h' tk c, s₂ = { s with heap := h', toks := tk } ∧ SetR w h' s.heap.objs.size (fun j => decide (j ∈ ns)) c ∧ c ≤ ns.length ∧
          (∀ b o, s.heap.get? b = some o → h'.get? b = some o)) E) F.called_set.init.plain F.entry_set_init (check_set_init_1 hT ?_)) fun r₂ s₂ hr₂ => ?_
      · obtain ⟨ol, hol, hcl, nl, hdl⟩ := hl
        obtain ⟨ocls, odict, odata, oslots⟩ := ol
        simp only at hcl hdl
        subst hcl; subst hdl
        have hol' : (s.heap.push { cls := .type "set", dict := none, data := .set #[] 0 (.fresh 0 0 (!w.params.followText "set-order")) }).get? l = some { cls := .type "list", dict := odict, data := .seq items nl, slots := oslots } := Heap.get?_push_of_some _ hol
        have hsls := F.sub_list_set
        have hslf := F.sub_list_frozenset
        have hne : (Value.type "list" == Value.type "dict") = false := by decide
        have hl1 : (s.heap.push { cls := .type "set", dict := none, data := .set #[] 0 (.fresh 0 0 (!w.params.followText "set-order")) }).IsList l items := ⟨_, hol', rfl, nl, rfl⟩
        unfold Builtin.«set.__init__» noKeywords Builtin.Frozenset.updateFrom
        generalize hPI : pyIter = PI
        wp_walk
        subst hPI

        refine wpAny_pyIter_list hl1 ?_
        refine wpAny_bind (wpAny_runValue ?_)
        have hlS : l < s.heap.objs.size := Heap.lt_size hol
        have hh3 : A.in1.in1.in1.handled = none := by simp [hh]
        have hz1 : (s.heap.push { cls := .type "set", dict := none, data := .set #[] 0 (.fresh 0 0 (!w.params.followText "set-order")) }).objs.size = s.heap.objs.size + 1 := Heap.size_push ..
        have hneI : l ≠ (s.heap.push { cls := .type "set", dict := none, data := .set #[] 0 (.fresh 0 0 (!w.params.followText "set-order")) }).objs.size := by
          rw [Heap.size_push]; exact Nat.ne_of_lt (Nat.lt_succ_of_lt hlS)
        have hSf : s.heap.objs.size ∉ [(s.heap.push { cls := .type "set", dict := none, data := .set #[] 0 (.fresh 0 0 (!w.params.followText "set-order")) }).objs.size, l] := by
          rw [Heap.size_push]; simp only [List.mem_cons, List.mem_singleton, List.not_mem_nil, or_false, not_or]
          exact ⟨Nat.ne_of_lt (Nat.lt_succ_self _), Nat.ne_of_gt hlS⟩
        have hval : ∀ (i : Nat) (v : Value), items[i]? = some v → ∃ k t, ns[i]? = some k ∧ v = .int k t := fun i v hv => by
          have hi : i < ns.length := by rw [← hisz]; exact (Array.getElem?_eq_some_iff.mp hv).1
          obtain ⟨t, e⟩ := PyProof.Rows.IntsAre.int_at hit i v (by rw [Array.getElem?_toList]; exact hv)
          refine ⟨ns[i], t, List.getElem?_eq_getElem hi, ?_⟩
          rw [e, List.getD_eq_getElem?_getD, List.getElem?_eq_getElem hi] <;> rfl
        refine set_update_ints ((Walks.list hh3 _ l hneI items).toS) s.heap.objs.size
          hSf ns hisz hb hval (items.size - 0) 0 _ (by omega) (Nat.zero_le _)
          ⟨⟨_, Heap.get?_push_size _ rfl, rfl, rfl⟩, (hl1.push _)⟩ ?hS0 ?hR
        case hS0 =>
          have hget : ((s.heap.push { cls := .type "set", dict := none, data := .set #[] 0 (.fresh 0 0 (!w.params.followText "set-order")) }).push { cls := .type "list_iterator", data := .fields #[.ref l, .int 0 0] }).get? s.heap.objs.size
              = some { cls := .type "set", dict := none, data := .set #[] 0 (.fresh 0 0 (!w.params.followText "set-order")) } := Heap.get?_push_of_some _ hS
          exact ⟨0, Nat.le_refl 0, setR_new_at hget⟩
        case hR =>
          intro s' c' hm hc' hS'
          obtain ⟨h', g2, d', tk', os'⟩ := s'
          have eg : g2 = s.gens := hm.gens
          have ed : d' = s.drawn := hm.drawn
          have eo : os' = s.os := hm.os
          subst eg; subst ed; subst eo
          show wpAny _ _ _ _ _ _
          refine wpAny_pure ?_
          show wpAny _ _ (ret Value.none) _ _ _
          rw [hisz] at hc'
          refine wpAny_pure ⟨rfl, h', tk', c', rfl, hS', hc', fun b o e => ?_⟩
          have hb0 : b < s.heap.objs.size := Heap.lt_size e
          have hb1 : b ≠ s.heap.objs.size := Nat.ne_of_lt hb0
          have hb2 : b ≠ (s.heap.push { cls := .type "set", dict := none, data := .set #[] 0 (.fresh 0 0 (!w.params.followText "set-order")) }).objs.size := by
            rw [Heap.size_push]; exact Nat.ne_of_lt (Nat.lt_succ_of_lt hb0)
          exact hm.heap b o (by simp only [List.mem_cons, List.mem_singleton, List.not_mem_nil, or_false, not_or]; exact ⟨hb1, hb2⟩) (Heap.get?_push_of_some _ (Heap.get?_push_of_some _ e))

      · cases r₂ with
        | error e => exact hr₂
        | ok fl₂ =>
          cases fl₂ with
          | ret r =>
            obtain ⟨rfl, h', tk, c', rfl, hS', hc', hk'⟩ := hr₂
            repeat (any_goals (first | assumption | wp_step))
            exact h _ _ _ hS' hc' hk'
          | _ => exact hr₂.elim
    | _ => exact hr.elim

end
end Mi
/-! sorted(set(..)). -/
namespace Mi
open PySem L2 PyProof.Rows

theorem mem_insU (x k : Int) : ∀ l : List Int, k ∈ insU x l ↔ k = x ∨ k ∈ l
  | [] => by simp [insU]
  | y :: ys => by
    unfold insU
    split
    · simp
    · split
      · rename_i e
        subst e
        simp
      · rw [List.mem_cons, mem_insU x k ys, List.mem_cons]
        constructor
        · rintro (h | h | h) <;> simp [h]
        · rintro (h | h | h) <;> simp [h]
theorem mem_setL (k : Int) : ∀ l : List Int, k ∈ setL l ↔ k ∈ l
  | [] => by simp [setL]
  | x :: xs => by
    unfold setL
    rw [mem_insU, mem_setL k xs, List.mem_cons]
theorem insU_up (x : Int) : ∀ l : List Int, l.Pairwise (· < ·) → (insU x l).Pairwise (· < ·)
  | [], _ => List.pairwise_singleton _ _
  | y :: ys, h => by
    obtain ⟨h1, h2⟩ := List.pairwise_cons.mp h
    unfold insU
    split
    · rename_i hx
      refine List.pairwise_cons.mpr ⟨fun z m => ?_, h⟩
      rcases List.mem_cons.mp m with rfl | m
      · exact hx
      · exact Int.lt_trans hx (h1 z m)
    · split
      · exact h
      · refine List.pairwise_cons.mpr ⟨fun z m => ?_, insU_up x ys h2⟩
        rcases (mem_insU x z ys).mp m with rfl | m
        · omega
        · exact h1 z m
theorem setL_up : ∀ l : List Int, (setL l).Pairwise (· < ·)
  | [] => List.Pairwise.nil
  | x :: xs => insU_up x _ (setL_up xs)
theorem up_unique : ∀ {a b : List Int}, a.Pairwise (· < ·) → b.Pairwise (· < ·) → (∀ k, k ∈ a ↔ k ∈ b) → a = b
  | [], [], _, _, _ => rfl
  | [], y :: ys, _, _, h => absurd ((h y).mpr List.mem_cons_self) (by simp)
  | x :: xs, [], _, _, h => absurd ((h x).mp List.mem_cons_self) (by simp)
  | x :: xs, y :: ys, ha, hb, h => by
    obtain ⟨a1, a2⟩ := List.pairwise_cons.mp ha
    obtain ⟨b1, b2⟩ := List.pairwise_cons.mp hb
    have e : x = y := by
      rcases List.mem_cons.mp ((h x).mp List.mem_cons_self) with e | m
      · exact e
      · rcases List.mem_cons.mp ((h y).mpr List.mem_cons_self) with e | m'
        · exact e.symm
        · have := b1 x m
          have := a1 y m'
          omega
    subst e
    rw [up_unique a2 b2 fun k => ?_]
    have hk := h k
    rw [List.mem_cons, List.mem_cons] at hk
    constructor
    · intro m
      rcases hk.mp (.inr m) with e | m'
      · subst e
        exact absurd (a1 k m) (Int.lt_irrefl k)
      · exact m'
    · intro m
      rcases hk.mpr (.inr m) with e | m'
      · subst e
        exact absurd (b1 k m) (Int.lt_irrefl k)
      · exact m'
theorem up_setL {ns a : List Int} (h : a.Pairwise (· < ·)) (m : ∀ k, k ∈ a ↔ k ∈ ns) : a = setL ns := up_unique h (setL_up ns) fun k => (m k).trans (mem_setL k ns).symm

section
variable {X : Cx}
def rSetT (w : World) (K : Frg) : List V → Hp → VK → Prop := fun vs H Q => ∃ (a : Addr) (ns : List Int), vs = [V.ref a] ∧ SqT K H a (ns.map V.int) ∧ ns.length ≤ 60 ∧
  ∀ p c, H p = none → c ≤ ns.length → Q (.ref p) (upd H p (SetO w p (fun j => decide (j ∈ ns)) c))
theorem cr_setT (O : Opx X) : CallR X (.type "set") (rSetT X.w X.K) := by
  intro pins s σ H vs us Q I r h
  obtain ⟨a, ns, rfl, ht, hz, q⟩ := h
  obtain ⟨its, rv, pl, _⟩ := I.tuple ht
  rw [Vals.ref1 r]
  refine call_set_tupI ns (I.ok.hd O.calm) (show s.heap.IsTuple a its.toArray from pl) (by simpa using rv.ints) (by unfold scanBound; omega) fun h' tk c hS hc hk => ?_
  exact ⟨.ref _, _, I.laid (a := s.heap.objs.size) (o := SetO X.w s.heap.objs.size (fun j => decide (j ∈ ns)) c) (t' := tk) hk (Nat.le_refl _) (setO_new hS), rfl, q _ _ (I.hok.fresh (Nat.le_refl _)) hc⟩
def rSetLs (w : World) (K : Frg) : List V → Hp → VK → Prop := fun vs H Q => ∃ (a : Addr) (ns : List Int), vs = [V.ref a] ∧ SqL K H a (ns.map V.int) ∧ ns.length ≤ 60 ∧
  ∀ p c, H p = none → c ≤ ns.length → Q (.ref p) (upd H p (SetO w p (fun j => decide (j ∈ ns)) c))
theorem cr_setLs (O : Opx X) : CallR X (.type "set") (rSetLs X.w X.K) := by
  intro pins s σ H vs us Q I r h
  obtain ⟨a, ns, rfl, ht, hz, q⟩ := h
  obtain ⟨its, rv, pl, _⟩ := I.list ht
  rw [Vals.ref1 r]
  refine call_set_lstI ns (I.ok.hd O.calm) pl.isList (by simpa using rv.ints) (by unfold scanBound; omega) fun h' tk c hS hc hk => ?_
  exact ⟨.ref _, _, I.laid (a := s.heap.objs.size) (o := SetO X.w s.heap.objs.size (fun j => decide (j ∈ ns)) c) (t' := tk) hk (Nat.le_refl _) (setO_new hS), rfl, q _ _ (I.hok.fresh (Nat.le_refl _)) hc⟩
theorem TR.lstH {K : Frg} {F H : Hp} {v : V} {t : AV} {fp : List Addr} {xs : List PyData} (s : Ext F H) (h : TR K F H v t fp) (e : t.lst? = some xs) : ∃ a ws, v = .ref a ∧ RpL K F ws xs ∧ SqL K H a ws := by
  cases h with
  | d h =>
    cases h with
    | lst h hs =>
      simp only [AV.lst?, Option.some.injEq] at e
      subst e
      exact ⟨_, _, rfl, hs, sqL_mono s h⟩
    | _ => simp [AV.lst?] at e
  | own h hs =>
    have := leafs_map (show leafs _ = some xs from e)
    subst this
    exact ⟨_, _, rfl, hs.leaf.1, .inl (.inl h)⟩
  | odk _ _ _ => simp [AV.lst?] at e
  | tup _ _ => simp [AV.lst?] at e
theorem seq_two {t : AV} {xs : List PyData} (h : t.seq? = some xs) : t.lst? = some xs ∨ t.tup? = some xs := by
  cases t with
  | d x => cases x <;> first | exact .inl h | exact .inr h | (simp [AV.seq?] at h)
  | own ts => exact .inl h
  | odk _ _ => simp [AV.seq?] at h
  | tup ts => exact .inr h
/-- something new that nobody speaks of -/
theorem RVs.junk {K : Frg} {σ : L2.St} {env : SEnv} {os : List Opd} {F F1 H H1 : Hp} {fps fps1 : Fps} {vs : List V} {fp : List Addr} (a : RVs K σ env os F fps H vs F1 fps1 H1 fp) {p : Addr} {o : HO} (hp : H1 p = none) :
    RVs K σ env [] F fps H [] F1 fps1 (upd H1 p o) [] := by
  refine ⟨a.sk.grow hp, .nil, List.nodup_nil, fun _ m => (nomatch m), a.st.f, fun x u e n => ?_, a.st.n, fun x m => ?_⟩
  · have e1 := a.st.k x u e n
    rw [upd_ne (ne_of_none e1 hp)]
    exact e1
  · rcases m with m | m
    · exact a.st.w x (.inl m)
    · cases m
/-- set of a tuple, then sorted: the two readings -/
theorem sset_ok (O : Opx X) {t u : AV} (e : biV .sset [t] = some u) : ∃ r1 r2, CallR X (.type "set") r1 ∧ CallR X (.builtin "sorted") r2 ∧
    ∀ {σ : L2.St} {F fps H F2 fps2 H2 fp} {env : SEnv} {os : List Opd} {vs : List V} {v : V} {fq : List Addr}, RVs X.K σ env os F fps H vs F2 fps2 H2 fp → TR X.K F2 H2 v t fq →
    ∀ Q : VK, (∀ z F3 H3 fq, RVs X.K σ env [.val u] F fps H [z] F3 fps2 H3 fq → Q z H3) → r1 [v] H2 fun z H3 => r2 [z] H3 Q := by
  simp only [biV] at e
  split at e
  · rename_i ns hn
    split at e
    · rename_i hl
      cases e
      obtain ⟨xs, hx, hs⟩ := Option.bind_eq_some_iff.mp hn
      have := allInts_map hs
      subst this
      rcases seq_two hx with hx | hx
      · refine ⟨_, _, cr_setLs O, cr_sortedSet O.calm, fun R ha Q q => ?_⟩
        obtain ⟨a, ws, rfl, h2, h1⟩ := ha.lstH R.sk.sub hx
        have hl' := of_decide_eq_true hl
        rw [h2.ints] at h1
        refine ⟨a, ns, rfl, h1, hl', fun p c hp hc => ?_⟩
        have R2 := R.junk (o := SetO X.w p (fun j => decide (j ∈ ns)) c) hp
        refine ⟨p, _, c, rfl, upd_same, by omega, fun ms p' up hm hl2 hp' => ?_⟩
        have := up_setL (ns := ns) up fun k => (hm k).trans decide_eq_true_iff
        subst this
        exact q _ _ _ _ (R2.newL hp' (RpL.ofInts _))
      · refine ⟨_, _, cr_setT O, cr_sortedSet O.calm, fun R ha Q q => ?_⟩
        obtain ⟨a, ws, rfl, h1, h2⟩ := ha.tupl R.sk.sub hx
        have hl' := of_decide_eq_true hl
        rw [h2.ints] at h1
        refine ⟨a, ns, rfl, sqT_mono R.sk.sub h1, hl', fun p c hp hc => ?_⟩
        have R2 := R.junk (o := SetO X.w p (fun j => decide (j ∈ ns)) c) hp
        refine ⟨p, _, c, rfl, upd_same, by omega, fun ms p' up hm hl2 hp' => ?_⟩
        have := up_setL (ns := ns) up fun k => (hm k).trans decide_eq_true_iff
        subst this
        exact q _ _ _ _ (R2.newL hp' (RpL.ofInts _))
    · cases e
  · cases e
end
end Mi
/-! Defs: what they promise, how they are called. -/
namespace Mi
open PySem L2 PyProof.Rows

/-- a def keeps its promise wherever no repr is under way -/
structure FnG (P : Program) (w : World) (K : Frg) (mg : Str → Option Value) (base : Heap) (k : Nat) (f : Addr) (fd : FuncData) (ps : List Str) (sp : Sp) : Prop where
  len : ∀ vs H Q, sp vs H Q E0 → vs.length = ps.length
  run : ∀ (A : Around) (ou : List Env) (s : Shared) (H : Hp) (as : Args) (us : List Value) (vs : List V) (Q : VK), A.guards = some [] → Room k A → Env0 P w K mg base A ou s H → BindsTo s fd as (ps.zip us) → Vals vs us → sp vs H Q E0 →
    codeAny (model P w) A (.call (.ref f) as) (CR CX0 ou P w H s Q E0) s
theorem FnG.mono {P : Program} {w : World} {K : Frg} {mg : Str → Option Value} {base : Heap} {j k : Nat} {f : Addr} {fd : FuncData} {ps : List Str} {sp : Sp} (F : FnG P w K mg base j f fd ps sp) (h : j ≤ k) : FnG P w K mg base k f fd ps sp :=
  ⟨F.len, fun A ou s H as us vs Q g r e b v q => F.run A ou s H as us vs Q g (r.mono h) e b v q⟩

/-- a def of the text keeps a promise, by its body -/
theorem fnG_of {P : Program} {w : World} {K : Frg} {mg : Str → Option Value} {base : Heap} {x qual : Str} {st : Stmt} {f : Addr} {fd : FuncData} {N ps : List Str} {k : Nat} {sp : Sp} (F : Fun K x qual st f fd) (S : FnScope N ps (defScope st))
    (len : ∀ vs H Q, sp vs H Q E0 → vs.length = ps.length)
    (body : ∀ (cv : Value) (A : Around) (ou : List Env) (s : Shared) (H : Hp) (vs : List V) (Q : VK), A.guards = some [] → Room k (A.deeper (envOfC qual (defScope st) s.heap.objs.size f cv)) → sp vs H Q E0 →
      ∃ t, PSs (cxOf CX0 P w K mg base N qual (defScope st) f cv A ou s H E0).nox (defBody st) t ∧ t { nx := fun _ H' => Q .non H', rt := Q } (start N vs) H) : FnG P w K mg base (k + 1) f fd ps sp := by
  obtain ⟨oc, od, kv, dc, pm, an, cv, ct, sl, rfl, lk, hcd⟩ := F.ex
  refine ⟨len, fun A ou s H as us vs Q hg hr e0 hb rv hsp => ?_⟩
  have hl : vs.length = ps.length := len _ _ _ hsp
  have kin : K.In s.heap := e0.mod.kin.keeps fun b o e => (e0.bs b o e).1
  have nol : s.heap.NoLimit := e0.mod.nolimit.keeps fun b o e => (e0.bs b o e).1
  have kinds : ∀ y ∈ ps.zip us, (defScope st).names.lookup y.1 = some .local ∨ ((defScope st).names.lookup y.1 = some .cell ∧ ((cellsFrom (s.heap.objs.size + 1) (defScope st).names []).lookup y.1).isSome = true) := fun ⟨n, v⟩ hy =>
    (S.par n (List.of_mem_zip hy).1).elim .inl fun q => .inr ⟨q, PySem.W.cellsFrom_some _ _ _ (.inl q)⟩
  refine codeAny_call_function hr.depth (kin _ _ lk) rfl S.co S.gen rfl (PySem.W.codeRec_of kin hcd) (hb _ _ _ _ ?_)
  refine wpAny_newFunctionEnv_cells S.kind kinds fun env he s1 x1 => ?_
  subst he
  refine ⟨nol.keeps x1.toInCall.keep, codeAny_func ?_⟩
  obtain ⟨t, ht, hq⟩ := body cv A ou s H vs Q hg (hr.deeper _) hsp
  have I0 : Inv (cxOf CX0 P w K mg base N qual (defScope st) f cv A ou s H E0) [] (start N vs) H s1 := inv_start S hr.hd e0 hl rv x1
  refine wpAny_mono (ht.nox.run [] s1 (start N vs) H _ I0 hq) (fun fl s' hs => ?_) fun e s' hs => hs
  have fin : ∀ {τ : L2.St} {H' : Hp} {v : V} {u : Value}, Inv (cxOf CX0 P w K mg base N qual (defScope st) f cv A ou s H E0) [] τ H' s' → RelV v u → Q v H' → CE ou P w H s Q u s' :=
    fun {τ H' v u} J ru q => ⟨v, H', J.os, J.bare, J.base, J.hok, ru, q⟩
  match fl, hs with
  | .ret u, ⟨v, _, H', J, ru, q⟩ => exact fin J ru q
  | .next, ⟨_, H', J, q⟩ => exact fin (v := V.non) (u := Value.none) J rfl q
  | .brk, ⟨_, _, _, q⟩ => exact q.elim
  | .cont, ⟨_, _, _, q⟩ => exact q.elim

section
variable {X : Cx} {k : Nat} {f : Addr} {fd : FuncData} {ps : List Str} {sp : Sp} {x : Str} {p pos : Pos} {e : Expr} {es : List Expr} {kws : List Keyword} {t tk : TA}
/-- the callee runs -/
theorem runG {pins : List (Addr × Obj)} {σ : L2.St} {H : Hp} {s : Shared} {Q : VK} {us ws : List Value} {ks : List Str} {zs : List Value} {vs : List V} (F : FnG X.prog X.w X.K X.mg X.base k f fd ps sp) (hg : X.A.guards = some []) (hr : Room k X.A)
    (hb : bindArgs fd ⟨us, ks.zip ws⟩ = pure (ps.zip zs)) (I : Inv X pins σ H s) (r : Vals vs zs) (h : sp vs H Q E0) : wpAny (model X.prog X.w) X.A (call (.ref f) us (ks.zip ws)) (EP X pins σ Q) X.xe s := by
  refine wpAny_call (codeAny_mono (F.run X.A X.stack s H ⟨us, ks.zip ws⟩ zs vs Q hg hr I.env0 (.of_eq hb) r h) fun r' s' hq => ?_)
  match r', hq with
  | .error e, hq => exact hq.elim
  | .ok (.ret u), hq => exact I.after hq
  | .ok .next, hq => exact hq.elim
  | .ok .brk, hq => exact hq.elim
  | .ok .cont, hq => exact hq.elim
def tCallG (sp : Sp) (t : TA) : TE := fun σ H Q => t σ H fun vs H1 => sp vs H1 Q E0
theorem pe_callG (F : FnG X.prog X.w X.K X.mg X.base k f fd ps sp) (hg : X.A.guards = some []) (hr : Room k X.A) (hgl : Gl X x) (hm : X.mg x = some (.ref f)) (hk : PySem.W.keepIn X.K (.ref f) = true)
    (hb : ∀ us : List Value, us.length = ps.length → bindArgs fd ⟨us, []⟩ = pure (ps.zip us)) (ha : PA X (e :: es) t) (hdb : (x == ("__debug__" : Str)) = false)
    (he : starEach (e :: es) X.env = (false, eval e X.env) :: starEach es X.env) (hpl : (backTo pos (starEach es X.env)).any (·.1) = false) : PE X (.Call (.Name x p) (e :: es) [] pos) (tCallG sp t) := by
  refine ⟨fun pins s σ H Q I h => ?_⟩
  refine wpAny_Call_Name_kw (ld_glob I hgl hm ?_ hdb)
  refine PySem.W.callWith_K (h₀ := X.base) I.ok.mod.kin hk (thn (ha.run pos pins s σ H _ I h) fun us s1 ⟨vs, H1, I1, r, q⟩ => ⟨I1.kIn, ?_⟩) he hpl
  exact runG (ks := []) (ws := []) F hg hr (hb us (by rw [← r.length]; exact F.len _ _ _ q)) I1 r q
theorem pe_callG0 (F : FnG X.prog X.w X.K X.mg X.base k f fd ps sp) (hg : X.A.guards = some []) (hr : Room k X.A) (hgl : Gl X x) (hm : X.mg x = some (.ref f)) (hk : PySem.W.keepIn X.K (.ref f) = true)
    (hb : ∀ us : List Value, us.length = ps.length → bindArgs fd ⟨us, []⟩ = pure (ps.zip us)) (hdb : (x == ("__debug__" : Str)) = false) : PE X (.Call (.Name x p) [] [] pos) (tCallG sp tNil) := by
  refine ⟨fun pins s σ H Q I h => ?_⟩
  refine wpAny_Call_Name_kw (ld_glob I hgl hm ?_ hdb)
  exact PySem.W.callWith_K0 I.kIn hk (runG (ks := []) (ws := []) (us := []) F hg hr (hb [] (F.len [] H Q h)) I .nil h)
/-- all arguments by their names; g puts them in the parameters' order -/
theorem pe_callGK {ks : List Str} {g : ∀ {α : Type}, List α → List α} (F : FnG X.prog X.w X.K X.mg X.base k f fd ps sp) (hg : X.A.guards = some []) (hr : Room k X.A) (hgl : Gl X x) (hm : X.mg x = some (.ref f)) (hk : PySem.W.keepIn X.K (.ref f) = true)
    (hb : ∀ ws : List Value, ws.length = ks.length → bindArgs fd ⟨[], ks.zip ws⟩ = pure (ps.zip (g ws))) (hgV : ∀ (vs : List V) (us : List Value), vs.length = ks.length → Vals vs us → Vals (g vs) (g us)) (hkw : PK X kws tk) (hlen : ∀ σ H Q, tk σ H Q → tk σ H fun vs H1 => vs.length = ks.length ∧ Q vs H1)
    (hall : (backToKw pos (keywordEach kws X.env)).all (·.1.isSome) = true) (hks : (backToKw pos (keywordEach kws X.env)).filterMap (·.1) = ks) (hdb : (x == ("__debug__" : Str)) = false)
    (hpl : ((backTo pos (starEach [] X.env)).any (·.1) || (backToKw pos (keywordEach kws X.env)).any (·.1.isNone)) = false) : PE X (.Call (.Name x p) [] kws pos) (fun σ H Q => tk σ H fun vs H1 => sp (g vs) H1 Q E0) := by
  refine ⟨fun pins s σ H Q I h => ?_⟩
  refine wpAny_Call_Name_kw (ld_glob I hgl hm ?_ hdb)
  refine PySem.W.callWith_KW0 (h₀ := X.base) I.ok.mod.kin hk hall (thn (hkw.run pos pins s σ H _ I (hlen σ H _ h)) fun us s1 ⟨vs, H1, I1, r, hl, q⟩ => ⟨I1.kIn, ?_⟩) hpl
  rw [hks]
  exact runG F hg hr (hb us (by rw [← r.length]; exact hl)) I1 (hgV vs us hl r) q
end
end Mi
/-! Slots taken, put, frozen; a call of a def by its pure meaning. -/
namespace Mi
open PySem L2 PyProof.Rows

def fpsU (fps : Fps) (i : Nat) (l : List Addr) : Fps := fun j => if j = i then l else fps j
theorem fpsU_same {fps : Fps} {i : Nat} {l : List Addr} : fpsU fps i l i = l := if_pos rfl
theorem fpsU_ne {fps : Fps} {i j : Nat} {l : List Addr} (h : j ≠ i) : fpsU fps i l j = fps j := if_neg h
/-- F with the objects at q as they stand in H -/
def frzF (F H : Hp) (q : List Addr) : Hp := fun a => if a ∈ q then H a else F a

theorem getv_some {env : SEnv} {i : Nat} {t : AV} (e : getv env i = some t) : env[i]? = some (some t) := by
  unfold getv at e
  cases q : env[i]? with
  | none => rw [q] at e; simp at e
  | some u =>
    rw [q] at e
    have : u = some t := by simpa using e
    rw [this]

theorem set_none_no {env : SEnv} {i : Nat} {t : AV} (h : (env.set i none)[i]? = some (some t)) : False := by
  by_cases hi : i < env.length
  · rw [List.getElem?_set_self hi] at h
    cases h
  · rw [List.getElem?_eq_none (by simpa using hi)] at h
    cases h
theorem getv_set_none (env : SEnv) (i : Nat) : getv (env.set i none) i = none := by
  cases h : getv (env.set i none) i with
  | none => rfl
  | some t => exact (set_none_no (getv_some h)).elim
theorem getv_ne {env : SEnv} {i j : Nat} (o : Option AV) (h : j ≠ i) : getv (env.set i o) j = getv env j := by
  unfold getv
  rw [List.getElem?_set_ne (Ne.symm h)]

section
variable {K : Frg} {F H : Hp} {fps : Fps} {σ : L2.St} {env : SEnv} {i : Nat} {t : AV}
theorem SK.take (s : SK K F fps σ H env) (e : getv env i = some t) : ∃ v, σ[i]? = some (some v) ∧ TR K F H v t (fps i) ∧ SK K F (fpsU fps i []) σ H (env.set i none) ∧ (fps i).Nodup ∧ (∀ a ∈ fps i, F a = none ∧ ¬ ownd (fpsU fps i []) a) ∧
    ∀ a, ownd fps a → ownd (fpsU fps i []) a ∨ a ∈ fps i := by
  obtain ⟨v, h1, h2⟩ := s.slot i t (getv_some e)
  refine ⟨v, h1, h2, ⟨fun j u h => ?_, fun j => ?_, fun j k a h1 h2 => ?_, fun j a m => ?_, fun j a m => ?_, s.sub, by rw [List.length_set]; exact s.len⟩, s.nd i, fun a m => ⟨s.free i a m, fun ⟨j, mj⟩ => ?_⟩, fun a ⟨j, mj⟩ => ?_⟩
  · by_cases hj : j = i
    · subst hj
      exact (set_none_no h).elim
    · rw [List.getElem?_set_ne (Ne.symm hj)] at h
      obtain ⟨w, g1, g2⟩ := s.slot j u h
      exact ⟨w, g1, by rw [fpsU_ne hj]; exact g2⟩
  · by_cases hj : j = i
    · subst hj
      rw [fpsU_same]
      exact List.nodup_nil
    · rw [fpsU_ne hj]
      exact s.nd j
  · by_cases hj : j = i
    · subst hj
      rw [fpsU_same] at h1
      cases h1
    · by_cases hk : k = i
      · subst hk
        rw [fpsU_same] at h2
        cases h2
      · rw [fpsU_ne hj] at h1
        rw [fpsU_ne hk] at h2
        exact s.dis j k a h1 h2
  · by_cases hj : j = i
    · subst hj
      rw [fpsU_same] at m
      cases m
    · rw [fpsU_ne hj] at m
      exact s.free j a m
  · by_cases hj : j = i
    · subst hj
      rw [fpsU_same] at m
      cases m
    · rw [fpsU_ne hj] at m
      exact s.there j a m
  · by_cases hj : j = i
    · subst hj
      rw [fpsU_same] at mj
      cases mj
    · rw [fpsU_ne hj] at mj
      exact hj (s.dis j i a mj m)
  · by_cases hj : j = i
    · subst hj
      exact .inr mj
    · exact .inl ⟨j, by rw [fpsU_ne hj]; exact mj⟩
/-- a value into a slot that holds it -/
theorem SK.put (s : SK K F fps σ H env) {v : V} {fq : List Addr} (hv : σ[i]? = some (some v)) (h : TR K F H v t fq) (nd : fq.Nodup) (ap : ∀ a ∈ fq, F a = none ∧ ¬ ownd fps a) : SK K F (fpsU fps i fq) σ H (env.set i (some t)) := by
  refine ⟨fun j u e => ?_, fun j => ?_, fun j k a h1 h2 => ?_, fun j a m => ?_, fun j a m => ?_, s.sub, by rw [List.length_set]; exact s.len⟩
  · by_cases hj : j = i
    · subst hj
      rw [List.getElem?_set] at e
      split at e
      · split at e
        · cases e
          exact ⟨v, hv, by rw [fpsU_same]; exact h⟩
        · simp at e
      · rename_i hne
        exact absurd rfl hne
    · rw [List.getElem?_set_ne (Ne.symm hj)] at e
      obtain ⟨w, g1, g2⟩ := s.slot j u e
      exact ⟨w, g1, by rw [fpsU_ne hj]; exact g2⟩
  · by_cases hj : j = i
    · subst hj
      rw [fpsU_same]
      exact nd
    · rw [fpsU_ne hj]
      exact s.nd j
  · by_cases hj : j = i
    · subst hj
      by_cases hk : k = j
      · exact hk.symm
      · rw [fpsU_same] at h1
        rw [fpsU_ne hk] at h2
        exact absurd ⟨k, h2⟩ (ap a h1).2
    · by_cases hk : k = i
      · subst hk
        rw [fpsU_same] at h2
        rw [fpsU_ne hj] at h1
        exact absurd ⟨j, h1⟩ (ap a h2).2
      · rw [fpsU_ne hj] at h1
        rw [fpsU_ne hk] at h2
        exact s.dis j k a h1 h2
  · by_cases hj : j = i
    · subst hj
      rw [fpsU_same] at m
      exact (ap a m).1
    · rw [fpsU_ne hj] at m
      exact s.free j a m
  · by_cases hj : j = i
    · subst hj
      rw [fpsU_same] at m
      exact h.there a m
    · rw [fpsU_ne hj] at m
      exact s.there j a m
theorem ownd_put {fps : Fps} {i : Nat} {fq : List Addr} {a : Addr} (h : ownd (fpsU fps i fq) a) : ownd fps a ∨ a ∈ fq := by
  obtain ⟨j, m⟩ := h
  by_cases hj : j = i
  · subst hj
    rw [fpsU_same] at m
    exact .inr m
  · rw [fpsU_ne hj] at m
    exact .inl ⟨j, m⟩
/-- a slot is forgotten -/
theorem SK.drop (s : SK K F fps σ H env) (i : Nat) : SK K F fps σ H (env.set i none) :=
  ⟨fun j u e => by
    by_cases hj : j = i
    · subst hj
      exact (set_none_no e).elim
    · rw [List.getElem?_set_ne (Ne.symm hj)] at e
      exact s.slot j u e, s.nd, s.dis, s.free, s.there, s.sub, by rw [List.length_set]; exact s.len⟩
theorem SK.wipe (s : SK K F fps σ H env) : ∀ is : List Nat, SK K F fps σ H (wipeE env is)
  | [] => s
  | i :: is => (SK.wipe s is).drop i
/-- something pending is frozen -/
theorem frzF_ext {F H : Hp} {q : List Addr} (h : ∀ a ∈ q, F a = none) : Ext F (frzF F H q) := .of fun a u e => by
  unfold frzF
  by_cases m : a ∈ q
  · rw [h a m] at e
    cases e
  · rw [if_neg m]
    exact e
theorem SK.frz (s : SK K F fps σ H env) {q : List Addr} (h : ∀ a ∈ q, F a = none ∧ ¬ ownd fps a) : SK K (frzF F H q) fps σ H env := by
  have ex : Ext F (frzF F H q) := frzF_ext fun a m => (h a m).1
  refine ⟨fun j u e => ?_, s.nd, s.dis, fun j a m => ?_, s.there, fun a u e => ?_, s.len⟩
  · obtain ⟨v, g1, g2⟩ := s.slot j u e
    exact ⟨v, g1, g2.mono ex fun _ _ _ z => z⟩
  · unfold frzF
    rw [if_neg fun z => (h a z).2 ⟨j, m⟩]
    exact s.free j a m
  · unfold Rd frzF at e
    by_cases m : a ∈ q
    · rw [if_pos m] at e
      exact e
    · rw [if_neg m] at e
      exact s.sub a u e
end

section
variable {K : Frg} {σ : L2.St} {env env' : SEnv} {os : List Opd} {F F1 H H1 : Hp} {fps fps1 : Fps} {vs : List V} {fp : List Addr}
/-- a waiting value is frozen -/
theorem RVs.frz {v : V} {t : AV} (a : RVs K σ env [.val t] F fps H [v] F1 fps1 H1 fp) : RVs K σ env [.val (.d t.dat)] F fps H [v] (frzF F1 H1 fp) fps1 H1 [] := by
  have tr := a.rs.one_inv
  refine ⟨a.sk.frz a.ap, .one (.d (tr.freeze (frzF_ext fun x m => (a.ap x m).1) fun x m o e => ?_)), List.nodup_nil, fun _ m => (nomatch m), a.st.f.trans (frzF_ext fun x m => (a.ap x m).1), a.st.k, fun x e => ?_, fun x m => ?_⟩
  · unfold frzF
    rw [if_pos m]
    exact e
  · unfold frzF at e
    by_cases m : x ∈ fp
    · exact .inr (a.st.w x (.inr m))
    · rw [if_neg m] at e
      exact a.st.n x e
  · rcases m with m | m
    · exact a.st.w x (.inl m)
    · cases m
/-- the state alone changes its description -/
theorem Step.same {F H : Hp} {W W' : Addr → Prop} (h : ∀ x, W' x → W x) : Step F W H F W' H := ⟨Ext.refl F, fun _ _ e _ => e, fun _ e => .inl e, fun x m => .inl (h x m)⟩
end

/-! ### a def's promise, by its pure meaning -/
def ioV (io : List Nat) (vs : List V) : List V := io.map fun j => vs.getD j .non
def spI (K : Frg) (G : FnS) : Sp := fun vs H Q _ => ∃ F ts fp r us, ts.length = G.n ∧ vs.length = G.n ∧ G.sem ts = some (r, us) ∧ Ext F H ∧ TRs K F H vs ts fp ∧ fp.Nodup ∧ (∀ a ∈ fp, F a = none) ∧
  ∀ v F' H' fr fu, TR K F' H' v r fr → TRs K F' H' (ioV G.io vs) us fu → (fr ++ fu).Nodup → (∀ a ∈ fr ++ fu, F' a = none) → Ext F' H' → Step F (fun a => a ∈ fp) H F' (fun a => a ∈ fr ++ fu) H' → Q v H'

/-- the backs of a call: which slots hold the values that come back -/
def Backs (σ : L2.St) (fps : Fps) : List V → List (Option Nat) → Prop
  | [], [] => True
  | v :: vs, some i :: bs => σ[i]? = some (some v) ∧ fps i = [] ∧ some i ∉ bs ∧ Backs σ fps vs bs
  | _ :: vs, none :: bs => Backs σ fps vs bs
  | _, _ => False
theorem Backs.mono {σ : L2.St} {fps fps' : Fps} (h : ∀ i, fps i = [] → fps' i = []) : ∀ {vs : List V} {bs : List (Option Nat)}, Backs σ fps vs bs → Backs σ fps' vs bs
  | [], [], _ => trivial
  | _ :: _, some i :: bs, ⟨a, b, c, d⟩ => ⟨a, h i b, c, Backs.mono h d⟩
  | _ :: vs, none :: bs, q => Backs.mono (vs := vs) (bs := bs) h q
/-- the values of a call that may come back, from the k-th on -/
def ioFrom (io : List Nat) : Nat → List V → List V
  | _, [] => []
  | k, v :: vs => if io.contains k then v :: ioFrom io (k + 1) vs else ioFrom io (k + 1) vs

theorem prepA_ok {K : Frg} {σ : L2.St} {io : List Nat} {H : Hp} : ∀ (os : List Opd) (k : Nat) (vs : List V) (env e1 : SEnv) (ts : List AV) (bs : List (Option Nat)) (F : Hp) (fps : Fps) (fp : List Addr),
    prepA io k os env = some (ts, bs, e1) → SK K F fps σ H env → ORs K F H σ vs os fp → fp.Nodup → (∀ a ∈ fp, F a = none ∧ ¬ ownd fps a) →
    ∃ F1 fps1 fp1, SK K F1 fps1 σ H e1 ∧ TRs K F1 H vs ts fp1 ∧ fp1.Nodup ∧ (∀ a ∈ fp1, F1 a = none ∧ ¬ ownd fps1 a) ∧ Step F (fun a => ownd fps a ∨ a ∈ fp) H F1 (fun a => ownd fps1 a ∨ a ∈ fp1) H ∧ Backs σ fps1 (ioFrom io k vs) bs ∧ ts.length = os.length ∧
      (∀ i, fps i = [] → fps1 i = []) ∧ ∀ i, some i ∈ bs → getv env i ≠ none
  | [], k, vs, env, e1, ts, bs, F, fps, fp, e, s, rs, nd, ap => by
    cases rs
    unfold prepA at e
    cases e
    exact ⟨F, fps, [], s, .nil, List.nodup_nil, fun _ m => (nomatch m), Step.same fun x h => h, trivial, rfl, fun _ h => h, fun _ m => (nomatch m)⟩
  | .slot i :: os, k, _, env, e1, ts, bs, F, fps, fp, e, s, rs, nd, ap => by
    cases rs with
    | slot hv rs =>
      rename_i v vs
      unfold prepA at e
      split at e
      · rename_i hio
        split at e
        · rename_i t ht
          obtain ⟨⟨ts', bs', e'⟩, h1, h2⟩ := Option.map_eq_some_iff.mp e
          cases h2
          obtain ⟨v', g1, g2, g3, g4, g5, g6⟩ := s.take ht
          rw [hv] at g1
          cases g1
          have ap2 : ∀ a ∈ fp, F a = none ∧ ¬ ownd (fpsU fps i []) a := fun a m => ⟨(ap a m).1, fun z => (ap a m).2 ((ownd_put z).elim id fun m => nomatch m)⟩
          obtain ⟨F1, fps1, fp1, r1, r2, r3, r4, r5, r6, r7, r8, r9⟩ := prepA_ok os (k + 1) vs _ _ _ _ F _ fp h1 g3 rs nd ap2
          -- what was taken lies beside the rest
          have side : ∀ a ∈ fps i, F1 a = none ∧ ¬ (ownd fps1 a ∨ a ∈ fp1) := fun a m => by
            obtain ⟨o, ho⟩ := g2.there a m
            have hw : ¬ (ownd (fpsU fps i []) a ∨ a ∈ fp) := fun z => z.elim (g5 a m).2 fun z => (ap a z).2 ⟨i, m⟩
            obtain ⟨_, q2, q3⟩ := r5.apart ho hw
            exact ⟨q3 (g5 a m).1, q2⟩
          refine ⟨F1, fps1, fps i ++ fp1, r1, .cons (g2.mono r5.f fun _ _ _ z => z) r2, ?_, ?_, ?_, ?_, by simp [r7], fun j hj => r8 j ?_, fun j m => ?_⟩
          · refine List.nodup_append.mpr ⟨g4, r3, fun x hx y hy z => ?_⟩
            subst z
            exact (side x hx).2 (.inr hy)
          · intro a m
            rcases List.mem_append.mp m with m | m
            · exact ⟨(side a m).1, fun z => (side a m).2 (.inl z)⟩
            · exact r4 a m
          · refine ((Step.same (W' := fun a => (ownd (fpsU fps i []) a ∨ a ∈ fp) ∨ a ∈ fps i) fun x h => ?_).trans (r5.frame fun a => a ∈ fps i)).weak fun x h => ?_
            · rcases h with (h | h) | h
              · exact .inl ((ownd_put h).elim id fun m => nomatch m)
              · exact .inr h
              · exact .inl ⟨i, h⟩
            · rcases h with h | h
              · exact .inl (.inl h)
              · rcases List.mem_append.mp h with h | h
                · exact .inr h
                · exact .inl (.inr h)
          · unfold ioFrom
            rw [if_pos hio]
            exact ⟨hv, r8 i fpsU_same, fun z => r9 i z (getv_set_none _ _), r6⟩
          · unfold fpsU
            split
            · rfl
            · exact hj
          · rcases List.mem_cons.mp m with z | m
            · cases z
              rw [ht]
              simp
            · intro z
              refine r9 j m ?_
              by_cases hj : j = i
              · rw [hj]
                exact getv_set_none _ _
              · rw [getv_ne _ hj]
                exact z
        · cases e
      · cases e
  | .val t :: os, k, _, env, e1, ts, bs, F, fps, fp, e, s, rs, nd, ap => by
    cases rs with
    | val hv rs =>
      rename_i v vs fa fb
      unfold prepA at e
      have nd1 := (List.nodup_append.mp nd).1
      have nd2 := (List.nodup_append.mp nd).2.1
      have dj : ∀ x ∈ fa, x ∉ fb := fun x hx hy => (List.nodup_append.mp nd).2.2 x hx x hy rfl
      split at e
      · rename_i hio
        obtain ⟨⟨ts', bs', e'⟩, h1, h2⟩ := Option.map_eq_some_iff.mp e
        cases h2
        obtain ⟨F1, fps1, fp1, r1, r2, r3, r4, r5, r6, r7, r8, r9⟩ := prepA_ok os (k + 1) vs _ _ _ _ F fps fb h1 s rs nd2 fun a m => ap a (List.mem_append_right _ m)
        have side : ∀ a ∈ fa, F1 a = none ∧ ¬ (ownd fps1 a ∨ a ∈ fp1) := fun a m => by
          obtain ⟨o, ho⟩ := hv.there a m
          have p := ap a (List.mem_append_left _ m)
          obtain ⟨_, q2, q3⟩ := r5.apart ho fun z => z.elim p.2 (dj a m)
          exact ⟨q3 p.1, q2⟩
        refine ⟨F1, fps1, fa ++ fp1, r1, .cons (hv.mono r5.f fun _ _ _ z => z) r2, ?_, ?_, ?_, ?_, by simp [r7], r8, fun j m => ?_⟩
        · refine List.nodup_append.mpr ⟨nd1, r3, fun x hx y hy z => ?_⟩
          subst z
          exact (side x hx).2 (.inr hy)
        · intro a m
          rcases List.mem_append.mp m with m | m
          · exact ⟨(side a m).1, fun z => (side a m).2 (.inl z)⟩
          · exact r4 a m
        · refine ((Step.same (W' := fun a => (ownd fps a ∨ a ∈ fb) ∨ a ∈ fa) fun x h => ?_).trans (r5.frame fun a => a ∈ fa)).weak fun x h => ?_
          · rcases h with (h | h) | h
            · exact .inl h
            · exact .inr (List.mem_append_right _ h)
            · exact .inr (List.mem_append_left _ h)
          · rcases h with h | h
            · exact .inl (.inl h)
            · rcases List.mem_append.mp h with h | h
              · exact .inr h
              · exact .inl (.inr h)
        · unfold ioFrom
          rw [if_pos hio]
          exact r6
        · rcases List.mem_cons.mp m with z | m
          · cases z
          · exact r9 j m
      · rename_i hio
        obtain ⟨⟨ts', bs', e'⟩, h1, h2⟩ := Option.map_eq_some_iff.mp e
        cases h2
        have apa : ∀ a ∈ fa, F a = none ∧ ¬ ownd fps a := fun a m => ap a (List.mem_append_left _ m)
        have ex : Ext F (frzF F H fa) := frzF_ext fun a m => (apa a m).1
        have hz : Rp K (frzF F H fa) v t.dat := hv.freeze ex fun a m o z => by
          unfold frzF
          rw [if_pos m]
          exact z
        obtain ⟨F1, fps1, fp1, r1, r2, r3, r4, r5, r6, r7, r8, r9⟩ := prepA_ok os (k + 1) vs _ _ _ _ (frzF F H fa) fps fb h1 (s.frz apa) (rs.mono ex fun _ _ _ z => z) nd2 fun a m => by
          refine ⟨?_, (ap a (List.mem_append_right _ m)).2⟩
          unfold frzF
          rw [if_neg fun z => dj a z m]
          exact (ap a (List.mem_append_right _ m)).1
        refine ⟨F1, fps1, fp1, r1, TRs.cons (fp := []) (.d (hz.mono r5.f)) r2, r3, r4, ?_, ?_, by simp [r7], r8, r9⟩
        · refine Step.trans (W1 := fun a => ownd fps a ∨ a ∈ fb) ⟨ex, fun _ _ z _ => z, fun a z => ?_, fun a z => .inl (z.elim .inl fun z => .inr (List.mem_append_right _ z))⟩ r5
          unfold frzF at z
          by_cases m : a ∈ fa
          · exact .inr (.inl (.inr (List.mem_append_left _ m)))
          · rw [if_neg m] at z
            exact .inl z
        · unfold ioFrom
          rw [if_neg hio]
          exact r6

theorem Backs.upd {σ : L2.St} {fps : Fps} {i : Nat} (fa : List Addr) : ∀ {vs : List V} {bs : List (Option Nat)}, some i ∉ bs → Backs σ fps vs bs → Backs σ (fpsU fps i fa) vs bs
  | [], [], _, _ => trivial
  | [], some _ :: _, _, h => h.elim
  | [], none :: _, _, h => h.elim
  | _ :: _, [], _, h => h.elim
  | _ :: vs, some j :: r, hn, ⟨c1, c2, c3, c4⟩ => ⟨c1, by rw [fpsU_ne (fun z => hn (by rw [z]; exact List.mem_cons_self))]; exact c2, c3, Backs.upd fa (fun z => hn (List.mem_cons_of_mem _ z)) c4⟩
  | _ :: vs, none :: r, hn, h => Backs.upd (vs := vs) (bs := r) fa (fun z => hn (List.mem_cons_of_mem _ z)) h
theorem putB_ok {K : Frg} {σ : L2.St} {F H : Hp} : ∀ (bs : List (Option Nat)) (us : List AV) (vs : List V) (env e2 : SEnv) (fps : Fps) (fu : List Addr), putB bs us env = some e2 → SK K F fps σ H env → TRs K F H vs us fu → fu.Nodup → (∀ a ∈ fu, F a = none ∧ ¬ ownd fps a) → Backs σ fps vs bs →
    ∃ fps2, SK K F fps2 σ H e2 ∧ ∀ a, ownd fps2 a → ownd fps a ∨ a ∈ fu
  | [], [], vs, env, e2, fps, fu, e, s, rs, nd, ap, bk => by
    unfold putB at e
    cases e
    exact ⟨fps, s, fun _ h => .inl h⟩
  | some i :: bs, t :: us, _, env, e2, fps, _, e, s, .cons (fp := fa) (fq := fb) h hs, nd, ap, bk => by
    unfold putB at e
    obtain ⟨b1, b2, b3, b4⟩ := bk
    have nd1 := (List.nodup_append.mp nd).1
    have nd2 := (List.nodup_append.mp nd).2.1
    have dj : ∀ x ∈ fa, x ∉ fb := fun x hx hy => (List.nodup_append.mp nd).2.2 x hx x hy rfl
    have s2 := s.put b1 h nd1 fun a m => ap a (List.mem_append_left _ m)
    have b5 := Backs.upd fa b3 b4
    obtain ⟨fps2, q1, q2⟩ := putB_ok bs us _ _ _ _ fb e s2 hs nd2 (fun a m => ⟨(ap a (List.mem_append_right _ m)).1, fun z => (ownd_put z).elim (ap a (List.mem_append_right _ m)).2 fun z => dj a z m⟩) b5
    refine ⟨fps2, q1, fun a h => ?_⟩
    rcases q2 a h with h | h
    · rcases ownd_put h with h | h
      · exact .inl h
      · exact .inr (List.mem_append_left _ h)
    · exact .inr (List.mem_append_right _ h)
  | none :: bs, t :: us, _, env, e2, fps, _, e, s, .cons (fp := fa) (fq := fb) h hs, nd, ap, bk => by
    unfold putB at e
    obtain ⟨fps2, q1, q2⟩ := putB_ok bs us _ _ _ fps fb e s hs (List.nodup_append.mp nd).2.1 (fun a m => ap a (List.mem_append_right _ m)) bk
    exact ⟨fps2, q1, fun a h => (q2 a h).elim .inl fun h => .inr (List.mem_append_right _ h)⟩
  | [], _ :: _, vs, env, e2, fps, fu, e, s, rs, nd, ap, bk => by simp [putB] at e
  | some _ :: _, [], vs, env, e2, fps, fu, e, s, rs, nd, ap, bk => by simp [putB] at e
  | none :: _, [], vs, env, e2, fps, fu, e, s, rs, nd, ap, bk => by simp [putB] at e

/-- the parameters that come back, in rising order -/
def upTo (n : Nat) (io : List Nat) : List Nat := (List.range n).filter fun k => io.contains k
theorem ioFrom_eq (io : List Nat) : ∀ (vs : List V) (k : Nat), ioFrom io k vs = ((List.range vs.length).filter fun j => io.contains (k + j)).map fun j => vs.getD j .non
  | [], k => rfl
  | v :: vs, k => by
    unfold ioFrom
    rw [List.length_cons, List.range_succ_eq_map, List.filter_cons, ioFrom_eq io vs (k + 1)]
    have e : (List.map Nat.succ (List.range vs.length)).filter (fun j => io.contains (k + j)) = ((List.range vs.length).filter fun j => io.contains (k + 1 + j)).map Nat.succ := by
      rw [List.filter_map]
      congr 1
      apply List.filter_congr
      intro j _
      show io.contains (k + (j + 1)) = _
      rw [show k + (j + 1) = k + 1 + j by omega]
    rw [e]
    split
    · rename_i h
      rw [if_pos (by simpa using h), List.map_cons, List.map_map]
      rfl
    · rename_i h
      rw [if_neg (by simpa using h), List.map_map]
      rfl
theorem ioFrom_ioV {io : List Nat} {vs : List V} {n : Nat} (hn : vs.length = n) (h : io = upTo n io) : ioFrom io 0 vs = ioV io vs := by
  rw [ioFrom_eq, hn]
  unfold ioV
  conv => rhs; rw [h]
  unfold upTo
  congr 1
  apply List.filter_congr
  intro j _
  rw [Nat.zero_add]

/-- the reading of a call, behind its arguments -/
theorem callV_ok {K : Frg} {σ : L2.St} {env env' : SEnv} {os : List Opd} {F F1 H H1 : Hp} {fps fps1 : Fps} {vs : List V} {fp : List Addr} {G : FnS} {r : AV} (hio : G.io = upTo G.n G.io) (a : RVs K σ env os F fps H vs F1 fps1 H1 fp) (e : callV G os env = some (r, env')) {Q : VK}
    (q : ∀ z F3 fps3 H3 fq, RVs K σ env' [.val r] F fps H [z] F3 fps3 H3 fq → Q z H3) : spI K G vs H1 Q E0 := by
  unfold callV at e
  split at e
  · rename_i hl
    cases h1 : prepA G.io 0 os env with
    | none => rw [h1] at e; simp at e
    | some p =>
      obtain ⟨ts, bs, e1⟩ := p
      rw [h1] at e
      simp only [Option.bind_eq_bind, Option.bind_some] at e
      cases h2 : G.sem ts with
      | none => rw [h2] at e; simp at e
      | some p2 =>
        obtain ⟨r', us⟩ := p2
        rw [h2] at e
        simp only [Option.bind_some] at e
        cases h3 : putB bs us e1 with
        | none => rw [h3] at e; simp at e
        | some e2 =>
          rw [h3] at e
          have e' : (r', e2) = (r, env') := Option.some.inj e
          cases e'
          obtain ⟨F2, fps2, fp2, g1, g2, g3, g4, g5, g6, g7, _, _⟩ := prepA_ok os 0 vs env e1 ts bs F1 fps1 fp h1 a.sk a.rs a.nd a.ap
          have hvl : vs.length = G.n := by rw [a.rs.length]; exact hl
          refine ⟨F2, ts, fp2, r, us, by rw [g7]; exact hl, hvl, h2, g1.sub, g2, g3, fun x m => (g4 x m).1, fun v F' H' fr fu t1 t2 nd ff ex st => ?_⟩
          -- the caller's own slots lie beside the call
          have sk2 : SK K F' fps2 σ H' e1 := by
            have side : ∀ i x, x ∈ fps2 i → ¬ x ∈ fp2 := fun i x m z => (g4 x z).2 ⟨i, m⟩
            refine ⟨fun i t h => ?_, g1.nd, g1.dis, fun i x m => ?_, fun i x m => ?_, ex, g1.len⟩
            · obtain ⟨w, c1, c2⟩ := g1.slot i t h
              exact ⟨w, c1, st.tr c2 fun x m => side i x m⟩
            · obtain ⟨o, ho⟩ := g1.there i x m
              exact (st.apart ho (side i x m)).2.2 (g1.free i x m)
            · obtain ⟨o, ho⟩ := g1.there i x m
              exact ⟨o, (st.apart ho (side i x m)).1⟩
          have apart2 : ∀ x, x ∈ fr ++ fu → ¬ ownd fps2 x := fun x m ⟨i, mi⟩ => by
            obtain ⟨o, ho⟩ := g1.there i x mi
            exact (st.apart ho fun z => (g4 x z).2 ⟨i, mi⟩).2.1 m
          have nd1 := (List.nodup_append.mp nd).1
          have nd2 := (List.nodup_append.mp nd).2.1
          have dj : ∀ x ∈ fr, x ∉ fu := fun x hx hy => (List.nodup_append.mp nd).2.2 x hx x hy rfl
          rw [← ioFrom_ioV hvl hio] at t2
          obtain ⟨fps3, k1, k2⟩ := putB_ok bs us _ e1 env' fps2 fu h3 sk2 t2 nd2 (fun x m => ⟨ff x (List.mem_append_right _ m), apart2 x (List.mem_append_right _ m)⟩) g6
          refine q v F' fps3 H' fr ⟨k1, .one t1, nd1, fun x m => ⟨ff x (List.mem_append_left _ m), fun z => (k2 x z).elim (apart2 x (List.mem_append_left _ m)) (dj x m)⟩, ?_⟩
          refine (a.st.trans (g5.trans ((st.frame fun x => ownd fps2 x).more fun x h => ?_))).weak fun x h => ?_
          · rcases h with h | h
            · exact .inr h
            · exact .inl h
          · rcases h with h | h
            · rcases k2 x h with h | h
              · exact .inr h
              · exact .inl (List.mem_append_right _ h)
            · exact .inl (List.mem_append_left _ h)
  · cases e
end Mi
/-! Each construct of an expression, by its pure meaning. -/
namespace Mi
open PySem L2 PyProof.Rows

section
variable (Φ : Phi) (X : Cx)
def PEp (m : E) (e : Expr) : Prop := ∀ env env' r, evE Φ m env = some (r, env') → PE X e (TIe X.K env env' r)
def POp (m : E) (e : Expr) : Prop := ∀ env env' o, opd m (evE Φ m) env = some (o, env') → PE X e (TIo X.K env env' o)
def PTp (m : E) (e : Expr) : Prop := ∀ env env' b, evT Φ m env = some (b, env') → PT X e (TIt X.K env env' b)
def PWp (m : E) (e : Expr) : Prop := ∀ env env' b, evT Φ m env = some (b, env') → PW X e (TIt X.K env env' b)
def PAp (m : E) (es : List Expr) : Prop := ∀ env env' os, evL Φ m env = some (os, env') → PA X es (TIa X.K env env' os)
def PDp (m : E) (es : List Expr) : Prop := ∀ env env' ts, evA Φ m env = some (ts, env') → PA X es (TIa X.K env env' (ts.map .val))
end

theorem ORs.split {K : Frg} {F H : Hp} {σ : L2.St} {v w : V} {a b : Opd} {fp : List Addr} (h : ORs K F H σ [v, w] [a, b] fp) : (∃ f1, ORs K F H σ [v] [a] f1) ∧ ∃ f2, ORs K F H σ [w] [b] f2 := by
  cases h with
  | slot h hs => exact ⟨⟨_, .slot h .nil⟩, _, hs⟩
  | val h hs => exact ⟨⟨_, .val h .nil⟩, _, hs⟩
theorem ORs.cons_split {K : Frg} {F H : Hp} {σ : L2.St} {v : V} {vs : List V} {a : Opd} {os : List Opd} {fp : List Addr} (h : ORs K F H σ (v :: vs) (a :: os) fp) : (∃ f1, ORs K F H σ [v] [a] f1) ∧ ∃ f2, ORs K F H σ vs os f2 := by
  cases h with
  | slot h hs => exact ⟨⟨_, .slot h .nil⟩, _, hs⟩
  | val h hs => exact ⟨⟨_, .val h .nil⟩, _, hs⟩

section
variable {Φ : Phi} {X : Cx} {m a b c : E} {e x y z : Expr} {es rest : List Expr} {pos : Pos}

/-! ### names and constants -/
theorem s_var {i : Nat} {nm : Str} (hN : X.N[i]? = some nm) (hv : Vis X.env.scope nm) (hd : (nm == ("__debug__" : Str)) = false) (hc : (nm == ("__classdict__" : Str)) = false) : PEp Φ X (.var i) (.Name nm pos) := by
  intro env env' r h
  simp only [evE] at h
  split at h
  · rename_i t ht
    cases h
    refine PE.weak (pe_var hN hv hd hc) fun σ H Q => ?_
    rintro ⟨F, fps, s, q⟩
    obtain ⟨v, h1, h2, h3, h4, h5, h6⟩ := s.take ht
    refine ⟨v, h1, ?_⟩
    have R0 : RVs X.K σ (env.set i none) [.val t] F fps H [v] F (fpsU fps i []) H (fps i) := ⟨h3, .one h2, h4, h5, Step.same fun a m => m.elim (fun z => (ownd_put z).elim id fun z => nomatch z) fun z => ⟨i, z⟩⟩
    have R1 := R0.frz
    refine q v (frzF F H (fps i)) (fpsU (fpsU fps i []) i []) H [] ⟨?_, R1.rs, List.nodup_nil, fun _ m => (nomatch m), R1.st.weak fun a m => ?_⟩
    · have := R1.sk.put h1 (R1.rs.one_inv) List.nodup_nil fun _ m => nomatch m
      rw [List.set_set] at this
      exact this
    · rcases m with m | m
      · exact .inl ((ownd_put m).elim id fun z => nomatch z)
      · cases m
  · cases h
theorem s_mv {i : Nat} {nm : Str} (hN : X.N[i]? = some nm) (hv : Vis X.env.scope nm) (hd : (nm == ("__debug__" : Str)) = false) (hc : (nm == ("__classdict__" : Str)) = false) : PEp Φ X (.mv i) (.Name nm pos) := by
  intro env env' r h
  simp only [evE] at h
  split at h
  · rename_i t ht
    cases h
    refine PE.weak (pe_var hN hv hd hc) fun σ H Q => ?_
    rintro ⟨F, fps, s, q⟩
    obtain ⟨v, h1, h2, h3, h4, h5, h6⟩ := s.take ht
    exact ⟨v, h1, q v F (fpsU fps i []) H (fps i) ⟨h3, .one h2, h4, h5, Step.same fun a m => m.elim (fun z => (ownd_put z).elim id fun z => nomatch z) fun z => ⟨i, z⟩⟩⟩
  · cases h
theorem s_ref {i : Nat} {nm : Str} {env : SEnv} (hN : X.N[i]? = some nm) (hv : Vis X.env.scope nm) (hd : (nm == ("__debug__" : Str)) = false) (hc : (nm == ("__classdict__" : Str)) = false) (hi : getv env i ≠ none) : PE X (.Name nm pos) (TIo X.K env env (.slot i)) := by
  refine PE.weak (pe_var hN hv hd hc) fun σ H Q => ?_
  rintro ⟨F, fps, s, q⟩
  cases ht : getv env i with
  | none => exact absurd ht hi
  | some t =>
    obtain ⟨v, h1, h2⟩ := s.slot i t (getv_some ht)
    exact ⟨v, h1, q v F fps H [] ⟨s, .slot h1 .nil, List.nodup_nil, fun _ m => (nomatch m), Step.same fun a m => m.elim id fun z => nomatch z⟩⟩
theorem tc_ok {K : Frg} {env : SEnv} {v : V} {x : PyData} (h : ∀ F, Rp K F v x) : ∀ σ H Q, TIe K env env (.d x) σ H Q → tC v σ H Q := by
  rintro σ H Q ⟨F, fps, s, q⟩
  exact q v F fps H [] (s.start.dat (h F))
theorem s_lit {v : V} {d : PyData} (hp : PE X e (tC v)) (h : ∀ K F, Rp K F v d) : PEp Φ X (.lit d) e := by
  intro env env' r he
  simp only [evE] at he
  cases he
  exact PE.weak hp (tc_ok (h X.K))
theorem s_glob {g : Nat} {v : V} {d : PyData} (hp : PE X e (tC v)) (h : ∀ K F, Rp K F v d) : PEp Φ X (.glob g d) e := by
  intro env env' r he
  simp only [evE] at he
  cases he
  exact PE.weak hp (tc_ok (h X.K))

theorem s_frz (ha : PEp Φ X a x) : PEp Φ X (.frz a) x := by
  intro env env' r h
  simp only [evE, Option.bind_eq_bind, Option.bind_eq_some_iff] at h
  obtain ⟨⟨t, e1⟩, h1, h2⟩ := h
  cases h2
  refine PE.weak (ha _ _ _ h1) fun σ H Q => ?_
  rintro ⟨F, fps, s, q⟩
  exact ⟨F, fps, s, fun v F1 fps1 H1 fp1 r1 => q _ _ _ _ _ r1.frz⟩

/-! ### operators -/
theorem s_bin (O : Opx X) {op : Operator} (ha : POp Φ X a x) (hb : POp Φ X b y) : PEp Φ X (.bin op a b) (.BinOp x op y pos) := by
  intro env env' r h
  simp only [evE, Option.bind_eq_bind, Option.bind_eq_some_iff] at h
  obtain ⟨⟨oa, e1⟩, h1, ⟨ob, e2⟩, h2, ta, h3, tb, h4, t, h5, h6⟩ := h
  cases h6
  obtain ⟨R, hR, hk⟩ := bin_ok (X := X) h5
  refine PE.weak (pe_op hR (ha _ _ _ h1) (hb _ _ _ h2)) (two_ok fun {σ F fps H v w F2 fps2 H2 fp} rv Q q => ?_)
  obtain ⟨⟨f1, r1⟩, f2, r2⟩ := rv.rs.split
  obtain ⟨g1, t1⟩ := RVs.look1 rv.sk r1 h3
  obtain ⟨g2, t2⟩ := RVs.look1 rv.sk r2 h4
  exact hk rv t1 t2 Q q
theorem s_neg (ha : PEp Φ X a x) : PEp Φ X (.neg a) (.UnaryOp .USub x pos) := by
  intro env env' r h
  simp only [evE, Option.bind_eq_bind, Option.bind_eq_some_iff] at h
  obtain ⟨⟨t, e1⟩, h1, h2⟩ := h
  simp only at h2
  split at h2
  · rename_i i
    cases h2
    refine PE.weak (pe_un un_neg (ha _ _ _ h1)) fun σ H Q => ?_
    rintro ⟨F, fps, s, q⟩
    refine ⟨F, fps, s, fun v F' fps' H' fp rv => ⟨i, rv.rs.one_inv.int, q _ _ _ _ _ (rv.dat (.int _))⟩⟩
  · cases h2
theorem cmp_run (O : Opx X) {op : CmpOp} {env e1 e2 : SEnv} {oa ob : Opd} {ta tb : AV} {r : Bool} (h3 : look e2 oa = some ta) (h4 : look e2 ob = some tb) (h5 : cmpV op ta tb = some r) :
    ∃ R, OpR X (compareOp op) R ∧ ∀ {σ F fps H v w F2 fps2 H2 fp}, RVs X.K σ e2 [oa, ob] F fps H [v, w] F2 fps2 H2 fp → ∀ Q : VK, Q (.bl r) H2 → R v w H2 Q := by
  obtain ⟨R, hR, hk⟩ := cmp_ok O h5
  refine ⟨R, hR, fun rv Q q => ?_⟩
  obtain ⟨⟨f1, r1⟩, f2, r2⟩ := rv.rs.split
  obtain ⟨g1, t1⟩ := RVs.look1 rv.sk r1 h3
  obtain ⟨g2, t2⟩ := RVs.look1 rv.sk r2 h4
  exact hk rv.sk.sub t1 t2 Q q
theorem s_cmp (O : Opx X) {op : CmpOp} (ha : POp Φ X a x) (hb : POp Φ X b y) (hm : behindInMarks op y = false) : PEp Φ X (.cmp op a b) (.Compare x [op] [y] pos) := by
  intro env env' r h
  simp only [evE, Option.bind_eq_bind, Option.bind_eq_some_iff] at h
  obtain ⟨⟨oa, e1⟩, h1, ⟨ob, e2⟩, h2, ta, h3, tb, h4, t, h5, h6⟩ := h
  cases h6
  obtain ⟨R, hR, hk⟩ := cmp_run O (env := env) (e1 := e1) h3 h4 h5
  exact PE.weak (pe_cmpR hR (ha _ _ _ h1) (hb _ _ _ h2) hm) (two_ok fun rv Q q => hk rv Q (q _ _ _ _ (rv.dat (.bl t))))
theorem t_cmp (O : Opx X) {op : CmpOp} (ha : POp Φ X a x) (hb : POp Φ X b y) (hm : behindInMarks op y = false) : PTp Φ X (.cmp op a b) (.Compare x [op] [y] pos) := by
  intro env env' r h
  simp only [evT, Option.bind_eq_bind, Option.bind_eq_some_iff] at h
  obtain ⟨⟨oa, e1⟩, h1, ⟨ob, e2⟩, h2, ta, h3, tb, h4, t, h5, h6⟩ := h
  cases h6
  obtain ⟨R, hR, hk⟩ := cmp_run O (env := env) (e1 := e1) h3 h4 h5
  refine PT.weak (pt_cmpR hR (ha _ _ _ h1) (hb _ _ _ h2) hm) fun σ H Q => ?_
  rintro ⟨F, fps, s, q⟩
  refine ⟨F, fps, s, fun v F1 fps1 H1 fp1 r1 => ⟨F1, fps1, r1.sk, fun w F2 fps2 H2 fp2 r2 => ?_⟩⟩
  exact hk (r1.seq r2) _ ⟨r, rfl, q _ _ _ (r1.seq r2).drop⟩
theorem chain_run (O : Opx X) {o1 o2 : CmpOp} {env : SEnv} {r : Bool} {env' : SEnv} (ha : POp Φ X a x) (hb : POp Φ X b y) (hc : POp Φ X c z)
    (h : (do
      let (oa, e1) ← opd a (evE Φ a) env
      let (ob, e2) ← opd b (evE Φ b) e1
      let r ← cmpV o1 (← look e2 oa) (← look e2 ob)
      if r then do
        let (oc, e3) ← opd c (evE Φ c) e2
        let r2 ← cmpV o2 (← look e3 ob) (← look e3 oc)
        some (r2, e3)
      else some (false, e2) : Option (Bool × SEnv)) = some (r, env')) :
    ∃ R R' ta tb tc, OpR X (compareOp o1) R ∧ OpR X (compareOp o2) R' ∧ PE X x ta ∧ PE X y tb ∧ PE X z tc ∧ ∀ σ H (Q : VK), TIe X.K env env' (.d (.bool r)) σ H Q → tChain R R' ta tb tc σ H Q := by
  simp only [Option.bind_eq_bind, Option.bind_eq_some_iff] at h
  obtain ⟨⟨oa, e1⟩, h1, ⟨ob, e2⟩, h2, ta, h3, tb, h4, k, h5, h6⟩ := h
  obtain ⟨R, hR, hk⟩ := cmp_run O (env := env) (e1 := e1) h3 h4 h5
  cases k with
  | false =>
    simp only [Bool.false_eq_true, if_false] at h6
    cases h6
    -- the third is not asked
    refine ⟨R, fun _ _ _ _ => False, _, _, fun _ _ _ => False, hR, fun _ _ _ _ _ _ _ _ _ _ _ _ h => h.elim, ha _ _ _ h1, hb _ _ _ h2, ⟨fun _ _ _ _ _ _ z => z.elim⟩, fun σ H Q => ?_⟩
    rintro ⟨F, fps, s, q⟩
    refine ⟨F, fps, s, fun v F1 fps1 H1 fp1 r1 => ⟨F1, fps1, r1.sk, fun w F2 fps2 H2 fp2 r2 => ?_⟩⟩
    exact hk (r1.seq r2) _ ⟨false, rfl, by rw [if_neg Bool.false_ne_true]; exact q _ _ _ _ _ ((r1.seq r2).dat (.bl false))⟩
  | true =>
    simp only [if_true, Option.bind_eq_some_iff] at h6
    obtain ⟨⟨oc, e3⟩, g1, tb2, g2, tc, g3, k2, g4, g5⟩ := h6
    cases g5
    obtain ⟨R', hR', hk'⟩ := cmp_ok O g4
    refine ⟨R, R', _, _, _, hR, hR', ha _ _ _ h1, hb _ _ _ h2, hc _ _ _ g1, fun σ H Q => ?_⟩
    rintro ⟨F, fps, s, q⟩
    refine ⟨F, fps, s, fun v F1 fps1 H1 fp1 r1 => ⟨F1, fps1, r1.sk, fun w F2 fps2 H2 fp2 r2 => ?_⟩⟩
    refine hk (r1.seq r2) _ ⟨true, rfl, ?_⟩
    rw [if_pos rfl]
    refine ⟨F2, fps2, r2.sk, fun u F3 fps3 H3 fp3 r3 => ?_⟩
    have rv := (r1.seq r2).seq r3
    -- the middle and the last
    have rs : ∃ fq, ORs X.K F3 H3 σ [w, u] [ob, oc] fq := (ORs.cons_split rv.rs).2
    obtain ⟨fq, rs⟩ := rs
    obtain ⟨⟨f1, q1⟩, f2, q2⟩ := rs.split
    obtain ⟨_, t1⟩ := RVs.look1 rv.sk q1 g2
    obtain ⟨_, t2⟩ := RVs.look1 rv.sk q2 g3
    exact hk' rv.sk.sub t1 t2 _ (q _ _ _ _ _ (rv.dat (.bl _)))
theorem s_chain (O : Opx X) {o1 o2 : CmpOp} (ha : POp Φ X a x) (hb : POp Φ X b y) (hc : POp Φ X c z) (hm : lastMarks [o1, o2] [y, z] = false) : PEp Φ X (.chain o1 o2 a b c) (.Compare x [o1, o2] [y, z] pos) := by
  intro env env' r h
  have h' : ∃ k, r = .d (.bool k) ∧ (do
      let (oa, e1) ← opd a (evE Φ a) env
      let (ob, e2) ← opd b (evE Φ b) e1
      let r ← cmpV o1 (← look e2 oa) (← look e2 ob)
      if r then do
        let (oc, e3) ← opd c (evE Φ c) e2
        let r2 ← cmpV o2 (← look e3 ob) (← look e3 oc)
        some (r2, e3)
      else some (false, e2) : Option (Bool × SEnv)) = some (k, env') := by
    simp only [evE, Option.bind_eq_bind, Option.bind_eq_some_iff] at h ⊢
    obtain ⟨p1, h1, p2, h2, ta, h3, tb, h4, k, h5, h6⟩ := h
    cases k with
    | false =>
      simp only [Bool.false_eq_true, if_false] at h6
      cases h6
      exact ⟨false, rfl, p1, h1, p2, h2, ta, h3, tb, h4, false, h5, by simp⟩
    | true =>
      simp only [if_true, Option.bind_eq_some_iff] at h6
      obtain ⟨p3, g1, tb2, g2, tc, g3, k2, g4, g5⟩ := h6
      cases g5
      exact ⟨k2, rfl, p1, h1, p2, h2, ta, h3, tb, h4, true, h5, by simp only [if_true, Option.bind_eq_some_iff]; exact ⟨p3, g1, tb2, g2, tc, g3, k2, g4, rfl⟩⟩
  obtain ⟨k, rfl, h'⟩ := h'
  obtain ⟨R, R', ta, tb, tc, h1, h2, h3, h4, h5, h6⟩ := chain_run O ha hb hc h'
  exact PE.weak (pe_chain h1 h2 h3 h4 h5 hm) h6
theorem t_chain (O : Opx X) {o1 o2 : CmpOp} (ha : POp Φ X a x) (hb : POp Φ X b y) (hc : POp Φ X c z) (hm : lastMarks [o1, o2] [y, z] = false) : PTp Φ X (.chain o1 o2 a b c) (.Compare x [o1, o2] [y, z] pos) := by
  intro env env' r h
  obtain ⟨R, R', ta, tb, tc, h1, h2, h3, h4, h5, h6⟩ := chain_run (env' := env') (r := r) O ha hb hc (by
    simp only [evT, Option.bind_eq_bind, Option.bind_eq_some_iff] at h ⊢
    exact h)
  refine PT.weak (pt_chain h1 h2 h3 h4 h5 hm) fun σ H Q => ?_
  rintro ⟨F, fps, s, q⟩
  refine h6 σ H _ ⟨F, fps, s, fun v F' fps' H' fp rv => ?_⟩
  have := rv.rs.one_inv.bl
  subst this
  exact ⟨r, rfl, q _ _ _ rv.drop⟩

/-! ### and, or, not -/
theorem s_andB (ha : PEp Φ X a x) (hb : PEp Φ X b (.BoolOp .And (y :: rest) pos)) : PEp Φ X (.and a b) (.BoolOp .And (x :: y :: rest) pos) := by
  intro env env' r h
  simp only [evE, Option.bind_eq_bind, Option.bind_eq_some_iff] at h
  obtain ⟨⟨t, e1⟩, h1, h2⟩ := h
  simp only at h2
  split at h2
  · refine PE.weak (pe_and (ha _ _ _ h1) (hb _ _ _ h2)) fun σ H Q => ?_
    rintro ⟨F, fps, s, q⟩
    refine ⟨F, fps, s, fun v F1 fps1 H1 fp1 r1 => ⟨true, r1.rs.one_inv.bl, ?_⟩⟩
    rw [if_pos rfl]
    exact ⟨F1, fps1, r1.sk, fun w F2 fps2 H2 fp2 r2 => q w F2 fps2 H2 fp2 (r1.drop.seq r2)⟩
  · cases h2
    refine PE.weak (pe_and (tb := fun _ _ _ => False) (ha _ _ _ h1) ⟨fun _ _ _ _ _ _ z => z.elim⟩) fun σ H Q => ?_
    rintro ⟨F, fps, s, q⟩
    refine ⟨F, fps, s, fun v F1 fps1 H1 fp1 r1 => ⟨false, r1.rs.one_inv.bl, ?_⟩⟩
    rw [if_neg Bool.false_ne_true]
    exact q _ _ _ _ _ (r1.dat (.bl false))
  · cases h2
theorem s_orB (ha : PEp Φ X a x) (hb : PEp Φ X b (.BoolOp .Or (y :: rest) pos)) : PEp Φ X (.or a b) (.BoolOp .Or (x :: y :: rest) pos) := by
  intro env env' r h
  simp only [evE, Option.bind_eq_bind, Option.bind_eq_some_iff] at h
  obtain ⟨⟨t, e1⟩, h1, h2⟩ := h
  simp only at h2
  split at h2
  · refine PE.weak (pe_or (ha _ _ _ h1) (hb _ _ _ h2)) fun σ H Q => ?_
    rintro ⟨F, fps, s, q⟩
    refine ⟨F, fps, s, fun v F1 fps1 H1 fp1 r1 => ⟨false, r1.rs.one_inv.bl, ?_⟩⟩
    rw [if_neg Bool.false_ne_true]
    exact ⟨F1, fps1, r1.sk, fun w F2 fps2 H2 fp2 r2 => q w F2 fps2 H2 fp2 (r1.drop.seq r2)⟩
  · cases h2
    refine PE.weak (pe_or (tb := fun _ _ _ => False) (ha _ _ _ h1) ⟨fun _ _ _ _ _ _ z => z.elim⟩) fun σ H Q => ?_
    rintro ⟨F, fps, s, q⟩
    refine ⟨F, fps, s, fun v F1 fps1 H1 fp1 r1 => ⟨true, r1.rs.one_inv.bl, ?_⟩⟩
    rw [if_pos rfl]
    exact q _ _ _ _ _ (r1.dat (.bl true))
  · cases h2
theorem s_one {op : BoolOp} (ha : PEp Φ X a x) : PEp Φ X a (.BoolOp op [x] pos) := fun env env' r h => pe_one (ha env env' r h)
theorem s_not (ha : PEp Φ X a x) : PEp Φ X (.not a) (.UnaryOp .Not x pos) := by
  intro env env' r h
  simp only [evE, Option.bind_eq_bind, Option.bind_eq_some_iff] at h
  obtain ⟨⟨t, e1⟩, h1, h2⟩ := h
  simp only at h2
  split at h2
  · cases h2
    refine PE.weak (pe_not (ha _ _ _ h1)) fun σ H Q => ?_
    rintro ⟨F, fps, s, q⟩
    exact ⟨F, fps, s, fun v F1 fps1 H1 fp1 r1 => ⟨_, r1.rs.one_inv.bl, q _ _ _ _ _ (r1.dat (.bl _))⟩⟩
  · cases h2
theorem t_and (ha : PTp Φ X a x) (hb : PWp Φ X b (.BoolOp .And (y :: rest) pos)) : PWp Φ X (.and a b) (.BoolOp .And (x :: y :: rest) pos) := by
  intro env env' r h
  simp only [evT, Option.bind_eq_bind, Option.bind_eq_some_iff] at h
  obtain ⟨⟨k, e1⟩, h1, h2⟩ := h
  cases k with
  | true =>
    simp only [if_true] at h2
    have q := pw_and (ha _ _ _ h1) (hb _ _ _ h2)
    refine ⟨fun wh pins s σ H Q I hw => q.run wh pins s σ H Q I ?_⟩
    obtain ⟨F, fps, sk, q⟩ := hw
    refine ⟨F, fps, sk, fun F1 fps1 H1 r1 => ?_⟩
    refine iteT ?_
    exact ⟨F1, fps1, r1.sk, fun F2 fps2 H2 r2 => q F2 fps2 H2 (r1.seq r2)⟩
  | false =>
    simp only [Bool.false_eq_true, if_false] at h2
    cases h2
    have q := pw_and (tB' := fun _ _ _ => False) (pos := pos) (b := y) (rest := rest) (ha _ _ _ h1) ⟨fun _ _ _ _ _ _ _ z => z.elim⟩
    refine ⟨fun wh pins s σ H Q I hw => q.run wh pins s σ H Q I ?_⟩
    obtain ⟨F, fps, sk, q⟩ := hw
    refine ⟨F, fps, sk, fun F1 fps1 H1 r1 => ?_⟩
    refine iteF ?_
    exact q F1 fps1 H1 r1
theorem t_or (ha : PTp Φ X a x) (hb : PWp Φ X b (.BoolOp .Or (y :: rest) pos)) : PWp Φ X (.or a b) (.BoolOp .Or (x :: y :: rest) pos) := by
  intro env env' r h
  simp only [evT, Option.bind_eq_bind, Option.bind_eq_some_iff] at h
  obtain ⟨⟨k, e1⟩, h1, h2⟩ := h
  cases k with
  | false =>
    simp only [Bool.false_eq_true, if_false] at h2
    have q := pw_or (ha _ _ _ h1) (hb _ _ _ h2)
    refine ⟨fun wh pins s σ H Q I hw => q.run wh pins s σ H Q I ?_⟩
    obtain ⟨F, fps, sk, q⟩ := hw
    refine ⟨F, fps, sk, fun F1 fps1 H1 r1 => ?_⟩
    refine iteF ?_
    exact ⟨F1, fps1, r1.sk, fun F2 fps2 H2 r2 => q F2 fps2 H2 (r1.seq r2)⟩
  | true =>
    simp only [if_true] at h2
    cases h2
    have q := pw_or (tB' := fun _ _ _ => False) (pos := pos) (b := y) (rest := rest) (ha _ _ _ h1) ⟨fun _ _ _ _ _ _ _ z => z.elim⟩
    refine ⟨fun wh pins s σ H Q I hw => q.run wh pins s σ H Q I ?_⟩
    obtain ⟨F, fps, sk, q⟩ := hw
    refine ⟨F, fps, sk, fun F1 fps1 H1 r1 => ?_⟩
    refine iteT ?_
    exact q F1 fps1 H1 r1
theorem t_one_and (ha : PTp Φ X a x) : PWp Φ X a (.BoolOp .And [x] pos) := fun env env' b h => pw_and1 (ha env env' b h)
theorem t_one_or (ha : PTp Φ X a x) : PWp Φ X a (.BoolOp .Or [x] pos) := fun env env' b h => pw_or1 (ha env env' b h)
theorem t_pw (h : PWp Φ X a x) : PTp Φ X a x := fun env env' b q => (h env env' b q).pt
theorem t_not (ha : PTp Φ X a x) : PTp Φ X (.not a) (.UnaryOp .Not x pos) := by
  intro env env' r h
  simp only [evT, Option.bind_eq_bind, Option.bind_eq_some_iff] at h
  obtain ⟨⟨k, e1⟩, h1, h2⟩ := h
  cases h2
  refine PT.weak (pt_not (ha _ _ _ h1)) fun σ H Q => ?_
  rintro ⟨F, fps, s, q⟩
  exact ⟨F, fps, s, fun F1 fps1 H1 r1 => q F1 fps1 H1 r1⟩
/-- by the truth of a value -/
theorem t_truth {k : Bool} {t : AV} {env env' : SEnv} {o : Opd} (hp : PE X x (TIo X.K env env' o)) (ho : look env' o = some t) (hf : strFit t.dat = true) (hd : ∀ q, t.dat = .dict q → False) (hk : truth t.dat = k)
    (he : ∀ whole, isTrue x X.env whole = (do let v ← whole; standAt x.pos; holding [v] (truthy v))) : PT X x (TIt X.K env env' k) := by
  refine PT.weak (pt_truth hp he) fun σ H Q => ?_
  rintro ⟨F, fps, s, q⟩
  refine ⟨F, fps, s, fun v F1 fps1 H1 fp r1 => ⟨k, ?_, q F1 fps1 H1 r1.drop⟩⟩
  obtain ⟨fq, tr⟩ := RVs.look1 r1.sk r1.rs ho
  have g := tr.datH r1.sk.sub
  rw [← hk]
  generalize t.dat = d at g hf hd
  cases g with
  | non => exact rfl
  | bl b => exact rfl
  | int i => exact rfl
  | str z =>
    refine ⟨fitL_le hf, ?_⟩
    show decide (z.length ≠ 0) = ((z.length : Int) != 0)
    cases h : z.length with
    | zero => rfl
    | succ n =>
      rw [bne_iff_ne.mpr (by omega : ((n + 1 : Nat) : Int) ≠ 0)]
      simp
  | lst h hs =>
    refine .inl ⟨_, h, ?_⟩
    cases hs <;> rfl
  | tup h hs =>
    refine .inr (.inl ⟨_, h, ?_⟩)
    cases hs <;> rfl
  | dct h hs e => exact (hd _ rfl).elim

/-! ### a if c else b -/
theorem s_ife (hc : PTp Φ X c z) (ha : PEp Φ X a x) (hb : PEp Φ X b y) : PEp Φ X (.ife c a b) (.IfExp z x y pos) := by
  intro env env' r h
  simp only [evE, Option.bind_eq_bind, Option.bind_eq_some_iff] at h
  obtain ⟨⟨k, e1⟩, h1, h2⟩ := h
  cases k with
  | true =>
    simp only [if_true] at h2
    refine PE.weak (pe_ifExp (tb := fun _ _ _ => False) (hc _ _ _ h1) (ha _ _ _ h2) ⟨fun _ _ _ _ _ _ z => z.elim⟩) fun σ H Q => ?_
    rintro ⟨F, fps, s, q⟩
    refine ⟨F, fps, s, fun F1 fps1 H1 r1 => ?_⟩
    refine iteT ?_
    exact ⟨F1, fps1, r1.sk, fun w F2 fps2 H2 fp2 r2 => q w F2 fps2 H2 fp2 (r1.seq r2)⟩
  | false =>
    simp only [Bool.false_eq_true, if_false] at h2
    refine PE.weak (pe_ifExp (ta := fun _ _ _ => False) (hc _ _ _ h1) ⟨fun _ _ _ _ _ _ z => z.elim⟩ (hb _ _ _ h2)) fun σ H Q => ?_
    rintro ⟨F, fps, s, q⟩
    refine ⟨F, fps, s, fun F1 fps1 H1 r1 => ?_⟩
    refine iteF ?_
    exact ⟨F1, fps1, r1.sk, fun w F2 fps2 H2 fp2 r2 => q w F2 fps2 H2 fp2 (r1.seq r2)⟩

/-! ### lists of expressions -/
theorem s_nilL : PAp Φ X .nil [] := by
  intro env env' os h
  simp only [evL] at h
  cases h
  refine PA.weak pa_nil fun σ H Q => ?_
  rintro ⟨F, fps, s, q⟩
  exact q [] F fps H [] s.start
theorem s_consL (ha : POp Φ X a x) (hb : PAp Φ X b es) (hs : starEach (x :: es) X.env = (false, eval x X.env) :: starEach es X.env) : PAp Φ X (.cons a b) (x :: es) := by
  intro env env' os h
  simp only [evL, Option.bind_eq_bind, Option.bind_eq_some_iff] at h
  obtain ⟨⟨o, e1⟩, h1, ⟨os2, e2⟩, h2, h3⟩ := h
  cases h3
  refine PA.weak (pa_cons (ha _ _ _ h1) (hb _ _ _ h2) hs) fun σ H Q => ?_
  rintro ⟨F, fps, s, q⟩
  exact ⟨F, fps, s, fun v F1 fps1 H1 fp1 r1 => ⟨F1, fps1, r1.sk, fun ws F2 fps2 H2 fp2 r2 => q (v :: ws) F2 fps2 H2 _ (r1.seq r2)⟩⟩
theorem s_nilA : PDp Φ X .nil [] := by
  intro env env' ts h
  simp only [evA] at h
  cases h
  refine PA.weak pa_nil fun σ H Q => ?_
  rintro ⟨F, fps, s, q⟩
  exact q [] F fps H [] s.start
theorem s_consA (ha : PEp Φ X a x) (hb : PDp Φ X b es) (hs : starEach (x :: es) X.env = (false, eval x X.env) :: starEach es X.env) : PDp Φ X (.cons a b) (x :: es) := by
  intro env env' ts h
  simp only [evA, Option.bind_eq_bind, Option.bind_eq_some_iff] at h
  obtain ⟨⟨o, e1⟩, h1, ⟨os2, e2⟩, h2, h3⟩ := h
  cases h3
  refine PA.weak (pa_cons (ha _ _ _ h1) (hb _ _ _ h2) hs) fun σ H Q => ?_
  rintro ⟨F, fps, s, q⟩
  exact ⟨F, fps, s, fun v F1 fps1 H1 fp1 r1 => ⟨F1, fps1, r1.sk, fun ws F2 fps2 H2 fp2 r2 => q (v :: ws) F2 fps2 H2 _ (r1.seq r2)⟩⟩
theorem ORs.vals {K : Frg} {F H : Hp} {σ : L2.St} : ∀ {ts : List AV} {vs : List V} {fp : List Addr}, ORs K F H σ vs (ts.map .val) fp → TRs K F H vs ts fp
  | [], _, _, .nil => .nil
  | _ :: _, _, _, .val h hs => .cons h (ORs.vals hs)
theorem mkTup_ok {K : Frg} {F H : Hp} {p : Addr} {vs : List V} {ts : List AV} {fp : List Addr} (hp : SqT K F p vs) (h : TRs K F H vs ts fp) : TR K F H (.ref p) (mkTup ts) fp := by
  unfold mkTup
  split
  · rename_i xs hx
    have := leafs_map hx
    subst this
    obtain ⟨h1, h2⟩ := h.leaf
    subst h2
    exact .d (.tup hp h1)
  · exact .tup hp h
theorem s_tup {k : Nat} (h : PDp Φ X a es) : PEp Φ X (.tup a) (.Tuple es k pos) := by
  intro env env' r he
  simp only [evE, Option.bind_eq_bind, Option.bind_eq_some_iff] at he
  obtain ⟨⟨ts, e1⟩, h1, h2⟩ := he
  simp only at h2
  split at h2
  · rename_i hf
    cases h2
    refine PE.weak (pe_tup (h _ _ _ h1)) fun σ H Q => ?_
    rintro ⟨F, fps, s, q⟩
    refine ⟨F, fps, s, fun vs F1 fps1 H1 fp1 r1 => ⟨?_, fun p hp => ?_⟩⟩
    · rw [r1.rs.length, List.length_map]
      exact fitL_le hf
    · have f0 := (fresh_own r1.sk hp).2
      refine q _ _ _ _ _ (r1.newT hp (fun _ m => m) r1.nd (mkTup_ok (.of upd_same) (r1.rs.vals.mono (.of fun x u e => ?_) fun x m u e => ?_)))
      · rw [upd_ne (ne_of_none e f0)]
        exact e
      · rw [upd_ne (ne_of_none e hp)]
        exact e
  · cases h2
theorem s_lst (h : PDp Φ X a es) : PEp Φ X (.lst a) (.List es pos) := by
  intro env env' r he
  simp only [evE, Option.bind_eq_bind, Option.bind_eq_some_iff] at he
  obtain ⟨⟨ts, e1⟩, h1, h2⟩ := he
  simp only at h2
  split at h2
  · rename_i hf
    cases h2
    refine PE.weak (pe_lst (h _ _ _ h1)) fun σ H Q => ?_
    rintro ⟨F, fps, s, q⟩
    refine ⟨F, fps, s, fun vs F1 fps1 H1 fp1 r1 => ⟨?_, fun p hp => ?_⟩⟩
    · rw [r1.rs.length, List.length_map]
      exact fitL_le hf
    · refine q _ _ _ _ _ (r1.new hp (fun _ m => m) r1.nd (.own upd_same (r1.rs.vals.mono (Ext.refl _) fun x m u e => ?_)))
      rw [upd_ne (ne_of_none e hp)]
      exact e
  · cases h2
theorem s_dnew : PEp Φ X .dnew (.Dict [] [] pos) := by
  intro env env' r he
  simp only [evE] at he
  cases he
  refine PE.weak pe_dnewK fun σ H Q => ?_
  rintro ⟨F, fps, s, q⟩
  exact fun p hp => q _ _ _ _ _ (s.start.new (fq := []) hp (fun _ m => nomatch m) List.nodup_nil (.odk upd_same rfl .nil))

/-! ### places, slices -/
theorem s_ix (O : Opx X) (ha : POp Φ X a x) (hb : POp Φ X b y) (hs : PlainIx y) : PEp Φ X (.ix a b) (.Subscript x y pos) := by
  intro env env' r h
  simp only [evE, Option.bind_eq_bind, Option.bind_eq_some_iff] at h
  obtain ⟨⟨oa, e1⟩, h1, ⟨ob, e2⟩, h2, ta, h3, tb, h4, t, h5, h6⟩ := h
  cases h6
  obtain ⟨d, rfl, R, hR, hk⟩ := ix_ok O h5
  refine PE.weak (pe_ix hR (ha _ _ _ h1) (hb _ _ _ h2) hs) (two_ok fun {σ F fps H v w F2 fps2 H2 fp} rv Q q => ?_)
  obtain ⟨⟨f1, r1⟩, f2, r2⟩ := rv.rs.split
  obtain ⟨g1, t1⟩ := RVs.look1 rv.sk r1 h3
  obtain ⟨g2, t2⟩ := RVs.look1 rv.sk r2 h4
  exact hk rv.sk.sub t1 t2 Q fun z hz => q _ _ _ _ (rv.dat hz)
/-- a part of a slice -/
def PPp (Φ : Phi) (X : Cx) (m : E) (e : Option Expr) : Prop := ∀ env env' o, evP Φ m env = some (o, env') → ∃ t, PO X e t ∧ ∀ σ H (Q : Option Int → Hp → Prop), (∃ F fps, SK X.K F fps σ H env ∧ ∀ F' fps' H', RVs X.K σ env' [] F fps H [] F' fps' H' [] → Q o H') → t σ H Q
theorem p_none : PPp Φ X .nil none := by
  intro env env' o h
  simp only [evP] at h
  cases h
  refine ⟨_, po_none, fun σ H Q => ?_⟩
  rintro ⟨F, fps, s, q⟩
  exact q _ _ _ s.start
theorem p_some (ha : PEp Φ X a x) : PPp Φ X (.cons a .nil) (some x) := by
  intro env env' o h
  simp only [evP, Option.bind_eq_bind, Option.bind_eq_some_iff] at h
  obtain ⟨⟨t, e1⟩, h1, h2⟩ := h
  simp only at h2
  split at h2
  · cases h2
    refine ⟨_, po_some (ha _ _ _ h1), fun σ H Q => ?_⟩
    rintro ⟨F, fps, s, q⟩
    exact ⟨F, fps, s, fun v F1 fps1 H1 fp1 r1 => ⟨_, r1.rs.one_inv.int, q _ _ _ r1.drop⟩⟩
  · cases h2
theorem s_slc {lo hi : E} {l u : Option Expr} {p2 : Pos} (ha : POp Φ X a x) (hl : PPp Φ X lo l) (hu : PPp Φ X hi u) : PEp Φ X (.slc a lo hi) (.Subscript x (.Slice l u none p2) pos) := by
  intro env env' r h
  simp only [evE, Option.bind_eq_bind, Option.bind_eq_some_iff] at h
  obtain ⟨⟨oa, e1⟩, h1, ⟨l', e2⟩, h2, ⟨u', e3⟩, h3, ta, h4, t, h5, h6⟩ := h
  cases h6
  obtain ⟨R, hR, hk⟩ := slc_ok (X := X) h5
  obtain ⟨tl, pl, wl⟩ := hl _ _ _ h2
  obtain ⟨tu, pu, wu⟩ := hu _ _ _ h3
  refine PE.weak (pe_slice hR (ha _ _ _ h1) pl pu) fun σ H Q => ?_
  rintro ⟨F, fps, s, q⟩
  refine ⟨F, fps, s, fun v F1 fps1 H1 fp1 r1 => wl _ _ _ ⟨F1, fps1, r1.sk, fun F2 fps2 H2 r2 => wu _ _ _ ⟨F2, fps2, r2.sk, fun F3 fps3 H3 r3 => ?_⟩⟩⟩
  have rv := (r1.seq r2).seq r3
  simp only [List.append_nil] at rv
  obtain ⟨g1, t1⟩ := RVs.look1 rv.sk rv.rs h4
  exact hk rv t1 Q fun z F4 H4 fq r4 => q _ _ _ _ _ r4

/-! ### calls of built-in functions -/
theorem bi_run (O : Opx X) {bb : Bi} {es' : List Expr} {nm : Str} {pp : Pos} {p : String × Bool} (hb : biN bb = some p) (hg : Gl X nm) (hm : X.mg nm = none) (hv : bootBuiltins nm = some (biVal p)) (ha : PAp Φ X a (x :: es)) (hn : nm ≠ "__name__") (hdb : (nm == ("__debug__" : Str)) = false)
    (he : starEach (x :: es) X.env = (false, eval x X.env) :: starEach es X.env) (hpl : (backTo pos (starEach es X.env)).any (·.1) = false) : PEp Φ X (.bi bb a) (.Call (.Name nm pp) (x :: es) [] pos) := by
  intro env env' r h
  simp only [evE, Option.bind_eq_bind, Option.bind_eq_some_iff] at h
  obtain ⟨⟨os, e1⟩, h1, ts, h2, t, h3, h4⟩ := h
  cases h4
  obtain ⟨R, hR, hk⟩ := bi_ok O hb h3
  have fin : ∀ σ H Q, TIe X.K env e1 r σ H Q → tCB R (TIa X.K env e1 os) σ H Q := fun σ H Q => by
    rintro ⟨F, fps, s, q⟩
    refine ⟨F, fps, s, fun vs F1 fps1 H1 fp1 r1 => ?_⟩
    obtain ⟨us, e2, e3, hu⟩ := RVs.looks r1.sk r1.rs h2
    rw [e2]
    exact hk r1 e3 hu Q fun z F3 H3 fq r3 => q _ _ _ _ _ r3
  unfold biVal at hR hv
  by_cases hp : p.2 = true
  · rw [if_pos hp] at hR hv
    exact PE.weak (pe_callB hR hg hm hv (ha _ _ _ h1) hn hdb he hpl) fin
  · rw [if_neg hp] at hR hv
    exact PE.weak (pe_callTy hR hg hm hv (ha _ _ _ h1) hn hdb he hpl) fin

end
end Mi
/-! Lists that change; calls. -/
namespace Mi
open PySem L2 PyProof.Rows

section
variable {K : Frg} {F H : Hp}
theorem TRs.splitAt : ∀ {ts us : List AV} {vs : List V} {fp : List Addr}, TRs K F H vs (ts ++ us) fp → ∃ vs1 vs2 f1 f2, vs = vs1 ++ vs2 ∧ fp = f1 ++ f2 ∧ TRs K F H vs1 ts f1 ∧ TRs K F H vs2 us f2
  | [], us, vs, fp, h => ⟨[], vs, [], fp, rfl, rfl, .nil, h⟩
  | t :: ts, us, _, _, .cons (fp := fa) (fq := fb) h hs => by
    obtain ⟨vs1, vs2, f1, f2, rfl, rfl, h1, h2⟩ := TRs.splitAt hs
    exact ⟨_ :: vs1, vs2, fa ++ f1, f2, rfl, (List.append_assoc ..).symm, .cons h h1, h2⟩
theorem TRs.one_inv {v : V} {t : AV} {fp : List Addr} (h : TRs K F H [v] [t] fp) : TR K F H v t fp := by
  cases h with
  | cons h hs =>
    cases hs
    rw [List.append_nil]
    exact h

/-- the object at the root of a slot changes -/
theorem SK.write {fps : Fps} {σ : L2.St} {env : SEnv} (s : SK K F fps σ H env) {i : Nat} {l : Addr} {f f2 : List Addr} {o' : HO} {t' : AV} (hv : σ[i]? = some (some (.ref l))) (hf : fps i = l :: f) (ht : TR K F (upd H l o') (.ref l) t' (l :: f2)) (nd : f2.Nodup)
    (hs : ∀ a ∈ f2, a ∈ f ∨ (F a = none ∧ ¬ ownd fps a)) : SK K F (fpsU fps i (l :: f2)) σ (upd H l o') (env.set i (some t')) := by
  have ml : l ∈ fps i := by rw [hf]; exact List.mem_cons_self
  have ne : ∀ j, j ≠ i → ∀ a ∈ fps j, a ≠ l := fun j hj a m z => hj (s.dis j i a m (by rw [z]; exact ml))
  have nl : l ∉ f2 := fun m => by
    rcases hs l m with z | z
    · have := s.nd i
      rw [hf] at this
      exact (List.nodup_cons.mp this).1 z
    · exact z.2 ⟨i, ml⟩
  have hsub : Ext F (upd H l o') := fun a u h => by
    have na : a ≠ l := fun z => by
      have := s.free i l ml
      rw [z] at h
      rcases h with h | ⟨ob, h⟩ <;> rw [this] at h <;> cases h
    rcases s.sub a u h with g | ⟨ob, g⟩
    · exact .inl (by rw [upd_ne na]; exact g)
    · exact .inr ⟨ob, by rw [upd_ne na]; exact g⟩
  have s2 : SK K F (fpsU fps i []) σ (upd H l o') (env.set i none) := by
    refine ⟨fun j u e => ?_, fun j => ?_, fun j k a h1 h2 => ?_, fun j a m => ?_, fun j a m => ?_, hsub, by rw [List.length_set]; exact s.len⟩
    · by_cases hj : j = i
      · subst hj
        exact (set_none_no e).elim
      · rw [List.getElem?_set_ne (Ne.symm hj)] at e
        obtain ⟨w, g1, g2⟩ := s.slot j u e
        refine ⟨w, g1, ?_⟩
        rw [fpsU_ne hj]
        refine g2.mono (Ext.refl F) fun a m o z => ?_
        rw [upd_ne (ne j hj a m)]
        exact z
    · by_cases hj : j = i
      · subst hj
        rw [fpsU_same]
        exact List.nodup_nil
      · rw [fpsU_ne hj]
        exact s.nd j
    · by_cases hj : j = i
      · subst hj
        rw [fpsU_same] at h1
        cases h1
      · by_cases hk : k = i
        · subst hk
          rw [fpsU_same] at h2
          cases h2
        · rw [fpsU_ne hj] at h1
          rw [fpsU_ne hk] at h2
          exact s.dis j k a h1 h2
    · by_cases hj : j = i
      · subst hj
        rw [fpsU_same] at m
        cases m
      · rw [fpsU_ne hj] at m
        exact s.free j a m
    · by_cases hj : j = i
      · subst hj
        rw [fpsU_same] at m
        cases m
      · rw [fpsU_ne hj] at m
        obtain ⟨u, g⟩ := s.there j a m
        exact ⟨u, by rw [upd_ne (ne j hj a m)]; exact g⟩
  have e1 : (env.set i none).set i (some t') = env.set i (some t') := List.set_set ..
  have e2 : fpsU (fpsU fps i []) i (l :: f2) = fpsU fps i (l :: f2) := by
    funext j
    unfold fpsU
    split <;> rfl
  rw [← e1, ← e2]
  refine s2.put hv ht (List.nodup_cons.mpr ⟨nl, nd⟩) fun a m => ?_
  rcases List.mem_cons.mp m with rfl | m
  · exact ⟨s.free i a ml, fun ⟨j, mj⟩ => by
      by_cases hj : j = i
      · subst hj
        rw [fpsU_same] at mj
        cases mj
      · rw [fpsU_ne hj] at mj
        exact hj (s.dis j i a mj ml)⟩
  · rcases hs a m with z | z
    · have mi : a ∈ fps i := by rw [hf]; exact List.mem_cons_of_mem _ z
      exact ⟨s.free i a mi, fun ⟨j, mj⟩ => by
        by_cases hj : j = i
        · subst hj
          rw [fpsU_same] at mj
          cases mj
        · rw [fpsU_ne hj] at mj
          exact hj (s.dis j i a mj mi)⟩
    · exact ⟨z.1, fun y => z.2 ((ownd_put y).elim id fun m => nomatch m)⟩
theorem Step.write {fps : Fps} {i : Nat} {l : Addr} {f2 : List Addr} {o' : HO} {P : Addr → Prop} (ml : l ∈ fps i) (h : ∀ a ∈ f2, ownd fps a ∨ P a) : Step F (fun a => ownd fps a ∨ P a) H F (ownd (fpsU fps i (l :: f2))) (upd H l o') := by
  refine ⟨Ext.refl F, fun a u e n => ?_, fun a e => .inl e, fun a m => .inl ?_⟩
  · have : a ≠ l := fun z => n (.inl ⟨i, by rw [z]; exact ml⟩)
    rw [upd_ne this]
    exact e
  · rcases ownd_put m with m | m
    · exact .inl m
    · rcases List.mem_cons.mp m with rfl | m
      · exact .inl ⟨i, ml⟩
      · exact h a m
/-- an owned list in a slot -/
theorem SK.list {fps : Fps} {σ : L2.St} {env : SEnv} (s : SK K F fps σ H env) {i : Nat} {ts : List AV} (e : getv env i = some (.own ts)) : ∃ l vs f, σ[i]? = some (some (.ref l)) ∧ fps i = l :: f ∧ H l = some (.lst vs) ∧ TRs K F H vs ts f ∧ f.Nodup ∧ l ∉ f := by
  obtain ⟨v, h1, h2⟩ := s.slot i _ (getv_some e)
  have nd := s.nd i
  generalize hq : fps i = q at h2 nd
  cases h2 with
  | own h hs => exact ⟨_, _, _, h1, rfl, h, hs, (List.nodup_cons.mp nd).2, (List.nodup_cons.mp nd).1⟩
theorem SK.dict {fps : Fps} {σ : L2.St} {env : SEnv} (s : SK K F fps σ H env) {i : Nat} {ks : List Key} {ts : List AV} (e : getv env i = some (.odk ks ts)) : ∃ l kvs f, σ[i]? = some (some (.ref l)) ∧ fps i = l :: f ∧ H l = some (.dK kvs) ∧ kvs.map (·.1) = ks ∧ TRs K F H (kvs.map (·.2)) ts f ∧ f.Nodup ∧ l ∉ f := by
  obtain ⟨v, h1, h2⟩ := s.slot i _ (getv_some e)
  have nd := s.nd i
  generalize hq : fps i = q at h2 nd
  cases h2 with
  | odk h hk hs => exact ⟨_, _, _, h1, rfl, h, hk, hs, (List.nodup_cons.mp nd).2, (List.nodup_cons.mp nd).1⟩
/-- the parts of an owned object stand when its root is written -/
theorem TRs.off {vs : List V} {ts : List AV} {f : List Addr} {l : Addr} {o : HO} (h : TRs K F H vs ts f) (n : l ∉ f) : TRs K F (upd H l o) vs ts f := h.mono (Ext.refl F) fun a m u e => by
  rw [upd_ne fun z => n (by rw [← z]; exact m)]
  exact e
theorem TR.off {v : V} {t : AV} {f : List Addr} {l : Addr} {o : HO} (h : TR K F H v t f) (n : l ∉ f) : TR K F (upd H l o) v t f := h.mono (Ext.refl F) fun a m u e => by
  rw [upd_ne fun z => n (by rw [← z]; exact m)]
  exact e
end

section
variable {Φ : Phi} {X : Cx} {m a b c : E} {e x y z : Expr} {es rest : List Expr} {pos apos cpos np : Pos} {i : Nat} {nm : Str}

/-! ### pop -/
theorem s_pop (hN : X.N[i]? = some nm) (hv : Vis X.env.scope nm) (hd : (nm == ("__debug__" : Str)) = false) (hc : (nm == ("__classdict__" : Str)) = false) (hl : (apos.endLine == cpos.line) = true) : PEp Φ X (.pop i) (.Call (.Attribute (.Name nm np) "pop" apos) [] [] cpos) := by
  intro env env' r h
  simp only [evE] at h
  split at h
  · rename_i ts ht
    split at h
    · rename_i t hlast
      cases h
      have pm : MtR X "list.pop" rPop := mt_pop
      refine PE.weak (pe_bm0 PySem.F.plainAttrs_list PySem.F.slot_list_pop PySem.F.type_list_pop pm (pe_var hN hv hd hc) rfl hl) fun σ H Q => ?_
      rintro ⟨F, fps, s, q⟩
      obtain ⟨l, vs, f, h1, h2, h3, h4, h5, h6⟩ := s.list ht
      have hts : ts = ts.dropLast ++ [r] := by
        have hne : ts ≠ [] := fun z => by rw [z] at hlast; simp at hlast
        have e1 := List.dropLast_concat_getLast hne
        rw [List.getLast?_eq_some_getLast hne] at hlast
        rw [← Option.some.inj hlast]
        exact e1.symm
      rw [hts] at h4
      obtain ⟨vs1, vs2, f1, f2, rfl, rfl, g1, g2⟩ := h4.splitAt
      have hl2 := g2.length
      match vs2, hl2, g2 with
      | [v], _, g2 =>
        have n1 : l ∉ f1 := fun z => h6 (List.mem_append_left _ z)
        have n2 : l ∉ f2 := fun z => h6 (List.mem_append_right _ z)
        refine ⟨_, h1, .inl ⟨rfl, _, .of h3⟩, l, vs1 ++ [v], v, rfl, rfl, h3, by simp, ?_⟩
        rw [List.dropLast_concat]
        have nd1 := (List.nodup_append.mp h5).1
        have nd2 := (List.nodup_append.mp h5).2.1
        have dj : ∀ x ∈ f1, x ∉ f2 := fun x hx hy => (List.nodup_append.mp h5).2.2 x hx x hy rfl
        refine q v F (fpsU fps i (l :: f1)) (upd H l (.lst vs1)) f2 ⟨s.write h1 h2 (.own upd_same (g1.off n1)) nd1 fun a m => .inl (List.mem_append_left _ m), .one (g2.one_inv.off n2), nd2, fun a m => ?_, ?_⟩
        · have mi : a ∈ fps i := by rw [h2]; exact List.mem_cons_of_mem _ (List.mem_append_right _ m)
          refine ⟨s.free i a mi, fun ⟨j, mj⟩ => ?_⟩
          by_cases hj : j = i
          · subst hj
            rw [fpsU_same] at mj
            rcases List.mem_cons.mp mj with rfl | mj
            · exact n2 m
            · exact dj a mj m
          · rw [fpsU_ne hj] at mj
            exact hj (s.dis j i a mj mi)
        · have ml : l ∈ fps i := by rw [h2]; exact List.mem_cons_self
          have mf : ∀ a ∈ f1 ++ f2, ownd fps a := fun a m => ⟨i, by rw [h2]; exact List.mem_cons_of_mem _ m⟩
          refine ⟨Ext.refl F, fun a u e n => ?_, fun a e => .inl e, fun a m => .inl ?_⟩
          · have : a ≠ l := fun z => n ⟨i, by rw [z]; exact ml⟩
            rw [upd_ne this]
            exact e
          · rcases m with m | m
            · rcases ownd_put m with m | m
              · exact m
              · rcases List.mem_cons.mp m with rfl | m
                · exact ⟨i, ml⟩
                · exact mf a (List.mem_append_left _ m)
            · exact mf a (List.mem_append_right _ m)
    · cases h
  · cases h
theorem ixN_lt {n : Nat} {k : Int} {j : Nat} (h : ixN n k = some j) : j < n := (ixN_seq h).2.1
end

section
variable {K : Frg} {F H : Hp}
theorem TRs.cut {vs : List V} {ts : List AV} {fp : List Addr} (h : TRs K F H vs ts fp) {j : Nat} {u : AV} (hj : ts[j]? = some u) : ∃ y f1 f2 f3, vs[j]? = some y ∧ fp = f1 ++ (f2 ++ f3) ∧ TRs K F H (vs.take j) (ts.take j) f1 ∧ TR K F H y u f2 ∧ TRs K F H (vs.drop (j + 1)) (ts.drop (j + 1)) f3 := by
  have hlt : j < ts.length := by
    rcases Nat.lt_or_ge j ts.length with h | h
    · exact h
    · rw [List.getElem?_eq_none h] at hj
      cases hj
  have hu : ts[j] = u := by
    rw [List.getElem?_eq_getElem hlt] at hj
    exact Option.some.inj hj
  have hts : ts = ts.take j ++ u :: ts.drop (j + 1) := by
    rw [← hu, List.getElem_cons_drop, List.take_append_drop]
  rw [hts] at h
  obtain ⟨vs1, vs2, f1, f2, rfl, rfl, g1, g2⟩ := h.splitAt
  have hl1 : vs1.length = j := by
    rw [g1.length, List.length_take]
    omega
  cases g2 with
  | cons ga gb =>
    rename_i y vs3 fa fb
    refine ⟨y, f1, fa, fb, ?_, rfl, ?_, ga, ?_⟩
    · rw [List.getElem?_append_right (by omega), hl1, Nat.sub_self]
      rfl
    · rw [List.take_left' hl1]
      exact g1
    · have : (vs1 ++ y :: vs3).drop (j + 1) = vs3 := by
        rw [List.drop_append, hl1, show j + 1 - j = 1 by omega, List.drop_eq_nil_of_le (by omega)]
        rfl
      rw [this]
      exact gb
/-- an item leaves the list in a slot -/
theorem SK.popAt {fps : Fps} {σ : L2.St} {env : SEnv} (s : SK K F fps σ H env) {i : Nat} {ts : List AV} (e : getv env i = some (.own ts)) {j : Nat} {u : AV} (hj : ts[j]? = some u) :
    ∃ l vs y fps' fq, σ[i]? = some (some (.ref l)) ∧ H l = some (.lst vs) ∧ vs.length = ts.length ∧ vs[j]? = some y ∧ RVs K σ (env.set i (some (.own (ts.eraseIdx j)))) [.val u] F fps H [y] F fps' (upd H l (.lst (vs.eraseIdx j))) fq := by
  obtain ⟨l, vs, f, h1, h2, h3, h4, h5, h6⟩ := s.list e
  obtain ⟨y, f1, f2, f3, g0, rfl, g1, g2, g3⟩ := h4.cut hj
  have n2 : l ∉ f2 := fun z => h6 (List.mem_append_right _ (List.mem_append_left _ z))
  have nd23 := (List.nodup_append.mp h5).2.1
  have nd2 := (List.nodup_append.mp nd23).1
  have d12 : ∀ x ∈ f1, x ∉ f2 ++ f3 := fun x hx hy => (List.nodup_append.mp h5).2.2 x hx x hy rfl
  have d23 : ∀ x ∈ f2, x ∉ f3 := fun x hx hy => (List.nodup_append.mp nd23).2.2 x hx x hy rfl
  have nd13 : (f1 ++ f3).Nodup := List.nodup_append.mpr ⟨(List.nodup_append.mp h5).1, (List.nodup_append.mp nd23).2.1, fun x hx w hw z => d12 x hx (List.mem_append_right _ (z ▸ hw))⟩
  have sub13 : ∀ a ∈ f1 ++ f3, a ∈ f1 ++ (f2 ++ f3) := fun a m => by
    rcases List.mem_append.mp m with m | m
    · exact List.mem_append_left _ m
    · exact List.mem_append_right _ (List.mem_append_right _ m)
  have n13 : l ∉ f1 ++ f3 := fun z => h6 (sub13 l z)
  have d2 : ∀ x ∈ f2, x ∉ f1 ++ f3 := fun x hx hy => by
    rcases List.mem_append.mp hy with hy | hy
    · exact d12 x hy (List.mem_append_left _ hx)
    · exact d23 x hx hy
  refine ⟨l, vs, y, fpsU fps i (l :: (f1 ++ f3)), f2, h1, h3, h4.length, g0, ?_, .one (g2.off n2), nd2, fun a m => ?_, ?_⟩
  · refine s.write h1 h2 (.own upd_same ?_) nd13 fun a m => .inl (sub13 a m)
    rw [List.eraseIdx_eq_take_drop_succ, List.eraseIdx_eq_take_drop_succ]
    exact (g1.append g3).off n13
  · have mi : a ∈ fps i := by rw [h2]; exact List.mem_cons_of_mem _ (List.mem_append_right _ (List.mem_append_left _ m))
    refine ⟨s.free i a mi, fun ⟨k, mq⟩ => ?_⟩
    by_cases hk : k = i
    · subst hk
      rw [fpsU_same] at mq
      rcases List.mem_cons.mp mq with rfl | mq
      · exact n2 m
      · exact d2 a m mq
    · rw [fpsU_ne hk] at mq
      exact hk (s.dis k i a mq mi)
  · have ml : l ∈ fps i := by rw [h2]; exact List.mem_cons_self
    have mf : ∀ a ∈ f1 ++ (f2 ++ f3), ownd fps a := fun a m => ⟨i, by rw [h2]; exact List.mem_cons_of_mem _ m⟩
    refine ⟨Ext.refl F, fun a u e n => ?_, fun a e => .inl e, fun a m => .inl ?_⟩
    · have : a ≠ l := fun z => n ⟨i, by rw [z]; exact ml⟩
      rw [upd_ne this]
      exact e
    · rcases m with m | m
      · rcases ownd_put m with m | m
        · exact m
        · rcases List.mem_cons.mp m with rfl | m
          · exact ⟨i, ml⟩
          · exact mf a (sub13 a m)
      · exact mf a (List.mem_append_right _ (List.mem_append_left _ m))
theorem SK.ownTy {fps : Fps} {σ : L2.St} {env : SEnv} (s : SK K F fps σ H env) {i : Nat} (h : isOwn (getv env i) = true) : ∃ l, σ[i]? = some (some (.ref l)) ∧ tyV K "list" (.ref l) H := by
  cases e : getv env i with
  | none => rw [e] at h; cases h
  | some t =>
    rw [e] at h
    cases t with
    | own ts =>
      obtain ⟨l, vs, f, h1, h2, h3, _⟩ := s.list e
      exact ⟨l, h1, .inl ⟨rfl, _, .of h3⟩⟩
    | _ => cases h
end

section
variable {Φ : Phi} {X : Cx} {m a b c : E} {e x y z : Expr} {es rest : List Expr} {pos apos cpos np : Pos} {i : Nat} {nm : Str}
theorem s_popi (ha : PEp Φ X a x) (hN : X.N[i]? = some nm) (hv : Vis X.env.scope nm) (hd : (nm == ("__debug__" : Str)) = false) (hc : (nm == ("__classdict__" : Str)) = false) (hl : (apos.endLine == cpos.line) = true)
    (hs : starEach [x] X.env = [(false, eval x X.env)]) : PEp Φ X (.popi i a) (.Call (.Attribute (.Name nm np) "pop" apos) [x] [] cpos) := by
  intro env env' r h
  simp only [evE] at h
  split at h
  · rename_i how
    simp only [Option.bind_eq_bind, Option.bind_eq_some_iff] at h
    obtain ⟨⟨t, e1⟩, h1, h⟩ := h
    simp only at h
    split at h
    · rename_i k ts ht
      split at h
      · rename_i j hj
        split at hj
        · rename_i hk
          split at h
          · rename_i u hu
            cases h
            have hk' := of_decide_eq_true hk
            have pm : MtR X "list.pop" rPopAt := mt_popAt
            refine PE.weak (pe_bm PySem.F.plainAttrs_list PySem.F.slot_list_pop PySem.F.type_list_pop pm (pe_var hN hv hd hc) (pa_cons (ha _ _ _ h1) pa_nil hs) rfl (by rw [hs]; rfl) hl hs rfl) fun σ H Q => ?_
            rintro ⟨F, fps, s, q⟩
            -- the receiver is known before the place is reckoned
            obtain ⟨l, hv1, hv2⟩ := s.ownTy how
            refine ⟨.ref l, hv1, hv2, F, fps, s, fun w F1 fps1 H1 fp1 r1 => ?_⟩
            obtain ⟨l', vs, y, fps2, fq, g1, g2, g3, g4, g5⟩ := r1.sk.popAt ht hu
            rw [hv1] at g1
            cases g1
            have hw := r1.rs.one_inv.int
            subst hw
            refine ⟨l, vs, k, j, y, rfl, rfl, g2, by omega, by omega, ?_, g4, q _ _ _ _ _ (r1.drop.seq g5)⟩
            rw [g3]
            exact (ixN_seq hj).1
          · cases h
        · cases hj
      · cases h
    · cases h
  · cases h

/-! ### look-ups -/
theorem TR.isD {K : Frg} {F H : Hp} {v : V} {t : AV} {fp : List Addr} {k : Key} {r : Option AV} (s : Ext F H) (h : TR K F H v t fp) (e : t.at? k = some r) : ∃ a, v = .ref a ∧ IsD H a := by
  cases h with
  | d h =>
    cases h with
    | dct hd hs hp => exact ⟨_, rfl, .inl ⟨_, s _ _ hd⟩⟩
    | _ => simp [AV.at?] at e
  | odk hd hk hs => exact ⟨_, rfl, .inl ⟨_, .inl hd⟩⟩
  | own _ _ => simp [AV.at?] at e
  | tup _ _ => simp [AV.at?] at e
theorem TR.isDi {K : Frg} {F H : Hp} {v : V} {t : AV} {fp : List Addr} (s : Ext F H) (h : TR K F H v t fp) (e : t.isDi = true) : ∃ a, v = .ref a ∧ IsD H a := by
  refine h.isD (k := .inl 0) (r := ?_) s ?_
  · exact (t.at? (.inl 0)).getD none
  · cases t with
    | d x => cases x <;> first | rfl | cases e
    | odk ks ts => rfl
    | own ts => cases e
    | tup ts => cases e
theorem s_get1 (O : Opx X) (ha : POp Φ X a x) (hb : PEp Φ X b y) (hM : M1 X x "get" apos y cpos) : PEp Φ X (.get1 a b) (.Call (.Attribute x "get" apos) [y] [] cpos) := by
  have hu := O.un
  intro env env' r h
  simp only [evE, Option.bind_eq_bind, Option.bind_eq_some_iff] at h
  obtain ⟨⟨oa, e1⟩, h1, h⟩ := h
  simp only at h
  obtain ⟨t0, h0, h⟩ := h
  split at h
  · rename_i hdi
    simp only [Option.bind_eq_some_iff] at h
    obtain ⟨⟨t, e2⟩, h2, key, h3, ta, h4, o, h5, h6⟩ := h
    refine PE.weak (pe_dget1 (by omega) (ha _ _ _ h1) (hb _ _ _ h2) hM) fun σ H Q => ?_
    rintro ⟨F, fps, s, q⟩
    refine ⟨F, fps, s, fun v F1 fps1 H1 fp1 r1 => ?_⟩
    obtain ⟨g0, t0'⟩ := RVs.look1 r1.sk r1.rs h0
    obtain ⟨p, rfl, hp⟩ := t0'.isDi r1.sk.sub hdi
    refine ⟨p, rfl, hp, F1, fps1, r1.sk, fun w F2 fps2 H2 fp2 r2 => ?_⟩
    have rv := r1.seq r2
    obtain ⟨⟨f1, q1⟩, f2, q2⟩ := rv.rs.split
    obtain ⟨g1, t1⟩ := RVs.look1 rv.sk q1 h4
    have hw := keyOf_rp (r2.rs.one_inv.datH r2.sk.sub) h3
    subst hw
    obtain ⟨p', o', e1', g, h7⟩ := t1.at rv.sk.sub h5
    cases e1'
    rcases h7 with ⟨rfl, rfl⟩ | ⟨w, u, fq, rfl, rfl, h8⟩
    · simp only at h6
      cases h6
      exact ⟨_, g, q _ _ _ _ _ (rv.dat .non)⟩
    · cases u with
      | d y =>
        simp only at h6
        cases h6
        exact ⟨_, g, q _ _ _ _ _ (rv.dat h8.rp)⟩
      | own _ => cases h6
      | odk _ _ => cases h6
      | tup _ => cases h6
  · cases h
theorem s_get2 (O : Opx X) (ha : POp Φ X a x) (hb : PEp Φ X b y) (hc : PEp Φ X c z) (hM : M2 X x "get" apos y z cpos) : PEp Φ X (.get2 a b c) (.Call (.Attribute x "get" apos) [y, z] [] cpos) := by
  have hu := O.un
  intro env env' r h
  simp only [evE, Option.bind_eq_bind, Option.bind_eq_some_iff] at h
  obtain ⟨⟨oa, e1⟩, h1, h⟩ := h
  simp only at h
  obtain ⟨t0, h0, h⟩ := h
  split at h
  · rename_i hdi
    simp only [Option.bind_eq_some_iff] at h
    obtain ⟨⟨t, e2⟩, h2, ⟨d, e3⟩, hd, key, h3, ta, h4, o, h5, h6⟩ := h
    refine PE.weak (pe_dget2 (by omega) (ha _ _ _ h1) (hb _ _ _ h2) (hc _ _ _ hd) hM) fun σ H Q => ?_
    rintro ⟨F, fps, s, q⟩
    refine ⟨F, fps, s, fun v F1 fps1 H1 fp1 r1 => ?_⟩
    obtain ⟨g0, t0'⟩ := RVs.look1 r1.sk r1.rs h0
    obtain ⟨p, rfl, hp⟩ := t0'.isDi r1.sk.sub hdi
    refine ⟨p, rfl, hp, F1, fps1, r1.sk, fun w F2 fps2 H2 fp2 r2 => ⟨F2, fps2, r2.sk, fun u F3 fps3 H3 fp3 r3 => ?_⟩⟩
    have rv := (r1.seq r2).seq r3
    obtain ⟨⟨f1, q1⟩, f2, q2⟩ := ORs.cons_split rv.rs
    obtain ⟨g1, t1⟩ := RVs.look1 rv.sk q1 h4
    have hw := keyOf_rp (r2.rs.one_inv.datH r2.sk.sub) h3
    subst hw
    obtain ⟨p', o', e1', g, h7⟩ := t1.at rv.sk.sub h5
    cases e1'
    rcases h7 with ⟨rfl, rfl⟩ | ⟨w, u', fq, rfl, rfl, h8⟩
    · simp only at h6
      cases h6
      exact ⟨_, g, q _ _ _ _ _ ((r1.seq r2).drop.seq r3)⟩
    · cases u' with
      | d y =>
        simp only at h6
        cases h6
        exact ⟨_, g, q _ _ _ _ _ (rv.dat h8.rp)⟩
      | own _ => cases h6
      | odk _ _ => cases h6
      | tup _ => cases h6
  · cases h

/-! ### isinstance -/
theorem RelV.ty (n : String) : RelV (.ty n) (.type n) := rfl
/-- a class by its name, or a tuple of classes by their names -/
theorem s_isi1 {p : PTy} {tn : Str} {tp np2 : Pos} (ha : POp Φ X a x) (hg : Gl X "isinstance") (hm : X.mg "isinstance" = none) (hg2 : Gl X tn) (hm2 : X.mg tn = none) (hv2 : bootBuiltins tn = some (.type (tyP p))) (hn2 : tn ≠ "__name__") (hd2 : (tn == ("__debug__" : Str)) = false)
    (hs : starEach [x, .Name tn tp] X.env = (false, eval x X.env) :: starEach [.Name tn tp] X.env) (hs2 : starEach [.Name tn tp] X.env = [(false, eval (.Name tn tp) X.env)]) : PEp Φ X (.isi a [p]) (.Call (.Name "isinstance" np2) [x, .Name tn tp] [] pos) := by
  intro env env' r h
  simp only [evE, Option.bind_eq_bind, Option.bind_eq_some_iff] at h
  obtain ⟨⟨oa, e1⟩, h1, t, h2, h3⟩ := h
  cases h3
  refine PE.weak (pe_callB call_isi hg hm (by rfl) (pa_cons (ha _ _ _ h1) (pa_cons (pe_bltn hg2 hm2 hv2 (RelV.ty _) hn2 hd2) pa_nil hs2) hs) (by decide) (by decide) hs (by rw [hs2]; rfl)) fun σ H Q => ?_
  rintro ⟨F, fps, s, q⟩
  refine ⟨F, fps, s, fun v F1 fps1 H1 fp1 r1 => ?_⟩
  obtain ⟨g0, t0'⟩ := RVs.look1 r1.sk r1.rs h2
  refine ⟨v, .ty (tyP p), .type (tyD t.dat), .type (tyP p), isiD p t.dat, rfl, .ty _, (t0'.datH r1.sk.sub).ty, kit_ty (kit_isi p t.dat), ?_⟩
  have e : ([p].any fun p => isiD p t.dat) = isiD p t.dat := by simp
  rw [e] at q
  exact q _ _ _ _ _ (r1.dat (.bl (isiD p t.dat)))
theorem isi_names : ∀ {ps : List PTy} {es : List Expr}, (∀ q ∈ ps.zip es, ∃ tn tp, q.2 = .Name tn tp ∧ Gl X tn ∧ X.mg tn = none ∧ bootBuiltins tn = some (.type (tyP q.1)) ∧ tn ≠ "__name__" ∧ (tn == ("__debug__" : Str)) = false) → ps.length = es.length →
    (∀ e es', starEach (e :: es') X.env = (false, eval e X.env) :: starEach es' X.env ∨ ¬ ∃ n p, e = .Name n p) → PA X es (fun σ H Q => Q (ps.map fun p => .ty (tyP p)) H)
  | [], [], _, _, _ => pa_nil
  | p :: ps, e :: es, h, hl, hs => by
    obtain ⟨tn, tp, e1, h1, h2, h3, h4, h5⟩ := h (p, e) List.mem_cons_self
    simp only at e1
    subst e1
    have q := isi_names (ps := ps) (es := es) (fun q m => h q (List.mem_cons_of_mem _ m)) (by simpa using hl) hs
    exact pa_cons (pe_bltn h1 h2 h3 (RelV.ty _) h4 h5) q ((hs _ _).resolve_right fun z => z ⟨_, _, rfl⟩)
  | [], _ :: _, _, hl, _ => by cases hl
  | _ :: _, [], _, hl, _ => by cases hl
theorem cls_all : ∀ ps : List PTy, Paired ClsV (ps.map fun p => V.ty (tyP p)) (ps.map fun p => Value.type (tyP p))
  | [] => .nil
  | p :: ps => .cons (.ty _) (cls_all ps)
theorem s_isiT {ps : List PTy} {k : Nat} {tp np2 : Pos} (ha : POp Φ X a x) (hg : Gl X "isinstance") (hm : X.mg "isinstance" = none) (hps : PA X es (fun σ H Q => Q (ps.map fun p => .ty (tyP p)) H)) (hfew : ps.length ≤ sizeLine)
    (hs : starEach [x, .Tuple es k tp] X.env = (false, eval x X.env) :: starEach [.Tuple es k tp] X.env) (hs2 : starEach [.Tuple es k tp] X.env = [(false, eval (.Tuple es k tp) X.env)]) : PEp Φ X (.isi a ps) (.Call (.Name "isinstance" np2) [x, .Tuple es k tp] [] pos) := by
  intro env env' r h
  simp only [evE, Option.bind_eq_bind, Option.bind_eq_some_iff] at h
  obtain ⟨⟨oa, e1⟩, h1, t, h2, h3⟩ := h
  cases h3
  refine PE.weak (pe_callB call_isiT hg hm (by rfl) (pa_cons (ha _ _ _ h1) (pa_cons (pe_tup hps) pa_nil hs2) hs) (by decide) (by decide) hs (by rw [hs2]; rfl)) fun σ H Q => ?_
  rintro ⟨F, fps, s, q⟩
  refine ⟨F, fps, s, fun v F1 fps1 H1 fp1 r1 => ⟨by rw [List.length_map]; exact hfew, fun p hp => ?_⟩⟩
  have r2 := (r1.seq (r1.sk.start)).junk (o := .tup (ps.map fun p => .ty (tyP p))) hp
  obtain ⟨g0, t0'⟩ := RVs.look1 r1.sk r1.rs h2
  have ex : Ext H1 (upd H1 p (.tup (ps.map fun p => .ty (tyP p)))) := .of fun a u e => by
    rw [upd_ne (ne_of_none e hp)]
    exact e
  refine ⟨v, p, _, .type (tyD t.dat), _, _, rfl, upd_same, cls_all ps, ((t0'.datH r1.sk.sub).mono ex).ty, kitAny_isi t.dat ps, ?_⟩
  exact q _ _ _ _ _ (r2.dat (.bl _))

/-! ### sorted(set(..)), repr([..]) -/
theorem mapM_one {α β : Type} {f : α → Option β} {o : α} {ts : List β} (h : [o].mapM f = some ts) : ∃ t, f o = some t ∧ ts = [t] := by
  rw [List.mapM_cons] at h
  cases q : f o with
  | none => rw [q] at h; simp at h
  | some t =>
    rw [q] at h
    exact ⟨t, rfl, by simpa using h.symm⟩
theorem s_sset {p1 p2 p3 : Pos} (O : Opx X) (ha : PAp Φ X a [x]) (g1 : Gl X "sorted") (m1 : X.mg "sorted" = none) (g2 : Gl X "set") (m2 : X.mg "set" = none)
    (h1 : starEach [x] X.env = [(false, eval x X.env)]) (h2 : starEach [.Call (.Name "set" p2) [x] [] p3] X.env = [(false, eval (.Call (.Name "set" p2) [x] [] p3) X.env)]) : PEp Φ X (.bi .sset a) (.Call (.Name "sorted" p1) [.Call (.Name "set" p2) [x] [] p3] [] pos) := by
  intro env env' r h
  simp only [evE, Option.bind_eq_bind, Option.bind_eq_some_iff] at h
  obtain ⟨⟨os, e1⟩, h3, ts, h6, t, h7, h8⟩ := h
  cases h8
  have one : ∃ ta, ts = [ta] := by
    cases ts with
    | nil => simp [biV] at h7
    | cons ta r =>
      cases r with
      | nil => exact ⟨ta, rfl⟩
      | cons tb r => simp [biV] at h7
  obtain ⟨ta, rfl⟩ := one
  obtain ⟨r1, r2, c1, c2, hk⟩ := sset_ok O h7
  refine PE.weak (pe_callB c2 g1 m1 (by rfl) (pa_cons (pe_callTy c1 g2 m2 (by rfl) (ha _ _ _ h3) (by decide) (by decide) h1 (by rfl)) pa_nil h2) (by decide) (by decide) h2 (by rfl)) fun σ H Q => ?_
  rintro ⟨F, fps, s, q⟩
  refine ⟨F, fps, s, fun vs F1 fps1 H1 fp1 rv => ?_⟩
  obtain ⟨us, e2, e3, hu⟩ := RVs.looks rv.sk rv.rs h6
  match us, e3 with
  | [u], e3 =>
    have e3' : ta = u.2 := by simpa using e3
    obtain ⟨fq, tu⟩ := hu u List.mem_cons_self
    rw [e2]
    rw [← e3'] at tu
    exact hk rv tu Q fun z F3 H3 fq r3 => q _ _ _ _ _ r3
theorem datL_map : ∀ us : List (V × AV), datL (us.map (·.2)) = us.map fun u => u.2.dat
  | [] => rfl
  | u :: us => by
    show AV.dat u.2 :: datL (us.map (·.2)) = _
    rw [datL_map us]
    rfl
theorem s_repL {p1 p2 : Pos} (O : Opx X) (ha : PAp Φ X a es) (g1 : Gl X "repr") (m1 : X.mg "repr" = none) (h2 : starEach [.List es p2] X.env = [(false, eval (.List es p2) X.env)]) : PEp Φ X (.repL a) (.Call (.Name "repr" p1) [.List es p2] [] pos) := by
  intro env env' r h
  simp only [evE, Option.bind_eq_bind, Option.bind_eq_some_iff] at h
  obtain ⟨⟨os, e1⟩, h3, ts, h4, h5⟩ := h
  split at h5
  · rename_i hf
    obtain ⟨y, h6, h7⟩ := Option.map_eq_some_iff.mp h5
    cases h7
    unfold reprV at h6
    split at h6
    · rename_i hok
      cases h6
      refine PE.weak (pe_callB (cr_reprD O) g1 m1 (by rfl) (pa_cons (pe_lst (ha _ _ _ h3)) pa_nil h2) (by decide) (by decide) h2 (by rfl)) fun σ H Q => ?_
      rintro ⟨F, fps, s, q⟩
      refine ⟨F, fps, s, fun vs F1 fps1 H1 fp1 rv => ?_⟩
      obtain ⟨us, e2, e3, hu⟩ := RVs.looks rv.sk rv.rs h4
      have hlen : vs.length = ts.length := by rw [e2, e3, List.length_map, List.length_map]
      refine ⟨by rw [hlen]; exact fitL_le hf, fun p hp => ?_⟩
      have ex : Ext H1 (upd H1 p (.lst vs)) := .of fun a u e => by
        rw [upd_ne (ne_of_none e hp)]
        exact e
      have hrl : RpL X.K (upd H1 p (.lst vs)) vs (datL ts) := by
        rw [e2, e3, datL_map]
        have := RpL.ofPairs (K := X.K) (F := upd H1 p (.lst vs)) (ps := us.map fun u => (u.1, u.2.dat)) (fun q m => by
          obtain ⟨u, mu, rfl⟩ := List.mem_map.mp m
          obtain ⟨fq, tu⟩ := hu u mu
          exact (tu.datH rv.sk.sub).mono ex)
        rw [List.map_map, List.map_map] at this
        rw [e2] at this
        exact this
      have g : Rp X.K (upd H1 p (.lst vs)) (.ref p) (.list (datL ts)) := .lst (.inl (.inl upd_same)) hrl
      unfold okRepr at hok
      simp only [Bool.and_eq_true] at hok
      obtain ⟨⟨⟨⟨⟨f1, f2⟩, f3⟩, f4⟩, f5⟩, f6⟩ := hok
      refine ⟨p, _, rfl, g.dp f2, f3, by simpa using f4, of_decide_eq_true f5, fitL_le f6, ?_⟩
      exact q _ _ _ _ _ ((rv.junk hp).dat (.str _))
    · cases h6
  · cases h5
end
end Mi
/-! sorted(.., key=len), len(set(..)), dict of pairs. -/
namespace Mi
open PySem PySem.Spec PyProof PyProof.Rows L2

section
variable {X : Cx}
/-- len(set) -/
def rLenSet (w : World) : List V → Hp → VK → Prop := fun vs H Q => ∃ (a : Addr) (ns : List Int) (c : Nat), vs = [V.ref a] ∧ H a = some (SetO w a (fun j => decide (j ∈ ns)) c) ∧ Q (.int ((setL ns).length : Int)) H
theorem set_card {ns ks : List Int} (hn : ks.Nodup) (h : ∀ k, decide (k ∈ ns) = true ↔ k ∈ ks) : ks.length = (setL ns).length := by
  have h1 : (setL ns).Nodup := (setL_up ns).imp fun {a b} q => Int.ne_of_lt q
  have : ks.Perm (setL ns) := (List.perm_ext_iff_of_nodup hn h1).mpr fun k => by
    rw [mem_setL, ← h k, decide_eq_true_iff]
  exact this.length_eq
theorem cr_lenSet : CallR X (.builtin "len") (rLenSet X.w) := by
  intro pins s σ H vs us Q I r h
  obtain ⟨a, ns, c, rfl, ha, q⟩ := h
  rw [Vals.ref1 r]
  obtain ⟨o, es, ep, t, ho, hex, hd, _, hnd, hmem, hsc, hf, hn, _, _⟩ := setO_get I ha
  have e1 : es.size = (setL ns).length := by
    rw [← set_card hnd hmem, List.length_map, Array.length_toList]
  have hb : ((es.size : Nat) : Int) < 2 ^ 63 := by
    have : scanBound ≤ 2 ^ 62 := by unfold scanBound; decide
    omega
  exact call_len_set ho hex hd hf hb ⟨.int ((setL ns).length : Int), H, I.tok _, ⟨_, by rw [e1]⟩, q⟩
theorem lset_ok (O : Opx X) {t : AV} {ns : List Int} (e : t.seq?.bind allInts = some ns) (hl : ns.length ≤ 60) : ∃ r1 r2, CallR X (.type "set") r1 ∧ CallR X (.builtin "len") r2 ∧
    ∀ {σ : L2.St} {F fps H F2 fps2 H2 fp} {env : SEnv} {os : List Opd} {vs : List V} {v : V} {fq : List Addr}, RVs X.K σ env os F fps H vs F2 fps2 H2 fp → TR X.K F2 H2 v t fq →
    ∀ Q : VK, (∀ z F3 H3 fq, RVs X.K σ env [.val (.d (.int ((setL ns).length : Int)))] F fps H [z] F3 fps2 H3 fq → Q z H3) → r1 [v] H2 fun z H3 => r2 [z] H3 Q := by
  obtain ⟨xs, hx, hs⟩ := Option.bind_eq_some_iff.mp e
  have := allInts_map hs
  subst this
  rcases seq_two hx with hx | hx
  · refine ⟨_, _, cr_setLs O, cr_lenSet, fun R ha Q q => ?_⟩
    obtain ⟨a, ws, rfl, h2, h1⟩ := ha.lstH R.sk.sub hx
    rw [h2.ints] at h1
    refine ⟨a, ns, rfl, h1, hl, fun p c hp hc => ?_⟩
    have R2 := R.junk (o := SetO X.w p (fun j => decide (j ∈ ns)) c) hp
    exact ⟨p, ns, c, rfl, upd_same, q _ _ _ _ (R2.dat (.int _))⟩
  · refine ⟨_, _, cr_setT O, cr_lenSet, fun R ha Q q => ?_⟩
    obtain ⟨a, ws, rfl, h1, h2⟩ := ha.tupl R.sk.sub hx
    rw [h2.ints] at h1
    refine ⟨a, ns, rfl, sqT_mono R.sk.sub h1, hl, fun p c hp hc => ?_⟩
    have R2 := R.junk (o := SetO X.w p (fun j => decide (j ∈ ns)) c) hp
    exact ⟨p, ns, c, rfl, upd_same, q _ _ _ _ (R2.dat (.int _))⟩
variable {Φ : Phi} {x : Expr} {pos : Pos} {a : E}
theorem s_lset {p1 p2 p3 : Pos} (O : Opx X) (ha : PEp Φ X a x) (g1 : Gl X "len") (m1 : X.mg "len" = none) (g2 : Gl X "set") (m2 : X.mg "set" = none)
    (h1 : starEach [x] X.env = [(false, eval x X.env)]) (h2 : starEach [.Call (.Name "set" p2) [x] [] p3] X.env = [(false, eval (.Call (.Name "set" p2) [x] [] p3) X.env)]) : PEp Φ X (.lset a) (.Call (.Name "len" p1) [.Call (.Name "set" p2) [x] [] p3] [] pos) := by
  intro env env' r h
  simp only [evE, Option.bind_eq_bind, Option.bind_eq_some_iff] at h
  obtain ⟨⟨t, e1⟩, h3, h4⟩ := h
  split at h4
  · rename_i ns hn
    split at h4
    · rename_i hl
      cases h4
      obtain ⟨r1, r2, c1, c2, hk⟩ := lset_ok O hn (of_decide_eq_true hl)
      refine PE.weak (pe_callB c2 g1 m1 (by rfl) (pa_cons (pe_callTy c1 g2 m2 (by rfl) (pa_cons (ha _ _ _ h3) pa_nil h1) (by decide) (by decide) h1 (by rfl)) pa_nil h2) (by decide) (by decide) h2 (by rfl)) fun σ H Q => ?_
      rintro ⟨F, fps, s, q⟩
      refine ⟨F, fps, s, fun v F1 fps1 H1 fp1 rv => ?_⟩
      cases rv.rs with
      | val tv _ => exact hk rv tv Q fun z F3 H3 fq r3 => q _ _ _ _ _ r3
    · cases h4
  · cases h4
/-! ### dict(pairs) -/
theorem valV_key {kvs : List (Key × V)} {k : Key} {u : V} (e : valV kvs k = some u) : k ∈ kvs.map (·.1) := by
  have h := valV_any k kvs
  rw [e] at h
  obtain ⟨p, hp, hk⟩ := List.any_eq_true.mp (show (kvs.any fun kv => decide (kv.1 = k)) = true from h)
  exact List.mem_map.mpr ⟨p, hp, of_decide_eq_true hk⟩
theorem putK_add {kvs : List (Key × V)} {k : Key} {v : V} (h : k ∉ kvs.map (·.1)) : putK kvs k v = kvs ++ [(k, v)] := by
  refine putK_new v ?_
  cases e : valV kvs k with
  | none => rfl
  | some u => exact absurd (valV_key e) h
theorem mergeK_add : ∀ (more kvs : List (Key × V)), ((kvs ++ more).map (·.1)).Nodup → mergeK kvs more = kvs ++ more
  | [], kvs, _ => (List.append_nil kvs).symm
  | p :: more, kvs, h => by
    have h1 : p.1 ∉ kvs.map (·.1) := fun m => by
      rw [List.map_append, List.map_cons] at h
      exact (List.nodup_append.mp h).2.2 _ m _ List.mem_cons_self rfl
    show mergeK (putK kvs p.1 p.2) more = _
    rw [putK_add h1, mergeK_add more (kvs ++ [(p.1, p.2)]) (by rw [List.append_assoc]; exact h), List.append_assoc]
    rfl
theorem keyOf_V {K : Frg} {F : Hp} {x : PyData} {k : Key} {v : V} (e : keyOf? x = some k) (h : Rp K F v x) : v = kV k := by
  cases x with
  | int i =>
    cases e
    exact h.int_inv
  | str s =>
    cases e
    exact h.str_inv
  | _ => simp [keyOf?] at e
theorem pairsK_cons {x : PyData} {xs : List PyData} {ks : List Key} {vs : List PyData} (e : pairsK (x :: xs) = some (ks, vs)) : ∃ k v key ks' vs', x = .tuple [k, v] ∧ keyOf? k = some key ∧ pairsK xs = some (ks', vs') ∧ ks = key :: ks' ∧ vs = v :: vs' := by
  have two : ∀ k v, x = .tuple [k, v] → ∃ k v key ks' vs', x = .tuple [k, v] ∧ keyOf? k = some key ∧ pairsK xs = some (ks', vs') ∧ ks = key :: ks' ∧ vs = v :: vs' := fun k v hx => by
    subst hx
    rw [pairsK] at e
    cases h1 : keyOf? k with
    | none => rw [h1] at e; cases e
    | some key =>
      cases h2 : pairsK xs with
      | none => rw [h1, h2] at e; cases e
      | some p =>
        obtain ⟨ks', vs'⟩ := p
        rw [h1, h2] at e
        cases e
        exact ⟨k, v, key, ks', vs', rfl, h1, rfl, rfl, rfl⟩
  match x, e, two with
  | .tuple [k, v], _, two => exact two k v rfl
  | .none, e, _ => simp [pairsK] at e
  | .bool _, e, _ => simp [pairsK] at e
  | .int _, e, _ => simp [pairsK] at e
  | .str _, e, _ => simp [pairsK] at e
  | .list _, e, _ => simp [pairsK] at e
  | .dict _, e, _ => simp [pairsK] at e
  | .tuple [], e, _ => simp [pairsK] at e
  | .tuple [_], e, _ => simp [pairsK] at e
  | .tuple (_ :: _ :: _ :: _), e, _ => simp [pairsK] at e
theorem pairs_rel {K : Frg} {F H : Hp} (sub : Ext F H) : ∀ {xs : List PyData} {ws : List V} {ks : List Key} {vs : List PyData}, RpL K F ws xs → pairsK xs = some (ks, vs) → ∃ (ps : List Addr) (kvs : List (Key × V)), ws = ps.map V.ref ∧ Paired (fun p kv => SqT K H p [kV kv.1, kv.2]) ps kvs ∧ kvs.map (·.1) = ks ∧ RpL K F (kvs.map (·.2)) vs := by
  intro xs
  induction xs with
  | nil =>
    intro ws ks vs h e
    cases h
    simp only [pairsK, Option.some.injEq, Prod.mk.injEq] at e
    obtain ⟨rfl, rfl⟩ := e
    exact ⟨[], [], rfl, .nil, rfl, .nil⟩
  | cons x xs ih =>
    intro ws ks vs h e
    obtain ⟨k, v, key, ks', vs', rfl, hk, hr, rfl, rfl⟩ := pairsK_cons e
    cases h with
    | cons h hs =>
      obtain ⟨ps, kvs, rfl, h2, h3, h4⟩ := ih hs hr
      obtain ⟨a, us, rfl, h5, h6⟩ := h.tup_inv
      cases h6 with
      | cons q1 h7 =>
        cases h7 with
        | cons q2 h8 =>
          cases h8
          have e1 := keyOf_V hk q1
          subst e1
          exact ⟨a :: ps, (key, _) :: kvs, rfl, .cons (sqT_mono sub h5) h2, by rw [← h3]; rfl, .cons q2 h4⟩
theorem s_dctp {p1 : Pos} (O : Opx X) (ha : PEp Φ X a x) (g1 : Gl X "dict") (m1 : X.mg "dict" = none) (h1 : starEach [x] X.env = [(false, eval x X.env)]) : PEp Φ X (.dctp a) (.Call (.Name "dict" p1) [x] [] pos) := by
  intro env env' r h
  simp only [evE, Option.bind_eq_bind, Option.bind_eq_some_iff] at h
  obtain ⟨⟨t, e1⟩, h3, h4⟩ := h
  split at h4
  · rename_i ks vs hn
    split at h4
    · rename_i hd
      cases h4
      obtain ⟨xs, hx, hs⟩ := Option.bind_eq_some_iff.mp hn
      refine PE.weak (pe_callTy (call_dictP O.calm) g1 m1 (by rfl) (pa_cons (ha _ _ _ h3) pa_nil h1) (by decide) (by decide) h1 (by rfl)) fun σ H Q => ?_
      rintro ⟨F, fps, s, q⟩
      refine ⟨F, fps, s, fun v F1 fps1 H1 fp1 rv => ?_⟩
      cases rv.rs with
      | val tv _ =>
        obtain ⟨a, ws, rfl, q1, q2⟩ := tv.lst rv.sk.sub hx
        obtain ⟨ps, kvs, rfl, q3, q4, q5⟩ := pairs_rel rv.sk.sub q2 hs
        refine ⟨a, ps, kvs, rfl, q1, q3, fun p hp => ?_⟩
        have hn : (([] ++ kvs : List (Key × V)).map (·.1)).Nodup := by
          rw [List.nil_append, q4]
          exact of_decide_eq_true hd
        rw [mergeK_add kvs [] hn, List.nil_append]
        exact q _ _ _ _ _ (rv.new (fq := []) hp (fun _ m => nomatch m) List.nodup_nil (.odk upd_same q4 (TRs.ofRp q5)))
    · cases h4
  · cases h4
end
end Mi
/-! sorted(.., key=len) of lists. -/
namespace Mi
open PySem PySem.Spec PyProof PyProof.Rows L2

section
variable {X : Cx}
def LenAt (h : Heap) (v : Value) (p : V × PyData) : Prop := RelV p.1 v ∧ ∃ (b : Addr) (us : List Value), v = .ref b ∧ h.IsList b us.toArray ∧ (us.length : Int) = lenD p.2 ∧ us.length ≤ sizeLine
theorem len_each {pins : List (Addr × Obj)} {σ : L2.St} {H : Hp} {s : Shared} (I : Inv X pins σ H s) : ∀ {ps : List (V × PyData)} {its : List Value}, Vals (ps.map (·.1)) its → (∀ p ∈ ps, ∃ b ws, p.1 = .ref b ∧ SqL X.K H b ws ∧ (ws.length : Int) = lenD p.2) → PySem.W.EachIs (LenAt s.heap) its ps
  | [], _, .nil, _ => .nil
  | p :: ps, _, .cons r rs, h => by
    refine .cons ⟨r, ?_⟩ (len_each I rs fun q m => h q (List.mem_cons_of_mem _ m))
    obtain ⟨b, ws, e1, h1, h2⟩ := h p List.mem_cons_self
    obtain ⟨us, rv, pl, hz⟩ := I.list h1
    have r' : RelV p.1 _ := r
    rw [e1] at r'
    cases r'
    exact ⟨b, us, rfl, pl.isList, by rw [← rv.length]; exact h2, by rw [← rv.length]; exact hz⟩
theorem each_rel {h : Heap} : ∀ {ps : List (V × PyData)} {out : List Value}, PySem.W.EachIs (LenAt h) out ps → Vals (ps.map (·.1)) out
  | _, _, .nil => .nil
  | _, _, .cons h hs => .cons h.1 (each_rel hs)
theorem run_sortLen (O : Opx X) {pins : List (Addr × Obj)} {s : Shared} {σ : L2.St} {H : Hp} {a : Addr} {ps : List (V × PyData)} {Q : VK} (I : Inv X pins σ H s) (hs : SqL X.K H a (ps.map (·.1)))
    (hi : ∀ p ∈ ps, ∃ b ws, p.1 = .ref b ∧ SqL X.K H b ws ∧ (ws.length : Int) = lenD p.2)
    (q : ∀ p, H p = none → Q (.ref p) (upd H p (.lst ((ps.mergeSort (PySem.W.dataLe false fun p => .int (lenD p.2))).map (·.1))))) :
    wpAny (model X.prog X.w) X.A (call (.builtin "sorted") [.ref a] [(Str.ofString "key", .builtin "len")]) (EP X pins σ Q) X.xe s := by
  have hu := O.un
  obtain ⟨its, rv, pl, hz⟩ := I.list hs
  have e := len_each I rv hi
  have hlp : ps.length ≤ sizeLine := by rw [List.length_map] at hz; exact hz
  refine PySem.W.sorted_key_data (b := false) (fun p : V × PyData => .int (lenD p.2)) pl.isList e (PySem.W.AllAlike.of fun _ _ => by simp [PySem.W.alike]) (sortable_of (by
    rw [Bool.or_eq_true]
    refine .inr (List.all_eq_true.mpr fun x hx => ?_)
    obtain ⟨p, _, rfl⟩ := List.mem_map.mp hx
    rfl)) hlp (fun p _ => by simp only [PyData.depth]; omega) (ksk_s1 _ _) (fun _ => ksk_l1 _ _) (fun x => ksk_t4 "len" x)
    (fun v p hR _ h tk kp => ?_) fun out c h' tk kp _ hD hlen eo => ?_
  · obtain ⟨_, b, us, rfl, ⟨o, ho, hr⟩, h2, h3⟩ := hR
    have hl' : h.IsList b us.toArray := ⟨o, kp _ _ ho, hr⟩
    have hf : ((us.toArray.size : Nat) : Int) < 2 ^ 63 := by
      rw [List.size_toArray]
      have := line63
      omega
    refine Calls.call_len_list (s := { s with heap := h, toks := tk }) hl' hf ?_
    refine ⟨h, _, rfl, fun _ _ z => z, ?_⟩
    rw [List.size_toArray, h2]
    exact .int _ _
  · have e2 : ((ps.mergeSort (PySem.W.dataLe false fun p => .int (lenD p.2))).map (·.1)).length ≤ sizeLine := by
      rw [List.length_map, (List.mergeSort_perm _ _).length_eq]
      exact hlp
    exact ⟨.ref _, _, I.laid (a := s.heap.objs.size + 1) (o := .lst ((ps.mergeSort (PySem.W.dataLe false fun p => .int (lenD p.2))).map (·.1))) (t' := tk) kp (Nat.le_succ _) ⟨e2, out, c, each_rel eo, hD⟩, rfl, q _ (I.hok.fresh (Nat.le_succ _))⟩
variable {Φ : Phi} {x : Expr} {pos : Pos} {a : E}
def tSrtL (K : Frg) (t : TE) : TE := fun σ H Q => t σ H fun v H1 => ∃ (a : Addr) (ps : List (V × PyData)), v = .ref a ∧ SqL K H1 a (ps.map (·.1)) ∧ (∀ p ∈ ps, ∃ b ws, p.1 = V.ref b ∧ SqL K H1 b ws ∧ (ws.length : Int) = lenD p.2) ∧
  ∀ p, H1 p = none → Q (.ref p) (upd H1 p (.lst ((ps.mergeSort (PySem.W.dataLe false fun p => .int (lenD p.2))).map (·.1))))
theorem pe_srtl {p1 p2 p3 : Pos} {t : TE} (O : Opx X) (ha : PE X x t) (g1 : Gl X "sorted") (m1 : X.mg "sorted" = none) (g2 : Gl X "len") (m2 : X.mg "len" = none) (h1 : starEach [x] X.env = [(false, eval x X.env)]) :
    PE X (.Call (.Name "sorted" p1) [x] [⟨some (Str.ofString "key"), .Name "len" p2, p3⟩] pos) (tSrtL X.K t) := by
  refine ⟨fun pins s σ H Q I h => ?_⟩
  have he : backTo pos (starEach [x] X.env) = (false, eval x X.env) :: backTo pos (starEach [] X.env) := by rw [h1]; rfl
  have hpl : (backTo pos (starEach [x] X.env)).any (·.1) = false := by rw [h1]; rfl
  refine wpAny_Call_Name_kw (ld_blt I g1 m1 (by rfl : bootBuiltins "sorted" = some (.builtin "sorted")) ?_)
  refine PyProof.Rows.callWith_kw (thn ((pa_cons ha pa_nil h1).run pos pins s σ H (fun vs H1 => match vs with
    | [v] => ∃ (a : Addr) (ps : List (V × PyData)), v = .ref a ∧ SqL X.K H1 a (ps.map (·.1)) ∧ (∀ p ∈ ps, ∃ b ws, p.1 = V.ref b ∧ SqL X.K H1 b ws ∧ (ws.length : Int) = lenD p.2) ∧
      ∀ p, H1 p = none → Q (.ref p) (upd H1 p (.lst ((ps.mergeSort (PySem.W.dataLe false fun p => .int (lenD p.2))).map (·.1))))
    | _ => False) I h) fun us s1 ⟨vs, H1, I1, r1, q1⟩ => ?_) he hpl rfl rfl
  show wpAny _ _ (evalAll ((do let v ← eval (.Name "len" p2) X.env; standAt pos; pure v) :: [])) _ _ s1
  refine wpAny_evalAll_cons (wpAny_bind (ld_blt I1 g2 m2 (by rfl : bootBuiltins "len" = some (.builtin "len")) (wpAny_bind (wpAny_standAt (wpAny_pure ?_)))))
  refine wpAny_evalAll_nil ?_
  match vs, us, r1, q1 with
  | [v], _, .cons r .nil, ⟨a, ps, e1, q2, q3, q4⟩ =>
    subst e1
    cases r
    exact run_sortLen O I1 q2 q3 q4
  | [], _, _, q1 => exact q1.elim
  | _ :: _ :: _, _, _, q1 => exact q1.elim
theorem srt_pairs (ps : List (V × PyData)) : (ps.mergeSort (PySem.W.dataLe false fun p => .int (lenD p.2))).map (·.2) = srtL (ps.map (·.2)) :=
  PySem.W.sort_maps (fun p : V × PyData => p.2) fun _ _ _ _ => rfl
theorem s_srtl {p1 p2 p3 : Pos} (O : Opx X) (ha : PEp Φ X a x) (g1 : Gl X "sorted") (m1 : X.mg "sorted" = none) (g2 : Gl X "len") (m2 : X.mg "len" = none) (h1 : starEach [x] X.env = [(false, eval x X.env)]) :
    PEp Φ X (.srtl a) (.Call (.Name "sorted" p1) [x] [⟨some (Str.ofString "key"), .Name "len" p2, p3⟩] pos) := by
  intro env env' r h
  simp only [evE, Option.bind_eq_bind, Option.bind_eq_some_iff] at h
  obtain ⟨⟨t, e1⟩, h3, h4⟩ := h
  split at h4
  · rename_i xs hn
    split at h4
    · rename_i hd
      cases h4
      obtain ⟨hd1, hd2⟩ := (Bool.and_eq_true _ _).mp hd
      refine PE.weak (pe_srtl O (ha _ _ _ h3) g1 m1 g2 m2 h1) fun σ H Q => ?_
      rintro ⟨F, fps, s, q⟩
      refine ⟨F, fps, s, fun v F1 fps1 H1 fp1 rv => ?_⟩
      cases rv.rs with
      | val tv _ =>
        obtain ⟨a, ws, rfl, q1, q2⟩ := tv.lst rv.sk.sub hn
        obtain ⟨ps, rfl, rfl, q3⟩ := q2.toPairs
        refine ⟨a, ps, rfl, q1, fun p hp => ?_, fun p hp => ?_⟩
        · have hl := List.all_eq_true.mp hd1 p.2 (List.mem_map_of_mem hp)
          have h5 := q3 p hp
          cases e : p.2 with
          | list ys =>
            rw [e] at h5
            obtain ⟨b, us, e2, h6, h7⟩ := h5.lst_inv
            exact ⟨b, us, e2, sqL_mono rv.sk.sub h6, by rw [h7.length]; rfl⟩
          | _ => rw [e] at hl; cases hl
        · refine q _ _ _ _ _ (rv.newL hp ?_)
          rw [← srt_pairs]
          exact RpL.ofPairs fun p m => q3 p ((List.mergeSort_perm _ _).mem_iff.mp m)
    · cases h4
  · cases h4
end
end Mi
/-! Calls of defs; tests by truth. -/
namespace Mi
open PySem L2 PyProof.Rows

section
variable {K : Frg} {F F1 H H1 : Hp} {σ : L2.St} {env : SEnv} {fps fps1 : Fps}
theorem ORs.frz {G : Hp} (s : Ext F G) : ∀ {vs : List V} {os : List Opd} {fp : List Addr}, ORs K F H σ vs os fp → (∀ a ∈ fp, ∀ o, H a = some o → G a = some o) → ORs K G H σ vs (os.map frzO) []
  | _, _, _, .nil, _ => .nil
  | _, _, _, .slot h hs, k => .slot h (ORs.frz s hs k)
  | _, _, _, .val h hs, k => ORs.val (fp := []) (fq := []) (.d (h.freeze s fun a m => k a (List.mem_append_left _ m))) (ORs.frz s hs fun a m => k a (List.mem_append_right _ m))
theorem RVs.frzAll {vs : List V} {os : List Opd} {fp : List Addr} (a : RVs K σ env os F fps H vs F1 fps1 H1 fp) : RVs K σ env (os.map frzO) F fps H vs (frzF F1 H1 fp) fps1 H1 [] := by
  refine ⟨a.sk.frz a.ap, a.rs.frz (frzF_ext fun x m => (a.ap x m).1) fun x m o e => ?_, List.nodup_nil, fun _ m => (nomatch m), a.st.f.trans (frzF_ext fun x m => (a.ap x m).1), a.st.k, fun x e => ?_, fun x m => ?_⟩
  · unfold frzF
    rw [if_pos m]
    exact e
  · unfold frzF at e
    by_cases m : x ∈ fp
    · exact .inr (a.st.w x (.inr m))
    · rw [if_neg m] at e
      exact a.st.n x e
  · rcases m with m | m
    · exact a.st.w x (.inl m)
    · cases m
theorem ORs.get : ∀ {vs : List V} {os : List Opd} {fp : List Addr}, ORs K F H σ vs os fp → fp = [] → ∀ {j : Nat} {o : Opd}, os[j]? = some o → ∃ v, vs[j]? = some v ∧ ORs K F H σ [v] [o] []
  | _, _, _, .nil, _, j, o, h => by simp at h
  | _, _, _, .slot h _, _, 0, o, e => by
    have := Option.some.inj e
    subst this
    exact ⟨_, rfl, .slot h .nil⟩
  | _, _, _, .val (fp := f1) (fq := f2) h _, hn, 0, o, e => by
    have := Option.some.inj e
    subst this
    obtain ⟨rfl, rfl⟩ := List.append_eq_nil_iff.mp hn
    exact ⟨_, rfl, .one h⟩
  | _, _, _, .slot _ hs, hn, j + 1, o, e => ORs.get hs hn (j := j) (by simpa using e)
  | _, _, _, .val (fp := f1) (fq := f2) _ hs, hn, j + 1, o, e => ORs.get hs (List.append_eq_nil_iff.mp hn).2 (j := j) (by simpa using e)
theorem ORs.perm {vs : List V} {os : List Opd} (h : ORs K F H σ vs os []) (pm : List Nat) : ORs K F H σ (permL pm vs) (permL pm os) [] := by
  unfold permL
  generalize List.range pm.length = ks
  induction ks with
  | nil => exact .nil
  | cons k ks ih =>
    rw [List.filterMap_cons, List.filterMap_cons]
    cases hj : pm.idxOf? k with
    | none => exact ih
    | some j =>
      simp only [Option.bind_some]
      cases ho : os[j]? with
      | none =>
        have : vs[j]? = none := by
          rw [List.getElem?_eq_none_iff] at ho ⊢
          rw [h.length]
          exact ho
        rw [this]
        exact ih
      | some o =>
        obtain ⟨v, h1, h2⟩ := h.get rfl ho
        rw [h1]
        exact ORs.append h2 ih
theorem Vals.get? : ∀ {xs : List V} {us : List Value}, Vals xs us → ∀ j : Nat, (xs[j]? = none ∧ us[j]? = none) ∨ ∃ x u, xs[j]? = some x ∧ us[j]? = some u ∧ RelV x u
  | _, _, .nil, j => .inl ⟨rfl, rfl⟩
  | _, _, .cons r _, 0 => .inr ⟨_, _, rfl, rfl, r⟩
  | _, _, .cons _ t, j + 1 => by
    rcases Vals.get? t j with ⟨h1, h2⟩ | ⟨x, u, h1, h2, h3⟩
    · exact .inl ⟨by simpa using h1, by simpa using h2⟩
    · exact .inr ⟨x, u, by simpa using h1, by simpa using h2, h3⟩
theorem Vals.perm {vs : List V} {us : List Value} (h : Vals vs us) (pm : List Nat) : Vals (permL pm vs) (permL pm us) := by
  unfold permL
  generalize List.range pm.length = ks
  induction ks with
  | nil => exact .nil
  | cons k ks ih =>
    rw [List.filterMap_cons, List.filterMap_cons]
    cases hj : pm.idxOf? k with
    | none => exact ih
    | some j =>
      simp only [Option.bind_some]
      rcases Vals.get? h j with ⟨h1, h2⟩ | ⟨x, u, h1, h2, h3⟩
      · rw [h1, h2]
        exact ih
      · rw [h1, h2]
        exact .cons h3 ih
end

/-- a def that may be called from here -/
structure CallD (X : Cx) where
  k : Nat
  f : Addr
  fd : FuncData
  ps : List Str
  /-- the patterns of keyword calls -/
  kw : List (List Str × List Nat)
structure CallOk (X : Cx) (nm : Str) (D : CallD X) (G : FnS) : Prop where
  F : FnG X.prog X.w X.K X.mg X.base D.k D.f D.fd D.ps (spI X.K G)
  room : Room D.k X.A
  mg : X.mg nm = some (.ref D.f)
  keep : PySem.W.keepIn X.K (.ref D.f) = true
  bind : ∀ us : List Value, us.length = D.ps.length → bindArgs D.fd ⟨us, []⟩ = pure (D.ps.zip us)
  kws : ∀ p ∈ D.kw, ∀ ws : List Value, ws.length = p.1.length → bindArgs D.fd ⟨[], p.1.zip ws⟩ = pure (D.ps.zip (permL p.2 ws))
  io : G.io = upTo G.n G.io

def noStarS (x : Expr) (env : Env) : Prop := ∀ es, starEach (x :: es) env = (false, eval x env) :: starEach es env
section
variable {Φ : Phi} {X : Cx} {m a b c : E} {e x y z : Expr} {es rest : List Expr} {kws : List Keyword} {pos apos cpos np : Pos} {i : Nat} {nm : Str} {D : CallD X} {G : FnS}
theorem call_fin {env e1 env' : SEnv} {os : List Opd} {r : AV} {ta : TA} (C : CallOk X nm D G) (h1 : ∀ σ H Q, TIa X.K env e1 os σ H Q → ta σ H Q) (h2 : callV G os e1 = some (r, env')) : ∀ σ H Q, TIe X.K env env' r σ H Q → tCallG (spI X.K G) ta σ H Q := by
  rintro σ H Q ⟨F, fps, s, q⟩
  refine h1 _ _ _ ⟨F, fps, s, fun vs F1 fps1 H1 fp1 r1 => ?_⟩
  exact callV_ok C.io r1 h2 fun z F3 fps3 H3 fq r3 => q _ _ _ _ _ r3
theorem s_call (O : Opx X) {f : Nat} (C : CallOk X nm D G) (hf : Φ[f]? = some G) (hg : Gl X nm) (ha : PAp Φ X a (x :: es)) (hd : (nm == ("__debug__" : Str)) = false)
    (he : starEach (x :: es) X.env = (false, eval x X.env) :: starEach es X.env) (hpl : (backTo pos (starEach es X.env)).any (·.1) = false) : PEp Φ X (.call f a) (.Call (.Name nm np) (x :: es) [] pos) := by
  intro env env' r h
  simp only [evE, Option.bind_eq_bind, Option.bind_eq_some_iff] at h
  obtain ⟨G', h0, ⟨os, e1⟩, h1, h2⟩ := h
  rw [hf] at h0
  cases h0
  exact PE.weak (pe_callG C.F O.gd C.room hg C.mg C.keep C.bind (ha _ _ _ h1) hd he hpl) (call_fin C (fun _ _ _ q => q) h2)
theorem s_call0 (O : Opx X) {f : Nat} (C : CallOk X nm D G) (hf : Φ[f]? = some G) (hg : Gl X nm) (hd : (nm == ("__debug__" : Str)) = false) : PEp Φ X (.call f .nil) (.Call (.Name nm np) [] [] pos) := by
  intro env env' r h
  simp only [evE, Option.bind_eq_bind, Option.bind_eq_some_iff] at h
  obtain ⟨G', h0, ⟨os, e1⟩, h1, h2⟩ := h
  rw [hf] at h0
  cases h0
  simp only [evL] at h1
  cases h1
  exact PE.weak (pe_callG0 C.F O.gd C.room hg C.mg C.keep C.bind hd) (call_fin C (fun σ H Q ⟨F, fps, s, q⟩ => q [] F fps H [] s.start) h2)
/-- arguments by their names -/
def PKp (Φ : Phi) (X : Cx) (m : E) (kws : List Keyword) : Prop := ∀ env env' os, evL Φ m env = some (os, env') → PK X kws (TIa X.K env env' os)
theorem PK.weak {t t' : TA} (h : PK X kws t) (w : ∀ σ H Q, t' σ H Q → t σ H Q) : PK X kws t' := ⟨fun pos pins s σ H Q I q => h.run pos pins s σ H Q I (w σ H Q q)⟩
theorem s_nilK : PKp Φ X .nil [] := by
  intro env env' os h
  simp only [evL] at h
  cases h
  refine PK.weak pk_nil fun σ H Q => ?_
  rintro ⟨F, fps, s, q⟩
  exact q [] F fps H [] s.start
theorem s_consK {kn : Option Str} {kp : Pos} (ha : POp Φ X a x) (hb : PKp Φ X b kws) : PKp Φ X (.cons a b) (⟨kn, x, kp⟩ :: kws) := by
  intro env env' os h
  simp only [evL, Option.bind_eq_bind, Option.bind_eq_some_iff] at h
  obtain ⟨⟨o, e1⟩, h1, ⟨os2, e2⟩, h2, h3⟩ := h
  cases h3
  refine PK.weak (pk_cons (ha _ _ _ h1) (hb _ _ _ h2)) fun σ H Q => ?_
  rintro ⟨F, fps, s, q⟩
  exact ⟨F, fps, s, fun v F1 fps1 H1 fp1 r1 => ⟨F1, fps1, r1.sk, fun ws F2 fps2 H2 fp2 r2 => q (v :: ws) F2 fps2 H2 _ (r1.seq r2)⟩⟩
theorem RVs.perm {K : Frg} {F F1 H H1 : Hp} {σ : L2.St} {env : SEnv} {fps fps1 : Fps} {vs : List V} {os : List Opd} (a : RVs K σ env os F fps H vs F1 fps1 H1 []) (pm : List Nat) : RVs K σ env (permL pm os) F fps H (permL pm vs) F1 fps1 H1 [] :=
  ⟨a.sk, a.rs.perm pm, List.nodup_nil, a.ap, a.st⟩
theorem s_callk (O : Opx X) {f : Nat} {ks : List Str} {pm : List Nat} (C : CallOk X nm D G) (hf : Φ[f]? = some G) (hk : (ks, pm) ∈ D.kw) (hkl : ks.length = pm.length) (hg : Gl X nm) (ha : PKp Φ X a kws) (hd : (nm == ("__debug__" : Str)) = false)
    (hall : (backToKw pos (keywordEach kws X.env)).all (·.1.isSome) = true) (hks : (backToKw pos (keywordEach kws X.env)).filterMap (·.1) = ks)
    (hpl : ((backTo pos (starEach [] X.env)).any (·.1) || (backToKw pos (keywordEach kws X.env)).any (·.1.isNone)) = false) : PEp Φ X (.callk f pm a) (.Call (.Name nm np) [] kws pos) := by
  intro env env' r h
  simp only [evE, Option.bind_eq_bind, Option.bind_eq_some_iff] at h
  obtain ⟨G', h0, ⟨os, e1⟩, h1, os2, h2, h3⟩ := h
  rw [hf] at h0
  cases h0
  unfold permO at h2
  split at h2
  · rename_i hl
    cases h2
    rw [List.length_map] at hl
    have len : ∀ {σ : L2.St} {F fps H vs F1 fps1 H1 fp1}, RVs X.K σ e1 os F fps H vs F1 fps1 H1 fp1 → vs.length = ks.length := fun r1 => by
      rw [r1.rs.length, hkl, hl.2]
    refine PE.weak (pe_callGK (g := fun {α} l => permL pm l) C.F O.gd C.room hg C.mg C.keep (fun ws hw => C.kws (ks, pm) hk ws hw) (fun vs us _ r => Vals.perm r pm) (ha _ _ _ h1) ?_ hall hks hd hpl) fun σ H Q => ?_
    · rintro σ H Q ⟨F, fps, s, q⟩
      exact ⟨F, fps, s, fun vs F1 fps1 H1 fp1 r1 => ⟨len r1, q _ _ _ _ _ r1⟩⟩
    · rintro ⟨F, fps, s, q⟩
      refine ⟨F, fps, s, fun vs F1 fps1 H1 fp1 r1 => ?_⟩
      exact callV_ok C.io (r1.frzAll.perm pm) h3 fun z F3 fps3 H3 fq r3 => q _ _ _ _ _ r3
  · cases h2

/-! ### list(range(..)), tuple(range(..)) -/
theorem rg_eq (m n : Int) : RpL (K := X.K) (F := fun _ => none) (rgV m n) (rangeL m (n - m).toNat) := by
  unfold rgV rangeL
  generalize (n - m).toNat = k
  have : ∀ l : List Nat, RpL (K := X.K) (F := fun _ => none) (l.map fun i => V.int (m + (i : Nat))) (l.map fun (i : Nat) => PyData.int (m + (i : Int))) := fun l => by
    induction l with
    | nil => exact .nil
    | cons i l ih => exact .cons (.int _) ih
  exact this _
theorem rgok_of {m n : Int} (h : okRgs m n = true) : RgOk m n := by
  unfold okRgs at h
  simp only [Bool.and_eq_true] at h
  obtain ⟨⟨h1, h2⟩, h3⟩ := h
  have a1 := of_decide_eq_true h1
  have a2 := of_decide_eq_true h2
  have a3 := of_decide_eq_true h3
  unfold LIM at a3
  exact ⟨a1.1, a1.2, a2.1, a2.2, by omega⟩
theorem rg_fin {F F1 H H1 : Hp} {fps fps1 : Fps} {σ : L2.St} {e : SEnv} {fp : List Addr} {os : List Opd} {vs : List V} {m n : Int} {Q : VK} (r : RVs X.K σ e os F fps H vs F1 fps1 H1 fp) (q : ∀ v F' fps' H' fp, RVs X.K σ e [.val (fr (rangeL m (n - m).toNat))] F fps H [v] F' fps' H' fp → Q v H') : ∀ p, H1 p = none → Q (.ref p) (upd H1 p (.lst (rgV m n))) :=
  fun p hp => q _ _ _ _ _ (r.newL hp ((rg_eq (X := X) m n).mono fun a u z => by rcases z with z | ⟨o, z⟩ <;> cases z))
theorem rg_finT {F F1 H H1 : Hp} {fps fps1 : Fps} {σ : L2.St} {e : SEnv} {fp : List Addr} {os : List Opd} {vs : List V} {m n : Int} {Q : VK} (r : RVs X.K σ e os F fps H vs F1 fps1 H1 fp) (q : ∀ v F' fps' H' fp, RVs X.K σ e [.val (.d (.tuple (rangeL m (n - m).toNat)))] F fps H [v] F' fps' H' fp → Q v H') : ∀ p, H1 p = none → Q (.ref p) (upd H1 p (.tup (rgV m n))) :=
  fun p hp => q _ _ _ _ _ (r.newTd hp ((rg_eq (X := X) m n).mono fun a u z => by rcases z with z | ⟨o, z⟩ <;> cases z))
theorem s_rg1 (O : Opx X) {t : Bool} {p1 p2 p3 : Pos} {nf : Str} (hnf : nf = if t then "tuple" else "list") (ha : PEp Φ X a x) (g1 : Gl X nf) (m1 : X.mg nf = none) (g2 : Gl X "range") (m2 : X.mg "range" = none) (hs : noStarS x X.env) (hs2 : noStarS (.Call (.Name "range" p2) [x] [] p3) X.env) :
    PEp Φ X (.rg1 t a) (.Call (.Name nf p1) [.Call (.Name "range" p2) [x] [] p3] [] pos) := by
  intro env env' r h
  simp only [evE, Option.bind_eq_bind, Option.bind_eq_some_iff] at h
  obtain ⟨⟨v, e1⟩, h1, h2⟩ := h
  simp only at h2
  split at h2
  · rename_i n
    split at h2
    · rename_i hr
      cases h2
      have pr := prg_1 (p := p2) (pos := p3) g2 m2 (ha _ _ _ h1) (hs [])
      have e0 : (n - 0).toNat = n.toNat := by rw [Int.sub_zero]
      cases t with
      | false =>
        subst hnf
        refine PE.weak (pe_listRg O.calm g1 m1 pr (hs2 [])) fun σ H Q => ?_
        rintro ⟨F, fps, s, q⟩
        refine ⟨F, fps, s, fun w F1 fps1 H1 fp1 r1 => ⟨n, r1.rs.one_inv.int, rgok_of hr, ?_⟩⟩
        exact rg_fin r1.drop fun v F' fps' H' fp r2 => q v F' fps' H' fp (by rw [e0] at r2; exact r2)
      | true =>
        subst hnf
        refine PE.weak (pe_tupRg O.calm g1 m1 pr (hs2 [])) fun σ H Q => ?_
        rintro ⟨F, fps, s, q⟩
        refine ⟨F, fps, s, fun w F1 fps1 H1 fp1 r1 => ⟨n, r1.rs.one_inv.int, rgok_of hr, ?_⟩⟩
        exact rg_finT r1.drop fun v F' fps' H' fp r2 => q v F' fps' H' fp (by rw [e0] at r2; exact r2)
    · cases h2
  · cases h2
theorem s_rg2 (O : Opx X) {t : Bool} {p1 p2 p3 : Pos} {nf : Str} (hnf : nf = if t then "tuple" else "list") (ha : PEp Φ X a x) (hb : PEp Φ X b y) (g1 : Gl X nf) (m1 : X.mg nf = none) (g2 : Gl X "range") (m2 : X.mg "range" = none) (hs : noStarS x X.env) (hsy : noStarS y X.env) (hs2 : noStarS (.Call (.Name "range" p2) [x, y] [] p3) X.env) :
    PEp Φ X (.rg2 t a b) (.Call (.Name nf p1) [.Call (.Name "range" p2) [x, y] [] p3] [] pos) := by
  intro env env' r h
  simp only [evE, Option.bind_eq_bind, Option.bind_eq_some_iff] at h
  obtain ⟨⟨v, e1⟩, h1, ⟨w, e2⟩, h2, h3⟩ := h
  simp only at h3
  split at h3
  · rename_i m n
    split at h3
    · rename_i hr
      cases h3
      have pr := prg_2 (p := p2) (pos := p3) g2 m2 (ha _ _ _ h1) (hb _ _ _ h2) (hs [y]) (hsy []) (by rw [hsy []]; rfl)
      cases t with
      | false =>
        subst hnf
        refine PE.weak (pe_listRg O.calm g1 m1 pr (hs2 [])) fun σ H Q => ?_
        rintro ⟨F, fps, s, q⟩
        refine ⟨F, fps, s, fun w F1 fps1 H1 fp1 r1 => ⟨F1, fps1, r1.sk, fun u F2 fps2 H2 fp2 r2 => ⟨m, n, r1.rs.one_inv.int, r2.rs.one_inv.int, rgok_of hr, ?_⟩⟩⟩
        exact rg_fin (r1.seq r2).drop fun v F' fps' H' fp r3 => q v F' fps' H' fp r3
      | true =>
        subst hnf
        refine PE.weak (pe_tupRg O.calm g1 m1 pr (hs2 [])) fun σ H Q => ?_
        rintro ⟨F, fps, s, q⟩
        refine ⟨F, fps, s, fun w F1 fps1 H1 fp1 r1 => ⟨F1, fps1, r1.sk, fun u F2 fps2 H2 fp2 r2 => ⟨m, n, r1.rs.one_inv.int, r2.rs.one_inv.int, rgok_of hr, ?_⟩⟩⟩
        exact rg_finT (r1.seq r2).drop fun v F' fps' H' fp r3 => q v F' fps' H' fp r3
    · cases h3
  · cases h3

/-! ### tests by truth -/
theorem evE_isi {ts : List PTy} {env env' : SEnv} {b : Bool} (h : evT Φ (.isi a ts) env = some (b, env')) : evE Φ (.isi a ts) env = some (.d (.bool b), env') := by
  simp only [evT, Option.bind_eq_bind, Option.bind_eq_some_iff] at h
  simp only [evE, Option.bind_eq_bind, Option.bind_eq_some_iff]
  obtain ⟨p, h1, t, h2, h3⟩ := h
  cases h3
  exact ⟨p, h1, t, h2, rfl⟩
def Truthy (X : Cx) (x : Expr) : Prop := ∀ whole, isTrue x X.env whole = (do let v ← whole; standAt x.pos; holding [v] (truthy v))
theorem t_ofE {k : Bool} {env env' : SEnv} (hT : Truthy X x) (hp : PE X x (TIe X.K env env' (.d (.bool k)))) : PT X x (TIt X.K env env' k) :=
  t_truth (t := .d (.bool k)) (o := .val (.d (.bool k))) hp rfl rfl (fun q z => by cases z) rfl hT
theorem t_isi {ts : List PTy} (h : PEp Φ X (.isi a ts) x) (hT : Truthy X x) : PTp Φ X (.isi a ts) x := fun env env' b q => t_ofE hT (h _ _ _ (evE_isi q))
def notDi (t : AV) : Bool := !t.isDi
theorem notDi_dat {t : AV} (h : t.isDi = false) : ∀ q, t.dat = .dict q → False := by
  intro q e
  cases t with
  | d x => cases x <;> first | (cases h; done) | (simp [AV.dat] at e)
  | odk ks ts => cases h
  | own ts => simp [AV.dat] at e
  | tup ts => simp [AV.dat] at e
theorem t_refT {nm : Str} (hN : X.N[i]? = some nm) (hv : Vis X.env.scope nm) (hd : (nm == ("__debug__" : Str)) = false) (hc : (nm == ("__classdict__" : Str)) = false) (hT : Truthy X (.Name nm pos)) : PTp Φ X (.ref i) (.Name nm pos) := by
  intro env env' b h
  simp only [evT] at h
  split at h
  · rename_i t ht
    split at h
    · rename_i hf
      cases h
      simp only [Bool.and_eq_true, Bool.not_eq_true'] at hf
      exact t_truth (s_ref hN hv hd hc (by rw [ht]; simp)) (o := .slot i) ht hf.1 (notDi_dat hf.2) rfl hT
    · cases h
  · cases h
theorem t_ixT {i : E} (h : PEp Φ X (.ix a i) x) (hT : Truthy X x) : PTp Φ X (.ix a i) x := by
  intro env env' b q
  simp only [evT, Option.bind_eq_bind, Option.bind_eq_some_iff] at q
  obtain ⟨⟨oa, e1⟩, h1, ⟨ob, e2⟩, h2, ta, h3, tb, h4, r, h5, h6⟩ := q
  split at h6
  · rename_i hf
    simp only [Bool.and_eq_true, Bool.not_eq_true'] at hf
    have he : evE Φ (.ix a i) env = some (r, e2) := by
      simp only [evE, Option.bind_eq_bind, Option.bind_eq_some_iff]
      exact ⟨_, h1, _, h2, _, h3, _, h4, _, h5, rfl⟩
    cases h6
    exact t_truth (o := .val r) (h _ _ _ he) rfl hf.1 (notDi_dat hf.2) rfl hT
  · cases h6
theorem t_callT {f : Nat} (h : PEp Φ X (.call f a) x) (hT : Truthy X x) : PTp Φ X (.call f a) x := by
  intro env env' b q
  simp only [evT, Option.bind_eq_bind, Option.bind_eq_some_iff] at q
  obtain ⟨G, h0, ⟨os, e1⟩, h1, ⟨r, e2⟩, h2, h3⟩ := q
  simp only at h3
  split at h3
  · rename_i hf
    simp only [Bool.and_eq_true, Bool.not_eq_true'] at hf
    have he : evE Φ (.call f a) env = some (r, e2) := by
      simp only [evE, Option.bind_eq_bind, Option.bind_eq_some_iff]
      exact ⟨_, h0, _, h1, h2⟩
    cases h3
    exact t_truth (o := .val r) (h _ _ _ he) rfl hf.1 (notDi_dat hf.2) rfl hT
  · cases h3
theorem t_callkT {f : Nat} {pm : List Nat} (h : PEp Φ X (.callk f pm a) x) (hT : Truthy X x) : PTp Φ X (.callk f pm a) x := by
  intro env env' b q
  simp only [evT, Option.bind_eq_bind, Option.bind_eq_some_iff] at q
  obtain ⟨G, h0, ⟨os, e1⟩, h1, os2, h12, ⟨r, e2⟩, h2, h3⟩ := q
  simp only at h3
  split at h3
  · rename_i hf
    simp only [Bool.and_eq_true, Bool.not_eq_true'] at hf
    have he : evE Φ (.callk f pm a) env = some (r, e2) := by
      simp only [evE, Option.bind_eq_bind, Option.bind_eq_some_iff]
      exact ⟨_, h0, _, h1, _, h12, h2⟩
    cases h3
    exact t_truth (o := .val r) (h _ _ _ he) rfl hf.1 (notDi_dat hf.2) rfl hT
  · cases h3
theorem t_biT {bb : Bi} (h : PEp Φ X (.bi bb a) x) (hT : Truthy X x) : PTp Φ X (.bi bb a) x := by
  intro env env' b q
  simp only [evT, Option.bind_eq_bind, Option.bind_eq_some_iff] at q
  obtain ⟨⟨os, e1⟩, h1, ts, h2, r, h3, h4⟩ := q
  split at h4
  · rename_i hf
    simp only [Bool.and_eq_true, Bool.not_eq_true'] at hf
    have he : evE Φ (.bi bb a) env = some (r, e1) := by
      simp only [evE, Option.bind_eq_bind, Option.bind_eq_some_iff]
      exact ⟨_, h1, _, h2, _, h3, rfl⟩
    cases h4
    exact t_truth (o := .val r) (h _ _ _ he) rfl hf.1 (notDi_dat hf.2) rfl hT
  · cases h4
end
end Mi
/-! enumerate over a tuple. -/
namespace Mi
open PySem PySem.Spec L2 PyProof.Rows

theorem enum_newT (l : Addr) (items : Array Value) :
    Meets (Builtin.«enumerate.__new__» ⟨[.type "enumerate", .ref l], []⟩) (fun _ R s => s.heap.IsTuple l items ∧
      R (.ok (.ret (.ref (s.heap.push { cls := .type "tuple_iterator", data := .fields #[.ref l, .int 0 0] }).objs.size)))
        { s with heap := (s.heap.push { cls := .type "tuple_iterator", data := .fields #[.ref l, .int 0 0] }).push { cls := .type "enumerate", data := .fields #[.none, .bool false, .ref s.heap.objs.size, rawInt 0, .none, .none] } }) :=
  .of_wp fun prog w A R s h => by
    obtain ⟨hp, g, d, tk, os⟩ := s
    obtain ⟨hl, h⟩ := h
    have hsub := sub_enumerate
    have hL : Heap.IsTuple (Shared.heap ⟨hp, g, d, tk, os⟩) l items := hl
    wp_walk using wpAny_pyIter_tuple hL
    refine wpAny_stack_any fun st => wpAny_pure ?_
    split
    · rename_i c _ _ _ _ _
      cases (c == Value.type "enumerate")
      · wp_walk using wpAny_pyIter_tuple hL
        exact ⟨_, rfl, h⟩
      · wp_walk using wpAny_pyIter_tuple hL
        exact ⟨_, rfl, h⟩
    · wp_walk using wpAny_pyIter_tuple hL
      exact ⟨_, rfl, h⟩
theorem call_enumT {prog : Program} {w : World} {A : Around} {E : Value → Shared → Prop} {s : Shared} {l : Addr} {items : Array Value} {Q : Value → Shared → Prop} (hL : s.heap.IsTuple l items)
    (h : ∀ h', IsEnum h' (s.heap.objs.size + 1) s.heap.objs.size 0 .none → h'.IsTupleIter s.heap.objs.size l 0 → (∀ b o, s.heap.get? b = some o → h'.get? b = some o) → Q (.ref (s.heap.objs.size + 1)) { s with heap := h' }) :
    wpAny (model prog w) A (call (.type "enumerate") [.ref l]) Q E s := by
  refine callType_new F.called_enumerate (by decide) (F.typeCall_enumerate_1 _) (F.newCall_enumerate_1 _) (fun obj => F.args_object_init_2 obj _) F.entry_enumerate_new (enum_newT l items) ⟨hL, ?_⟩
  generalize ho : ({ cls := .type "tuple_iterator", data := .fields #[.ref l, .int 0 0] } : Obj) = o1
  have hfree : o1.isFreed = false := by rw [← ho]; rfl
  have hz : (s.heap.push o1).objs.size = s.heap.objs.size + 1 := Heap.size_push ..
  show _ ∧ _
  rw [hz]
  have he : IsEnum ((s.heap.push o1).push { cls := .type "enumerate", data := .fields #[.none, .bool false, .ref s.heap.objs.size, rawInt 0, .none, .none] }) (s.heap.objs.size + 1) s.heap.objs.size 0 .none := by
    have := Heap.get?_push_size (s.heap.push o1) (o := { cls := .type "enumerate", data := .fields #[.none, .bool false, .ref s.heap.objs.size, rawInt 0, .none, .none] }) rfl
    rw [hz] at this
    exact this
  refine ⟨⟨_, he, rfl⟩, h _ he ⟨o1, Heap.get?_push_of_some _ (Heap.get?_push_size _ hfree), by rw [← ho], by rw [← ho]; rfl⟩ fun b o x => Heap.get?_push_of_some _ (Heap.get?_push_of_some _ x)⟩

def IteT (K : PySem.W.Frag) (a : Addr) : It :=
  ⟨fun i H => ∃ (xs : List V) (x : V), SqT K H a xs ∧ xs[i]? = some x, fun i H v H' => ∃ T x, v = .ref T ∧ H T = none ∧ H' = upd H T (.tup [.int (i : Nat), x]) ∧ ∀ xs, SqT K H a xs → xs[i]? = some x, fun i H => ∃ xs : List V, SqT K H a xs ∧ xs.length ≤ i⟩
theorem turn_enumT {P : Program} {w : World} {K : PySem.W.Frag} {elts : List Expr} {kk : Nat} {tpos : Pos} (a e it : Addr) (hat : a ≠ it) (hae : a ≠ e) :
    Turn P w K (.Tuple elts kk tpos) (IteT K a) [e, it] e (fun i h => (∃ old, IsEnum h e it ((i : Nat) : Int) old) ∧ h.IsTupleIter it a i ∧ e ≠ it) where
  mem := by simp
  obj := fun i h st b hb => by
    obtain ⟨⟨old, he⟩, ⟨o, ho, hc, hd⟩, _⟩ := st
    have e' : b = e ∨ b = it := by simpa using hb
    rcases e' with z | z
    · rw [z]; exact ⟨_, he, fun v q => nomatch q⟩
    · rw [z]; exact ⟨o, ho, fun v q => by rw [hd] at q; cases q⟩
  keep := fun i h h' st k => let ⟨⟨old, he⟩, hi, hne⟩ := st; ⟨⟨old, k e (by simp) _ he⟩, hi.at fun o q => k it (by simp) o q, hne⟩
  item := by
    intro X hP hw hK hc i pins s σ H E I hf st hg
    subst hP hw hK
    obtain ⟨⟨old, he⟩, hit, hne⟩ := st
    obtain ⟨xs, x, hq, hx⟩ := hg
    obtain ⟨its, rv, p, hz⟩ := I.tuple hq
    obtain ⟨u, hu, ru⟩ := rv.get hx
    have hel : e < s.heap.objs.size := Heap.lt_size he
    have hil : it < s.heap.objs.size := by obtain ⟨_, q, _⟩ := hit; exact Heap.lt_size q
    have hlt : i < its.toArray.size := by
      rcases Nat.lt_or_ge i its.length with h | h
      · simpa using h
      · rw [List.getElem?_eq_none h] at hu
        cases hu
    refine wpAny_pyNext_enum_itemD (Draws.tuple (A := X.A.in1) (I.ok.hd hc) it a hat its.toArray) he ⟨hit, p⟩ hlt hne (by simp [hne, Ne.symm hae]) fun x' h' tk hx' ho hit' hT hsz hk => ?_
    have ex : x' = u := by
      have z : its[i]? = some x' := by simpa using hx'
      rw [hu] at z
      exact (Option.some.inj z).symm
    subst ex
    refine ⟨_, rfl, wpAny_letOwnedTupleGo_enum (s := { s with heap := h', toks := tk + 1 }) ho fun h'' he' sb => ?_⟩
    have hT2 : h''.get? s.heap.objs.size = some { cls := .type "tuple", data := .seq #[.int i tk, x'] } := (sb.2 _ (Nat.ne_of_gt hel)).trans hT
    have new : ObjOk X.prog X.w (upd H s.heap.objs.size (.tup [.int (i : Nat), x])) h'' s.heap.objs.size (.tup [.int (i : Nat), x]) :=
      ⟨by show 2 ≤ sizeLine; decide, [.int i tk, x'], .cons ⟨_, rfl⟩ (.cons ru .nil), ⟨_, hT2, rfl, _, rfl⟩⟩
    have I1 : Inv X pins σ (upd H s.heap.objs.size (.tup [.int (i : Nat), x])) { s with heap := h'', toks := tk + 1 } :=
      I.turnedNew (ch := [e, it]) (fun b ob hb q => (sb.2 b (fun z => hb (by simp [z]))).trans (hk b ob (fun z => hb (by simp [z])) (fun z => hb (by simp [z])) q)) hf (Nat.le_refl _) new
    refine ⟨.ref s.heap.objs.size, _, I1, rfl, ⟨_, x, rfl, I.hok.fresh (Nat.le_refl _), rfl, fun ys hy => by rw [I.tuple_inj hy hq]; exact hx⟩, ⟨⟨x', ?_⟩, hit'.1.at fun o q => (sb.2 it (Ne.symm hne)).trans q, hne⟩, fun b hb => ?_⟩
    · have e1 : ((i + 1 : Nat) : Int) = (i : Int) + 1 := by omega
      rw [e1]
      exact he'
    · have hb' : b < s.heap.objs.size := by
        have e' : b = e ∨ b = it := by simpa using hb
        rcases e' with z | z
        · rw [z]; exact hel
        · rw [z]; exact hil
      rw [upd_ne (Nat.ne_of_lt hb')]
      exact (hf b hb).1
  done := by
    intro X hP hw hK hc i pins s σ H E I hf st hg
    subst hP hw hK
    obtain ⟨⟨old, he⟩, hit, hne⟩ := st
    obtain ⟨xs, hq, hx⟩ := hg
    obtain ⟨its, rv, p, hz⟩ := I.tuple hq
    obtain ⟨f0, f1, f2, f3, f4, f5⟩ := hf it (by simp)
    have hl := rv.length
    have hT : s.TypeIs (.ref e) "enumerate" := ⟨_, he, rfl⟩
    unfold pyNext
    refine wpAny_bind (wpAny_attempt (wpAny_callSpecial?_slot (name := Str.ofString "__next__") hT F.slot_enumerate_next
      (wpAny_call_entry F.slot_enumerate_next hT F.entry_enumerate_next ?_ (F.args_enumerate_next_1 _))))
    show wpAny _ _ (field (.ref e) 2 >>= _) _ _ _
    refine wpAny_bind (wpAny_field he rfl (x := .ref it) rfl ?_)
    refine wpAny_bind (PySem.wpAny_nextOf_tuple_end (A := X.A.in1) (I.ok.hd hc) hit p (by simp; omega) fun h' x he' hx' => ?_)
    obtain ⟨o, ho, hc⟩ := hx'
    refine wpAny_bind (wpAny_isInstance (T := "StopIteration") (b := true) ⟨o, ho, hc⟩ isSubtype_stop ?_)
    exact wpAny_pure ⟨rfl, I.turned (t' := s.toks) (fun b o hb q => he' b o hb q) f0 f1 f3 f4 f5⟩
  self := fun A i s Q E st h => let ⟨⟨_, he⟩, _⟩ := st; wpAny_pyIter_enum he h
def iEnumA (K : PySem.W.Frag) (ta : TA) : TI := fun σ H R => ta σ H fun vs H1 => ∃ a xs, vs = [.ref a] ∧ ((SqL K H1 a xs ∧ R (Ite K a) H1) ∨ (SqT K H1 a xs ∧ R (IteT K a) H1))
theorem pi_enumA {X : Cx} {e : Expr} {ta : TA} {p pos tpos : Pos} {elts : List Expr} {kk : Nat} (hg : Gl X "enumerate") (hm : X.mg "enumerate" = none) (ha : PA X [e] ta) (hs : starEach [e] X.env = [(false, eval e X.env)]) :
    PI X (.Tuple elts kk tpos) (.Call (.Name "enumerate" p) [e] [] pos) (iEnumA X.K ta) := by
  refine ⟨fun pins s σ H R I h => ?_⟩
  refine Call_ (ld_blt I hg hm boot_enumerate (PyProof.Rows.callWith_type1 (thn (ha.run pos pins s σ H _ I h) fun us s1 ⟨vs, H1, I1, r1, q1⟩ => ?_) hs rfl))
  obtain ⟨a, xs, ex, q1⟩ := q1
  subst ex
  cases r1 with
  | cons r rr =>
    cases rr
    cases r
    have fresh : ∀ b, b = s1.heap.objs.size + 1 ∨ b = s1.heap.objs.size → FpOk X pins H1 b := fun b e' => by
      have hle : s1.heap.objs.size ≤ b := by
        rcases e' with z | z
        · rw [z]; exact Nat.le_add_right _ _
        · rw [z]; exact Nat.le_refl _
      exact I1.fpOk hle (I1.hok.fresh hle)
    rcases q1 with ⟨hq, q⟩ | ⟨hq, q⟩
    · obtain ⟨its, rv, p', hz⟩ := I1.list hq
      refine call_enumerate_list p'.isList fun h' he hit hsz hk => wpAny_pyIter_enum he ?_
      have I2 : Inv X pins σ H1 { s1 with heap := h' } := I1.kept (t' := s1.toks) hk
      exact ⟨s1.heap.objs.size + 1, [s1.heap.objs.size + 1, s1.heap.objs.size], _, _, H1, rfl, I2, turn_enum a (s1.heap.objs.size + 1) s1.heap.objs.size, ⟨⟨.none, he⟩, hit, Nat.succ_ne_self _⟩, fun b hb => fresh b (by simpa using hb), q⟩
    · obtain ⟨its, rv, p', hz⟩ := I1.tuple hq
      have ha : a < s1.heap.objs.size := by
        obtain ⟨o, ho, _⟩ := id p'
        exact Heap.lt_size ho
      refine call_enumT p' fun h' he hit hk => wpAny_pyIter_enum he ?_
      have I2 : Inv X pins σ H1 { s1 with heap := h' } := I1.kept (t' := s1.toks) hk
      exact ⟨s1.heap.objs.size + 1, [s1.heap.objs.size + 1, s1.heap.objs.size], _, _, H1, rfl, I2, turn_enumT a (s1.heap.objs.size + 1) s1.heap.objs.size (Nat.ne_of_lt ha) (Nat.ne_of_lt (Nat.lt_succ_of_lt ha)), ⟨⟨.none, he⟩, hit, Nat.succ_ne_self _⟩, fun b hb => fresh b (by simpa using hb), q⟩
theorem walk_enumT {K : PySem.W.Frag} {a : Addr} {xs : List V} : Walk (IteT K a) xs.length (fun H => SqT K H a xs) (YPair (fun i => some (.int (i : Nat))) (fun i => xs[i]?)) := by
  refine ⟨fun i _ hi q => ⟨xs, xs[i], q, by simp [hi]⟩, fun _ q => ⟨xs, q, Nat.le_refl _⟩, fun i H v H' _ q y => ?_⟩
  obtain ⟨T, x, h1, h2, h3, h4⟩ := y
  exact ⟨T, .int (i : Nat), x, h1, h2, h3, rfl, h4 xs q⟩
theorem walk_zipT {K : PySem.W.Frag} {a b : Addr} {xs ys : List V} {n : Nat} (hn : n = min xs.length ys.length) : Walk (RZ.ItzT K a b) n (fun H => SqT K H a xs ∧ SqT K H b ys) (YPair (fun i => xs[i]?) (fun i => ys[i]?)) := by
  subst hn
  refine ⟨fun i _ hi q => ?_, fun _ q => ⟨xs, ys, q.1, q.2, by omega⟩, fun i H v H' _ q y => ?_⟩
  · have h1 : i < xs.length := by omega
    have h2 : i < ys.length := by omega
    exact ⟨xs, ys, xs[i], ys[i], q.1, q.2, by simp [h1], by simp [h2]⟩
  · obtain ⟨T, x, z, h1, h2, h3, h4, h5⟩ := y
    exact ⟨T, x, z, h1, h2, h3, h4 xs q.1, h5 ys q.2⟩
end Mi
/-! What loops walk, by values. -/
namespace Mi
open PySem L2 PyProof.Rows

/-- a source stands ready: the state, what is held meanwhile -/
structure Src (K : Frg) (σ : L2.St) (env : SEnv) (rs : Option (Nat × AV)) (F : Hp) (fps : Fps) (H F' : Hp) (fps' : Fps) (H' : Hp) (fp : List Addr) : Prop where
  sk : SK K F' fps' σ H' env
  held : match rs with
    | none => fp = []
    | some p => ∃ v, σ[p.1]? = some (some v) ∧ TR K F' H' v p.2 fp
  nd : fp.Nodup
  ap : ∀ a ∈ fp, F' a = none ∧ ¬ ownd fps' a
  st : Step F (ownd fps) H F' (fun a => ownd fps' a ∨ a ∈ fp) H'

/-- an iterator gives these items whatever the state's own steps do -/
def ItOk (K : Frg) (F1 : Hp) (W1 : Addr → Prop) (H1 : Hp) (xs : List PyData) (J : It) : Prop :=
  ∃ (G : Hp → Prop) (Y : Nat → Hp → V → Hp → Prop), Walk J xs.length G Y ∧ (∀ F' W' H', Step F1 W1 H1 F' W' H' → Ext F' H' → G H') ∧
    ∀ (i : Nat) (H : Hp) (v : V) (H' F : Hp) (fps : Fps) (σ : L2.St) (env : SEnv), i < xs.length → SK K F fps σ H env → Step F1 W1 H1 F (ownd fps) H → Y i H v H' → ∃ d F'', xs[i]? = some d ∧ SK K F'' fps σ H' env ∧ Step F (ownd fps) H F'' (ownd fps) H' ∧ Rp K F'' v d ∧
      ∀ a, H a ≠ none → F'' a = F a

def TIi (K : Frg) (env env' : SEnv) (xs : List PyData) (rs : Option (Nat × AV)) : TI := fun σ H R => ∃ F fps, SK K F fps σ H env ∧ ∀ J F' fps' H' fp, Src K σ env' rs F fps H F' fps' H' fp → ItOk K F' (ownd fps') H' xs J → R J H'
section
variable (Φ : Phi) (X : Cx)
def PIx (m : E) (tg it : Expr) : Prop := ∀ env env' xs rs, evI Φ m env = some (xs, env', rs) → PI X tg it (TIi X.K env env' xs rs)
end
theorem PI.weak {X : Cx} {tg it : Expr} {w w' : TI} (h : PI X tg it w) (q : ∀ σ H R, w' σ H R → w σ H R) : PI X tg it w' := ⟨fun pins s σ H R I z => h.run pins s σ H R I (q σ H R z)⟩

section
variable {K : Frg} {F F1 H H1 : Hp} {fps : Fps} {σ : L2.St} {env : SEnv} {W : Addr → Prop}
theorem Step.growF {p : Addr} {o : HO} (hp : H p = none) (f0 : F p = none) : Step F W H (upd F p o) W (upd H p o) := by
  refine ⟨.of fun x u e => ?_, fun x u e n => ?_, fun x e => ?_, fun x m => .inl m⟩
  · rw [upd_ne (ne_of_none e f0)]
    exact e
  · rw [upd_ne (ne_of_none e hp)]
    exact e
  · by_cases hx : x = p
    · subst hx
      exact .inr (.inr hp)
    · rw [upd_ne hx] at e
      exact .inl e
/-- a list stays while only others' things change -/
theorem TR.lstS {v : V} {t : AV} {fp : List Addr} {xs : List PyData} (s : Ext F H) (h : TR K F H v t fp) (e : t.lst? = some xs) (hw : ∀ x ∈ fp, ¬ W x) : ∃ a ws, v = .ref a ∧ RpL K F ws xs ∧ ∀ F' W' H', Step F W H F' W' H' → Ext F' H' → SqL K H' a ws := by
  cases h with
  | d h =>
    cases h with
    | lst h hs =>
      simp only [AV.lst?, Option.some.injEq] at e
      subst e
      exact ⟨_, _, rfl, hs, fun F' W' H' st ex => sqL_mono ex (sqL_mono st.f h)⟩
    | _ => simp [AV.lst?] at e
  | own h hs =>
    have := leafs_map (show leafs _ = some xs from e)
    subst this
    exact ⟨_, _, rfl, hs.leaf.1, fun F' W' H' st ex => .inl (.inl (st.k _ _ h (hw _ List.mem_cons_self)))⟩
  | odk _ _ _ => simp [AV.lst?] at e
  | tup _ _ => simp [AV.lst?] at e
theorem RpL.getD {ws : List V} {xs : List PyData} (h : RpL K F ws xs) {i : Nat} {v : V} (e : ws[i]? = some v) : ∃ d, xs[i]? = some d ∧ Rp K F v d := h.getV e

theorem it_lst {a : Addr} {ws : List V} {xs : List PyData} (hs : RpL K F ws xs) (h : ∀ F' W' H', Step F W H F' W' H' → Ext F' H' → SqL K H' a ws) : ItOk K F W H xs (Itl K a) := by
  refine ⟨fun H => SqL K H a ws, YAt ws, by rw [← hs.length]; exact walk_list, fun F' W' H' st ex => h F' W' H' st ex, ?_⟩
  rintro i H2 v H3 F2 fps σ env hi sk st ⟨rfl, hv⟩
  obtain ⟨d, h1, h2⟩ := hs.getV hv
  exact ⟨d, F2, h1, sk, Step.refl, h2.mono st.f, fun _ _ => rfl⟩
theorem it_tup {a : Addr} {ws : List V} {xs : List PyData} (hs : RpL K F ws xs) (h : SqT K F a ws) : ItOk K F W H xs (Itt K a) := by
  refine ⟨fun H => SqT K H a ws, YAt ws, by rw [← hs.length]; exact walk_tup, fun F' W' H' st ex => sqT_mono ex (sqT_mono st.f h), ?_⟩
  rintro i H2 v H3 F2 fps σ env hi sk st ⟨rfl, hv⟩
  obtain ⟨d, h1, h2⟩ := hs.getV hv
  exact ⟨d, F2, h1, sk, Step.refl, h2.mono st.f, fun _ _ => rfl⟩
theorem it_range {lo : Int} {n : Nat} : ItOk K F W H (rangeL lo n) (Itr lo n) := by
  have hl : (rangeL lo n).length = n := by simp [rangeL]
  refine ⟨fun _ => True, YFn fun i => .int (lo + i), by rw [hl]; exact walk_range, fun _ _ _ _ _ => trivial, ?_⟩
  rintro i H2 v H3 F2 fps σ env hi sk st ⟨rfl, rfl⟩
  rw [hl] at hi
  refine ⟨.int (lo + i), F2, ?_, sk, Step.refl, .int _, fun _ _ => rfl⟩
  unfold rangeL
  rw [List.getElem?_map, List.getElem?_range hi]
  rfl
/-- pairs, each new -/
theorem it_pair {J : It} {G : Hp → Prop} {f g : Nat → Option V} {zs : List PyData} (w : Walk J zs.length G (YPair f g)) (hG : ∀ F' W' H', Step F W H F' W' H' → Ext F' H' → G H') (hz : ∀ i x y, i < zs.length → f i = some x → g i = some y → ∃ d1 d2, zs[i]? = some (.tuple [d1, d2]) ∧ Rp K F x d1 ∧ Rp K F y d2) : ItOk K F W H zs J := by
  refine ⟨G, YPair f g, w, hG, ?_⟩
  rintro i H2 v H3 F2 fps σ env hi sk st ⟨T, x, y, rfl, hT, rfl, h1, h2⟩
  obtain ⟨d1, d2, e, r1, r2⟩ := hz i x y hi h1 h2
  have f0 := (fresh_own sk hT).2
  have ex : Ext F2 (upd F2 T (.tup [x, y])) := .of fun a u q => by
    rw [upd_ne (ne_of_none q f0)]
    exact q
  refine ⟨_, upd F2 T (.tup [x, y]), e, sk.growF hT, Step.growF hT f0, .tup (.of upd_same) (.cons (r1.mono (st.f.trans ex)) (.cons (r2.mono (st.f.trans ex)) .nil)), fun a ha => ?_⟩
  rw [upd_ne fun z => ha (by rw [z]; exact hT)]
end

section
variable {Φ : Phi} {X : Cx} {m a b : E} {tg x y : Expr} {pos p : Pos} {elts : List Expr} {kk : Nat} {tpos : Pos}
theorem RVs.src {K : Frg} {σ : L2.St} {env : SEnv} {os : List Opd} {F F1 H H1 : Hp} {fps fps1 : Fps} {vs : List V} {fp : List Addr} (r : RVs K σ env os F fps H vs F1 fps1 H1 fp) : Src K σ env none F fps H F1 fps1 H1 [] :=
  ⟨r.sk, rfl, List.nodup_nil, fun _ m => (nomatch m), r.st.weak fun _ h => h.elim .inl fun m => nomatch m⟩
theorem i_seq (ha : PEp Φ X a x) : PIx Φ X (.cons a .nil) tg x := by
  intro env env' xs rs h
  simp only [evI, Option.bind_eq_bind, Option.bind_eq_some_iff] at h
  obtain ⟨⟨t, e1⟩, h1, h2⟩ := h
  simp only at h2
  split at h2
  · rename_i ys hy
    cases h2
    rcases AV.seq_cases hy with e | e
    · refine PI.weak (pi_list (ha _ _ _ h1)) fun σ H R => ?_
      rintro ⟨F, fps, s, q⟩
      refine ⟨F, fps, s, fun v F1 fps1 H1 fp1 r1 => ?_⟩
      obtain ⟨p, ws, rfl, g1, g2⟩ := r1.rs.one_inv.lstS r1.sk.sub e fun x m => (r1.ap x m).2
      exact ⟨p, rfl, ⟨ws, g2 _ _ _ (Step.refl (W := ownd fps1)) r1.sk.sub⟩, q _ _ _ _ _ r1.src (it_lst g1 g2)⟩
    · refine PI.weak (pi_tup (ha _ _ _ h1)) fun σ H R => ?_
      rintro ⟨F, fps, s, q⟩
      refine ⟨F, fps, s, fun v F1 fps1 H1 fp1 r1 => ?_⟩
      obtain ⟨p, ws, rfl, g1, g2⟩ := r1.rs.one_inv.tupl r1.sk.sub e
      exact ⟨p, rfl, ⟨ws, sqT_mono r1.sk.sub g1⟩, q _ _ _ _ _ r1.src (it_tup g2 g1)⟩
  · cases h2
theorem i_lend {i : Nat} {nm : Str} (hN : X.N[i]? = some nm) (hv : Vis X.env.scope nm) (hd : (nm == ("__debug__" : Str)) = false) (hc : (nm == ("__classdict__" : Str)) = false) : PIx Φ X (.lend i) tg (.Name nm pos) := by
  intro env env' xs rs h
  simp only [evI] at h
  split at h
  · rename_i t ht
    split at h
    · rename_i ys hy
      cases h
      have src : ∀ {σ : L2.St} {H F : Hp} {fps : Fps}, SK X.K F fps σ H env → ∃ v, σ[i]? = some (some v) ∧ TR X.K F H v t (fps i) ∧ (∀ x ∈ fps i, ¬ ownd (fpsU fps i []) x) ∧ Src X.K σ (env.set i none) (some (i, t)) F fps H F (fpsU fps i []) H (fps i) := fun {σ H F fps} s => by
        obtain ⟨v, h1, h2, h3, h4, h5, h6⟩ := s.take ht
        exact ⟨v, h1, h2, fun x m => (h5 x m).2, h3, ⟨v, h1, h2⟩, h4, h5, Step.same fun a m => m.elim (fun z => (ownd_put z).elim id fun z => nomatch z) fun z => ⟨i, z⟩⟩
      rcases AV.seq_cases hy with e | e
      · refine PI.weak (pi_list (pe_var hN hv hd hc)) fun σ H R => ?_
        rintro ⟨F, fps, s, q⟩
        obtain ⟨v, h1, h2, h3, h4⟩ := src s
        obtain ⟨p, ws, rfl, g1, g2⟩ := h2.lstS s.sub e h3
        exact ⟨_, h1, p, rfl, ⟨ws, g2 _ _ _ (Step.refl (W := ownd (fpsU fps i []))) s.sub⟩, q _ _ _ _ _ h4 (it_lst g1 g2)⟩
      · refine PI.weak (pi_tup (pe_var hN hv hd hc)) fun σ H R => ?_
        rintro ⟨F, fps, s, q⟩
        obtain ⟨v, h1, h2, h3, h4⟩ := src s
        obtain ⟨p, ws, rfl, g1, g2⟩ := h2.tupl s.sub e
        exact ⟨_, h1, p, rfl, ⟨ws, sqT_mono s.sub g1⟩, q _ _ _ _ _ h4 (it_tup g2 g1)⟩
    · cases h
  · cases h
theorem i_range1 (ha : PEp Φ X a x) (hg : Gl X "range") (hm : X.mg "range" = none) (hs : starEach [x] X.env = [(false, eval x X.env)]) : PIx Φ X (.bi .range1 (.cons a .nil)) tg (.Call (.Name "range" p) [x] [] pos) := by
  intro env env' xs rs h
  simp only [evI, Option.bind_eq_bind, Option.bind_eq_some_iff] at h
  obtain ⟨⟨t, e1⟩, h1, h2⟩ := h
  simp only at h2
  split at h2
  · rename_i n
    split at h2
    · rename_i hr
      cases h2
      have hr' := of_decide_eq_true hr
      refine PI.weak (pi_range1 hg hm (pa_cons (ha _ _ _ h1) pa_nil hs) hs) fun σ H R => ?_
      rintro ⟨F, fps, s, q⟩
      refine ⟨F, fps, s, fun v F1 fps1 H1 fp1 r1 => ?_⟩
      rw [r1.rs.one_inv.int]
      exact ⟨n, rfl, hr'.1, hr'.2, q _ _ _ _ _ r1.src it_range⟩
    · cases h2
  · cases h2
theorem i_range2 (ha : PEp Φ X a x) (hb : PEp Φ X b y) (hg : Gl X "range") (hm : X.mg "range" = none) (hs : starEach [x, y] X.env = [(false, eval x X.env), (false, eval y X.env)]) (hs2 : starEach [y] X.env = [(false, eval y X.env)]) :
    PIx Φ X (.bi .range2 (.cons a (.cons b .nil))) tg (.Call (.Name "range" p) [x, y] [] pos) := by
  intro env env' xs rs h
  simp only [evI, Option.bind_eq_bind, Option.bind_eq_some_iff] at h
  obtain ⟨⟨t, e1⟩, h1, ⟨u, e2⟩, h2, h3⟩ := h
  simp only at h3
  split at h3
  · rename_i m n
    split at h3
    · rename_i hr
      cases h3
      obtain ⟨hr1, hr2⟩ := (Bool.and_eq_true _ _).mp hr
      have hr1' := of_decide_eq_true hr1
      have hr2' := of_decide_eq_true hr2
      refine PI.weak (pi_range2 hg hm (pa_cons (ha _ _ _ h1) (pa_cons (hb _ _ _ h2) pa_nil hs2) (by rw [hs, hs2])) hs hs2) fun σ H R => ?_
      rintro ⟨F, fps, s, q⟩
      refine ⟨F, fps, s, fun v F1 fps1 H1 fp1 r1 => ⟨F1, fps1, r1.sk, fun w F2 fps2 H2 fp2 r2 => ?_⟩⟩
      rw [r1.rs.one_inv.int, r2.rs.one_inv.int]
      exact ⟨m, n, rfl, ⟨hr1'.1, hr1'.2, hr2'.1, hr2'.2⟩, q _ _ _ _ _ (r1.seq r2).src it_range⟩
    · cases h3
  · cases h3
theorem enumL_get {xs : List PyData} {i : Nat} {d : PyData} (h : xs[i]? = some d) : (enumL xs)[i]? = some (.tuple [.int (i : Nat), d]) := by
  unfold enumL
  rw [List.getElem?_map, List.getElem?_zipIdx, h]
  simp
theorem zipL_get {xs ys : List PyData} {i : Nat} {d e : PyData} (h : xs[i]? = some d) (h2 : ys[i]? = some e) : (zipL xs ys)[i]? = some (.tuple [d, e]) := by
  unfold zipL
  rw [List.getElem?_map, List.getElem?_zip_eq_some.mpr (by exact ⟨h, h2⟩ : xs[i]? = some (d, e).1 ∧ ys[i]? = some (d, e).2)]
  rfl
theorem i_enum (ha : PEp Φ X a x) (hg : Gl X "enumerate") (hm : X.mg "enumerate" = none) (hs : starEach [x] X.env = [(false, eval x X.env)]) : PIx Φ X (.bi .enum (.cons a .nil)) (.Tuple elts kk tpos) (.Call (.Name "enumerate" p) [x] [] pos) := by
  intro env env' xs rs h
  simp only [evI, Option.bind_eq_bind, Option.bind_eq_some_iff] at h
  obtain ⟨⟨t, e1⟩, h1, h2⟩ := h
  simp only at h2
  split at h2
  · rename_i ys hy
    cases h2
    refine PI.weak (pi_enumA hg hm (pa_cons (ha _ _ _ h1) pa_nil hs) hs) fun σ H R => ?_
    rintro ⟨F, fps, s, q⟩
    refine ⟨F, fps, s, fun v F1 fps1 H1 fp1 r1 => ?_⟩
    have hlen : (enumL ys).length = ys.length := by simp [enumL]
    rcases AV.seq_cases hy with e | e
    · obtain ⟨p, ws, rfl, g1, g2⟩ := r1.rs.one_inv.lstS r1.sk.sub e fun x m => (r1.ap x m).2
      refine ⟨p, ws, rfl, .inl ⟨g2 _ _ _ (Step.refl (W := ownd fps1)) r1.sk.sub, q _ _ _ _ _ r1.src (it_pair (G := fun H => SqL X.K H p ws) (by rw [hlen, ← g1.length]; exact walk_enum) (fun F' W' H' st ex => g2 F' W' H' st ex) fun i v w hi h3 h4 => ?_)⟩⟩
      obtain ⟨d, h5, h6⟩ := g1.getV h4
      cases h3
      exact ⟨_, d, enumL_get h5, .int _, h6⟩
    · obtain ⟨p, ws, rfl, g1, g2⟩ := r1.rs.one_inv.tupl r1.sk.sub e
      refine ⟨p, ws, rfl, .inr ⟨sqT_mono r1.sk.sub g1, q _ _ _ _ _ r1.src (it_pair (G := fun H => SqT X.K H p ws) (by rw [hlen, ← g2.length]; exact walk_enumT) (fun F' W' H' st ex => sqT_mono ex (sqT_mono st.f g1)) fun i v w hi h3 h4 => ?_)⟩⟩
      obtain ⟨d, h5, h6⟩ := g2.getV h4
      cases h3
      exact ⟨_, d, enumL_get h5, .int _, h6⟩
  · cases h2
theorem i_zip (ha : PEp Φ X a x) (hb : PEp Φ X b y) (hg : Gl X "zip") (hm : X.mg "zip" = none) (hs : starEach [x, y] X.env = (false, eval x X.env) :: starEach [y] X.env) (hs2 : starEach [y] X.env = [(false, eval y X.env)]) :
    PIx Φ X (.bi .zip (.cons a (.cons b .nil))) (.Tuple elts kk tpos) (.Call (.Name "zip" p) [x, y] [] pos) := by
  intro env env' xs rs h
  simp only [evI, Option.bind_eq_bind, Option.bind_eq_some_iff] at h
  obtain ⟨⟨t, e1⟩, h1, ⟨u, e2⟩, h2, h3⟩ := h
  simp only at h3
  have hlen : ∀ xs ys : List PyData, (zipL xs ys).length = min xs.length ys.length := fun xs ys => by simp [zipL]
  have pz := RZ.pi_zipA (elts := elts) (kk := kk) (tpos := tpos) (p := p) (pos := pos) hg hm (pa_cons (ha _ _ _ h1) (pa_cons (hb _ _ _ h2) pa_nil hs2) hs) hs (by rw [hs2]; rfl)
  split at h3
  · rename_i ys zs hy hz
    cases h3
    refine PI.weak pz fun σ H R => ?_
    rintro ⟨F, fps, s, q⟩
    refine ⟨F, fps, s, fun v F1 fps1 H1 fp1 r1 => ⟨F1, fps1, r1.sk, fun w F2 fps2 H2 fp2 r2 => ?_⟩⟩
    have rv := r1.seq r2
    have t1 := r2.st.tr r1.rs.one_inv fun x m => (r1.ap x m).2
    obtain ⟨p1, ws1, rfl, g1, g2⟩ := t1.lstS (W := ownd fps2) rv.sk.sub hy fun x m => (rv.ap x (List.mem_append_left _ m)).2
    obtain ⟨p2, ws2, rfl, k1, k2⟩ := r2.rs.one_inv.lstS (W := ownd fps2) rv.sk.sub hz fun x m => (r2.ap x m).2
    refine ⟨p1, p2, ws1, ws2, rfl, .inl ⟨g2 _ _ _ Step.refl rv.sk.sub, k2 _ _ _ Step.refl rv.sk.sub, q _ _ _ _ _ rv.src (it_pair (G := fun H => SqL X.K H p1 ws1 ∧ SqL X.K H p2 ws2) (walk_zip (by rw [hlen, g1.length, k1.length])) (fun F' W' H' st ex => ⟨g2 F' W' H' st ex, k2 F' W' H' st ex⟩) fun i v w hi h3 h4 => ?_)⟩⟩
    obtain ⟨d, h5, h6⟩ := g1.getV h3
    obtain ⟨d', h7, h8⟩ := k1.getV h4
    exact ⟨d, d', zipL_get h5 h7, h6, h8⟩
  · split at h3
    · rename_i ys zs hy hz
      cases h3
      refine PI.weak pz fun σ H R => ?_
      rintro ⟨F, fps, s, q⟩
      refine ⟨F, fps, s, fun v F1 fps1 H1 fp1 r1 => ⟨F1, fps1, r1.sk, fun w F2 fps2 H2 fp2 r2 => ?_⟩⟩
      have rv := r1.seq r2
      have t1 := r2.st.tr r1.rs.one_inv fun x m => (r1.ap x m).2
      obtain ⟨p1, ws1, rfl, g1, g2⟩ := t1.tupl rv.sk.sub hy
      obtain ⟨p2, ws2, rfl, k1, k2⟩ := r2.rs.one_inv.tupl rv.sk.sub hz
      refine ⟨p1, p2, ws1, ws2, rfl, .inr ⟨sqT_mono rv.sk.sub g1, sqT_mono rv.sk.sub k1, q _ _ _ _ _ rv.src (it_pair (G := fun H => SqT X.K H p1 ws1 ∧ SqT X.K H p2 ws2) (walk_zipT (by rw [hlen, g2.length, k2.length])) (fun F' W' H' st ex => ⟨sqT_mono ex (sqT_mono st.f g1), sqT_mono ex (sqT_mono st.f k1)⟩) fun i v w hi h3 h4 => ?_)⟩⟩
      obtain ⟨d, h5, h6⟩ := g2.getV h3
      obtain ⟨d', h7, h8⟩ := k2.getV h4
      exact ⟨d, d', zipL_get h5 h7, h6, h8⟩
    · cases h3
end
end Mi
/-! Targets, comprehensions. -/
namespace Mi
open PySem L2 PyProof.Rows

/-! ### targets -/
def TIg (K : Frg) (env : SEnv) (t : AV) (env' : SEnv) (nms : List Nat) : TG := fun v σ H k => ∃ F fps fp, SK K F fps σ H env ∧ TR K F H v t fp ∧ fp.Nodup ∧ (∀ a ∈ fp, F a = none ∧ ¬ ownd fps a) ∧
  ∀ σ' fps', SK K F fps' σ' H env' → (∀ a, ownd fps' a → ownd fps a ∨ a ∈ fp) → (∀ j, j ∉ nms → σ'[j]? = σ[j]?) → k σ' H
def TIgs (K : Frg) (env : SEnv) (ts : List AV) (env' : SEnv) (nms : List Nat) : TGs := fun vs σ H k => ∃ F fps fp, SK K F fps σ H env ∧ TRs K F H vs ts fp ∧ fp.Nodup ∧ (∀ a ∈ fp, F a = none ∧ ¬ ownd fps a) ∧
  ∀ σ' fps', SK K F fps' σ' H env' → (∀ a, ownd fps' a → ownd fps a ∨ a ∈ fp) → (∀ j, j ∉ nms → σ'[j]? = σ[j]?) → k σ' H
def PGx (X : Cx) (m : E) (tg : Expr) : Prop := ∀ env t env', asgT m t env = some env' → PG X tg (TIg X.K env t env' (tgNames m))
def PGsx (X : Cx) (m : E) (tgs : List Expr) : Prop := ∀ env ts env', asgT.asgTs m ts env = some env' → PGs X tgs (TIgs X.K env ts env' (tgNames m))
theorem PG.weak {X : Cx} {tg : Expr} {g g' : TG} (h : PG X tg g) (w : ∀ v σ H k, g' v σ H k → g v σ H k) : PG X tg g' := ⟨fun pins s σ H v u Q I r q => h.run pins s σ H v u Q I r (w v σ H Q q)⟩
theorem PGs.weak {X : Cx} {tg : List Expr} {g g' : TGs} (h : PGs X tg g) (w : ∀ v σ H k, g' v σ H k → g v σ H k) : PGs X tg g' := ⟨fun pins s σ H v u Q I r q => h.run pins s σ H v u Q I r (w v σ H Q q)⟩

section
variable {K : Frg} {F H : Hp} {fps : Fps} {σ : L2.St} {env : SEnv}
theorem SK.store (s : SK K F fps σ H env) {i : Nat} {v : V} {t : AV} {fp : List Addr} (hi : i < env.length) (h : TR K F H v t fp) (nd : fp.Nodup) (ap : ∀ a ∈ fp, F a = none ∧ ¬ ownd fps a) : SK K F (fpsU fps i fp) (σ.set i (some v)) H (env.set i (some t)) := by
  have s1 : SK K F fps (σ.set i (some v)) H (env.set i none) := by
    refine ⟨fun j u e => ?_, s.nd, s.dis, s.free, s.there, s.sub, by rw [List.length_set, List.length_set]; exact s.len⟩
    by_cases hj : j = i
    · subst hj
      exact (set_none_no e).elim
    · rw [List.getElem?_set_ne (Ne.symm hj)] at e ⊢
      exact s.slot j u e
  have := s1.put (i := i) (v := v) (t := t) (fq := fp) (List.getElem?_set_self (by rw [s.len]; exact hi)) h nd ap
  rw [List.set_set] at this
  exact this
theorem SK.wipeS (s : SK K F fps σ H env) : ∀ is : List Nat, SK K F fps (L2.wipe σ is) H (wipeE env is)
  | [] => s
  | i :: is => by
    have h := SK.wipeS s is
    refine ⟨fun j u e => ?_, h.nd, h.dis, h.free, h.there, h.sub, ?_⟩
    · have e' : ((wipeE env is).set i none)[j]? = some (some u) := e
      by_cases hj : j = i
      · subst hj
        exact (set_none_no e').elim
      · rw [List.getElem?_set_ne (Ne.symm hj)] at e'
        obtain ⟨v, h1, h2⟩ := h.slot j u e'
        refine ⟨v, ?_, h2⟩
        show ((L2.wipe σ is).set i none)[j]? = _
        rw [List.getElem?_set_ne (Ne.symm hj)]
        exact h1
    · show ((L2.wipe σ is).set i none).length = ((wipeE env is).set i none).length
      rw [List.length_set, List.length_set]
      exact h.len
theorem wipe_get {σ : L2.St} {j : Nat} : ∀ {is : List Nat}, j ∉ is → (L2.wipe σ is)[j]? = σ[j]?
  | [], _ => rfl
  | i :: is, h => by
    show ((L2.wipe σ is).set i none)[j]? = _
    rw [List.getElem?_set_ne (fun z => h (by rw [z]; exact List.mem_cons_self))]
    exact wipe_get fun z => h (List.mem_cons_of_mem _ z)
theorem wipe_in {σ : L2.St} {j : Nat} : ∀ {is : List Nat}, j ∈ is → j < σ.length → (L2.wipe σ is)[j]? = some none
  | i :: is, h, hl => by
    show ((L2.wipe σ is).set i none)[j]? = _
    by_cases hj : i = j
    · subst hj
      exact List.getElem?_set_self (by rw [wipe_length]; exact hl)
    · rw [List.getElem?_set_ne hj]
      rcases List.mem_cons.mp h with z | z
      · exact absurd z.symm hj
      · exact wipe_in z hl
theorem wipe_eq {σ τ : L2.St} {is : List Nat} (hl : τ.length = σ.length) (h : ∀ j, j ∉ is → τ[j]? = σ[j]?) : L2.wipe τ is = L2.wipe σ is := by
  apply List.ext_getElem?
  intro j
  by_cases hj : j ∈ is
  · by_cases hlt : j < σ.length
    · rw [wipe_in hj hlt, wipe_in hj (by rw [hl]; exact hlt)]
    · rw [List.getElem?_eq_none (by rw [wipe_length, hl]; omega), List.getElem?_eq_none (by rw [wipe_length]; omega)]
  · rw [wipe_get hj, wipe_get hj]
    exact h j hj
/-- from the wiped slots back to the slots -/
theorem SK.unwipe {is : List Nat} (s : SK K F fps (L2.wipe σ is) H env) : SK K F fps σ H (wipeE env is) := by
  have key : ∀ is2 : List Nat, SK K F fps (L2.wipe σ is) H (wipeE env is2) := fun is2 => s.wipe is2
  have w := key is
  refine ⟨fun j u e => ?_, w.nd, w.dis, w.free, w.there, w.sub, by rw [← w.len, wipe_length]⟩
  obtain ⟨v, h1, h2⟩ := w.slot j u e
  exact ⟨v, (wipe_some h1).1, h2⟩
theorem SK.putSlots {F' H' : Hp} {fps' : Fps} {e1 : SEnv} (s0 : SK K F' fps' σ H' e1) (ex : Ext F' F) (s : SK K F fps σ H env) : ∀ is : List Nat, ∃ fps2, SK K F fps2 σ H (Mi.putSlots env e1 is) ∧ ∀ a, ownd fps2 a → ownd fps a
  | [] => ⟨fps, s, fun _ h => h⟩
  | i :: is => by
    obtain ⟨fps2, h1, h2⟩ := SK.putSlots s0 ex s is
    show ∃ fps3, SK K F fps3 σ H ((Mi.putSlots env e1 is).set i (match getv e1 i with
      | some (.d x) => some (.d x)
      | _ => none)) ∧ _
    split
    · rename_i x hx
      obtain ⟨v, g1, g2⟩ := s0.slot i _ (getv_some hx)
      refine ⟨_, h1.put g1 (.d (g2.rp.mono ex)) List.nodup_nil fun _ m => (nomatch m), fun a m => ?_⟩
      exact h2 a ((ownd_put m).elim id fun m => nomatch m)
    · exact ⟨fps2, h1.drop i, h2⟩
end

section
variable {X : Cx} {m a b : E} {x y : Expr} {es : List Expr} {pos : Pos} {i : Nat} {nm : Str}
theorem g_name (hN : X.N.Nodup) (hi : X.N[i]? = some nm) (hx : Loc X.env.scope nm) (hf : X.fn nm = true ∨ X.env.scope.names.lookup nm = some .local) : PGx X (.ref i) (.Name nm pos) := by
  intro env t env' h
  simp only [asgT] at h
  split at h
  · rename_i hl
    cases h
    refine PG.weak (pg_name hN hi hx hf) fun v σ H k => ?_
    rintro ⟨F, fps, fp, s, tr, nd, ap, q⟩
    refine q _ _ (s.store hl tr nd ap) (fun a m => ownd_put m) fun j hj => ?_
    rw [List.getElem?_set_ne]
    intro z
    exact hj (by rw [← z]; exact List.mem_cons_self)
  · cases h
theorem gs_nil : PGsx X .nil [] := by
  intro env ts env' h
  cases ts with
  | nil =>
    simp only [asgT.asgTs] at h
    cases h
    refine PGs.weak pgs_nil fun v σ H k => ?_
    rintro ⟨F, fps, fp, s, tr, nd, ap, q⟩
    cases tr
    exact ⟨rfl, q _ _ s (fun _ h => .inl h) fun _ _ => rfl⟩
  | cons t ts => simp [asgT.asgTs] at h
theorem gs_cons (ha : PGx X (.ref i) x) (hb : PGsx X b es) (hs : (assignEach (x :: es) X.env).map (·.2) = assign x X.env :: (assignEach es X.env).map (·.2)) : PGsx X (.cons (.ref i) b) (x :: es) := by
  intro env ts env' h
  cases ts with
  | nil => simp [asgT.asgTs] at h
  | cons t ts =>
    simp only [asgT.asgTs] at h
    split at h
    · rename_i hl
      refine PGs.weak (pgs_cons (ha env t (env.set i (some t)) (by simp only [asgT]; rw [if_pos hl])) (hb _ _ _ h) hs) fun v σ H k => ?_
      rintro ⟨F, fps, fp, s, tr, nd, ap, q⟩
      cases tr with
      | cons h1 h2 =>
        rename_i v vs fa fb
        have nd1 := (List.nodup_append.mp nd).1
        have nd2 := (List.nodup_append.mp nd).2.1
        have dj : ∀ x ∈ fa, x ∉ fb := fun x hx hy => (List.nodup_append.mp nd).2.2 x hx x hy rfl
        refine ⟨v, vs, rfl, F, fps, fa, s, h1, nd1, fun a m => ap a (List.mem_append_left _ m), fun σ1 fps1 s1 w1 k1 => ?_⟩
        refine ⟨F, fps1, fb, s1, h2, nd2, fun a m => ⟨(ap a (List.mem_append_right _ m)).1, fun z => ?_⟩, fun σ2 fps2 s2 w2 k2 => ?_⟩
        · rcases w1 a z with z | z
          · exact (ap a (List.mem_append_right _ m)).2 z
          · exact dj a z m
        · refine q σ2 fps2 s2 (fun a m => ?_) fun j hj => ?_
          · rcases w2 a m with m | m
            · rcases w1 a m with m | m
              · exact .inl m
              · exact .inr (List.mem_append_left _ m)
            · exact .inr (List.mem_append_right _ m)
          · rw [k2 j fun z => hj (List.mem_append_right _ z), k1 j fun z => hj (List.mem_append_left _ z)]
    · cases h
def cl : E → Nat
  | .cons _ b => cl b + 1
  | _ => 0
theorem asgTs_len : ∀ (m : E) (ts : List AV) (env env' : SEnv), asgT.asgTs m ts env = some env' → ts.length = cl m := by
  intro m
  induction m with
  | cons a b _ ihb =>
    intro ts env env' h
    cases ts with
    | nil => simp [asgT.asgTs] at h
    | cons t ts =>
      show ts.length + 1 = cl b + 1
      unfold asgT.asgTs at h
      split at h
      · rename_i e1 e2
        cases e1
      · rename_i i r t' ts' env2 e1 e2
        cases e1
        cases e2
        split at h
        · rw [ihb _ _ _ h]
        · cases h
      · rename_i i j r t' ts' env2 e1 e2
        cases e1
        cases e2
        split at h
        · split at h
          · rw [ihb _ _ _ h]
          · cases h
        · cases h
      · cases h
  | _ =>
    intro ts env env' h
    cases ts with
    | nil => first | rfl
    | cons t ts => first | (simp [asgT.asgTs] at h; done) | cases h
/-- a nested pair of names -/
theorem gs_cons2 {j : Nat} {k2 : Nat} {p2 : Pos} (hcalm : X.calm = true) (ha : PGx X (.ref i) x) (hy : PGx X (.ref j) y) (hb : PGsx X b es) (hn : (assignEach [x, y] X.env).length = 2) (hst : (assignEach [x, y] X.env).findIdx? (·.1) = none)
    (hs1 : (assignEach [x, y] X.env).map (·.2) = assign x X.env :: (assignEach [y] X.env).map (·.2)) (hs2 : (assignEach [y] X.env).map (·.2) = assign y X.env :: (assignEach [] X.env).map (·.2))
    (hs : (assignEach (.Tuple [x, y] k2 p2 :: es) X.env).map (·.2) = assign (.Tuple [x, y] k2 p2) X.env :: (assignEach es X.env).map (·.2)) : PGsx X (.cons (.tup (.cons (.ref i) (.cons (.ref j) .nil))) b) (.Tuple [x, y] k2 p2 :: es) := by
  intro env ts env' h
  cases ts with
  | nil => simp [asgT.asgTs] at h
  | cons t ts =>
    simp only [asgT.asgTs] at h
    split at h
    · rename_i d1 d2
      split at h
      · rename_i hl
        have two := gs_cons ha (gs_cons hy gs_nil hs2) hs1 env [.d d1, .d d2] ((env.set i (some (.d d1))).set j (some (.d d2))) (by
          simp only [asgT.asgTs]
          rw [if_pos hl.1, if_pos (by rw [List.length_set]; exact hl.2)])
        refine PGs.weak (pgs_cons (pg_tup hcalm two hn hst) (hb _ _ _ h) hs) fun v σ H k => ?_
        rintro ⟨F, fps, fp, s, tr, nd, ap, q⟩
        cases tr with
        | cons h1 h2 =>
          rename_i v vs fa fb
          obtain ⟨p, ws, rfl, g1, g2⟩ := h1.rp.tup_inv
          have hfa : fa = [] := by
            cases h1
            rfl
          subst hfa
          refine ⟨_, vs, rfl, p, ws, rfl, sqT_mono s.sub g1, by rw [g2.length]; rfl, F, fps, [], s, TRs.ofRp g2, List.nodup_nil, fun _ m => (nomatch m), fun σ1 fps1 s1 w1 k1 => ?_⟩
          refine ⟨F, fps1, fb, s1, h2, nd, fun a m => ⟨(ap a m).1, fun z => (ap a m).2 ((w1 a z).elim id fun m => nomatch m)⟩, fun σ2 fps2 s2 w2 k2 => ?_⟩
          refine q σ2 fps2 s2 (fun a m => ?_) fun j hj => ?_
          · rcases w2 a m with m | m
            · exact .inl ((w1 a m).elim id fun m => nomatch m)
            · exact .inr m
          · rw [k2 j fun z => hj (List.mem_append_right _ z), k1 j fun z => hj (List.mem_append_left _ z)]
      · cases h
    · cases h
theorem g_tup {k2 : Nat} (hcalm : X.calm = true) (h : PGsx X m es) (hn : (assignEach es X.env).length = cl m) (hst : (assignEach es X.env).findIdx? (·.1) = none) : PGx X (.tup m) (.Tuple es k2 pos) := by
  intro env t env' e
  simp only [asgT] at e
  split at e
  · rename_i xs
    have hl := asgTs_len _ _ _ _ e
    refine PG.weak (pg_tup hcalm (h _ _ _ e) hn hst) fun v σ H k => ?_
    rintro ⟨F, fps, fp, s, tr, nd, ap, q⟩
    obtain ⟨p, ws, rfl, g1, g2⟩ := tr.rp.tup_inv
    have hfa : fp = [] := by
      cases tr
      rfl
    subst hfa
    exact ⟨p, ws, rfl, sqT_mono s.sub g1, by rw [g2.length, ← hl, List.length_map], F, fps, [], s, TRs.ofRp g2, List.nodup_nil, fun _ m => (nomatch m), q⟩
  · rename_i xs
    have hl := asgTs_len _ _ _ _ e
    refine PG.weak (pg_unl hcalm (h _ _ _ e) hn hst) fun v σ H k => ?_
    rintro ⟨F, fps, fp, s, tr, nd, ap, q⟩
    obtain ⟨p, ws, rfl, g1, g2⟩ := tr.rp.lst_inv
    have hfa : fp = [] := by
      cases tr
      rfl
    subst hfa
    exact ⟨p, ws, rfl, sqL_mono s.sub g1, by rw [g2.length, ← hl, List.length_map], F, fps, [], s, TRs.ofRp g2, List.nodup_nil, fun _ m => (nomatch m), q⟩
  · rename_i us
    have hl := asgTs_len _ _ _ _ e
    refine PG.weak (pg_tup hcalm (h _ _ _ e) hn hst) fun v σ H k => ?_
    rintro ⟨F, fps, fp, s, tr, nd, ap, q⟩
    cases tr with
    | tup g1 g2 => exact ⟨_, _, rfl, sqT_mono s.sub g1, by rw [g2.length, ← hl], F, fps, fp, s, g2, nd, ap, q⟩
  · cases e
end
end Mi
/-! Comprehensions. -/
namespace Mi
open PySem L2 PyProof.Rows

section
variable {K : Frg} {σ τ : L2.St} {env env' : SEnv} {os : List Opd} {F F1 F2 H H1 H2 : Hp} {fps fps1 fps2 : Fps} {vs : List V} {fp : List Addr}
/-- the slots change under what waits -/
theorem RVs.reslot {v : V} {t : AV} (a : RVs K σ env [.val t] F fps H [v] F1 fps1 H1 fp) (s : SK K F1 fps2 τ H1 env') (w : ∀ a, ownd fps2 a → ownd fps1 a) : RVs K τ env' [.val t] F fps H [v] F1 fps2 H1 fp :=
  ⟨s, .one a.rs.one_inv, a.nd, fun x m => ⟨(a.ap x m).1, fun z => (a.ap x m).2 (w x z)⟩, a.st.weak fun x h => h.elim (fun z => .inl (w x z)) .inr⟩
theorem RVs.reslot0 (a : RVs K σ env os F fps H vs F1 fps1 H1 fp) (s : SK K F1 fps2 τ H1 env') (w : ∀ a, ownd fps2 a → ownd fps1 a) : RVs K τ env' [] F fps H [] F1 fps2 H1 [] :=
  ⟨s, .nil, List.nodup_nil, fun _ m => (nomatch m), a.st.weak fun x h => h.elim (fun z => .inl (w x z)) fun m => nomatch m⟩
theorem TR.own_inv {v : V} {ts : List AV} {fp : List Addr} (h : TR K F H v (.own ts) fp) : ∃ a ws f, v = .ref a ∧ fp = a :: f ∧ H a = some (.lst ws) ∧ TRs K F H ws ts f := by
  cases h with
  | own h hs => exact ⟨_, _, _, rfl, rfl, h, hs⟩
theorem TR.odk_inv {v : V} {ks : List Key} {ts : List AV} {fp : List Addr} (h : TR K F H v (.odk ks ts) fp) : ∃ a kvs f, v = .ref a ∧ fp = a :: f ∧ H a = some (.dK kvs) ∧ kvs.map (·.1) = ks ∧ TRs K F H (kvs.map (·.2)) ts f := by
  cases h with
  | odk h hk hs => exact ⟨_, _, _, rfl, rfl, h, hk, hs⟩
/-- the waiting list takes the value that waits behind it -/
theorem RVs.push {l : Addr} {acc : List V} {y : V} {ts : List AV} {t : AV} (a : RVs K σ env [.val (.own ts), .val t] F fps H [.ref l, y] F1 fps1 H1 fp) (hl : H1 l = some (.lst acc)) :
    ∃ fq, RVs K σ env [.val (.own (ts ++ [t]))] F fps H [.ref l] F1 fps1 (upd H1 l (.lst (acc ++ [y]))) fq ∧ acc.length = ts.length := by
  obtain ⟨sk, rs, nd, ap, st⟩ := a
  cases rs with
  | val h hs =>
    rename_i fa fb
    have hb := hs.one_inv
    cases h with
    | own h1 h2 =>
      rename_i ws fc
      rw [hl] at h1
      cases h1
      have nd1 := (List.nodup_append.mp nd).1
      have dj : ∀ x ∈ l :: fc, x ∉ fb := fun x hx hy => (List.nodup_append.mp nd).2.2 x hx x hy rfl
      have nl : l ∉ fc ++ fb := fun m => (List.mem_append.mp m).elim (List.nodup_cons.mp nd1).1 (dj l List.mem_cons_self)
      have nd' : (l :: (fc ++ fb)).Nodup := List.nodup_cons.mpr ⟨nl, List.nodup_append.mpr ⟨(List.nodup_cons.mp nd1).2, (List.nodup_append.mp nd).2.1, fun x hx w hw z => dj x (List.mem_cons_of_mem _ hx) (z ▸ hw)⟩⟩
      have inn : ∀ x, x ∈ l :: (fc ++ fb) → x ∈ (l :: fc) ++ fb := fun x m => by
        rw [List.cons_append]
        exact m
      have wl : ¬ ownd fps1 l := (ap l (inn l List.mem_cons_self)).2
      have keep : ∀ x u, H1 x = some u → x ≠ l → upd H1 l (.lst (acc ++ [y])) x = some u := fun x u e n => by
        rw [upd_ne n]
        exact e
      refine ⟨l :: (fc ++ fb), ⟨?_, .one (.own upd_same ?_), nd', fun x m => ap x (inn x m), ?_⟩, h2.length⟩
      · refine ⟨fun i u e => ?_, sk.nd, sk.dis, sk.free, fun i x m => ?_, fun x u e => ?_, sk.len⟩
        · obtain ⟨v, g1, g2⟩ := sk.slot i u e
          exact ⟨v, g1, g2.mono (Ext.refl _) fun x m o e => keep x o e fun z => wl ⟨i, by rw [← z]; exact m⟩⟩
        · obtain ⟨o, e⟩ := sk.there i x m
          exact ⟨o, keep x o e fun z => wl ⟨i, by rw [← z]; exact m⟩⟩
        · have nx : x ≠ l := fun z => by
            have f0 := (ap l (inn l List.mem_cons_self)).1
            rw [z] at e
            rcases e with e | ⟨ob, e⟩ <;> rw [f0] at e <;> cases e
          rcases sk.sub x u e with g | ⟨ob, g⟩
          · exact .inl (keep x _ g nx)
          · exact .inr ⟨ob, keep x _ g nx⟩
      · exact (h2.append (.one hb)).off nl
      · refine ⟨st.f, fun x u e n => ?_, st.n, fun x m => st.w x (m.elim .inl fun m => .inr (inn x m))⟩
        have nx : x ≠ l := fun z => by
          rcases st.w l (.inr (inn l List.mem_cons_self)) with w | w
          · exact n (by rw [z]; exact w)
          · rw [z, w] at e
            cases e
        exact keep x u (st.k x u e n) nx
/-- behind a loop: what was held goes back -/
theorem Src.back {rs : Option (Nat × AV)} {fh : List Addr} {t : AV} {v : V} (s : Src K σ env rs F fps H F1 fps1 H1 fh) (a : RVs K τ env' [.val t] F1 fps1 H1 [v] F2 fps2 H2 fp) (hσ : ∀ p, rs = some p → τ[p.1]? = σ[p.1]?) :
    ∃ fps3, RVs K τ (putBack rs env') [.val t] F fps H [v] F2 fps3 H2 fp := by
  cases rs with
  | none => exact ⟨fps2, a.sk, a.rs, a.nd, a.ap, (s.st.weak (W2 := ownd fps1) fun x h => .inl h).trans a.st⟩
  | some p =>
    obtain ⟨v0, h1, h2⟩ := s.held
    have key : ∀ x ∈ fh, H2 x ≠ none ∧ ¬ (ownd fps2 x ∨ x ∈ fp) ∧ F2 x = none := fun x m => by
      obtain ⟨o, e⟩ := h2.there x m
      obtain ⟨f0, w0⟩ := s.ap x m
      obtain ⟨g1, g2, g3⟩ := a.st.apart e w0
      exact ⟨by rw [g1]; simp, g2, g3 f0⟩
    have sk3 := a.sk.put (i := p.1) (v := v0) (by rw [hσ p rfl]; exact h1) (a.st.tr h2 fun x m => (s.ap x m).2) s.nd fun x m => ⟨(key x m).2.2, fun z => (key x m).2.1 (.inl z)⟩
    refine ⟨_, sk3, .one a.rs.one_inv, a.nd, fun x m => ⟨(a.ap x m).1, fun z => ?_⟩, (s.st.trans (a.st.frame fun x => x ∈ fh)).weak fun x m => ?_⟩
    · rcases ownd_put z with z | z
      · exact (a.ap x m).2 z
      · exact (key x z).2.1 (.inr m)
    · rcases m with m | m
      · rcases ownd_put m with m | m
        · exact .inl (.inl m)
        · exact .inr m
      · exact .inl (.inr m)
theorem Src.back0 {rs : Option (Nat × AV)} {fh : List Addr} (s : Src K σ env rs F fps H F1 fps1 H1 fh) (a : RVs K τ env' [] F1 fps1 H1 [] F2 fps2 H2 []) (hσ : ∀ p, rs = some p → τ[p.1]? = σ[p.1]?) :
    ∃ fps3, RVs K τ (putBack rs env') [] F fps H [] F2 fps3 H2 [] := by
  have a' : RVs K τ env' [.val (.d .none)] F1 fps1 H1 [.non] F2 fps2 H2 [] := a.dat .non
  obtain ⟨fps3, r⟩ := s.back a' hσ
  exact ⟨fps3, r.drop⟩
end

section
variable {K : Frg} {σ : L2.St} {env : SEnv} {F F1 H H1 : Hp} {fps fps1 : Fps} {fp : List Addr}
theorem TRs.oputM {z : V} {x : PyData} {k : Key} (hz : Rp K F z x) : ∀ {kvs : List (Key × V)} {ts : List AV} {f : List Addr}, TRs K F H (kvs.map (·.2)) ts f →
    ∃ f', TRs K F H ((kvs.map fun kv => if kv.1 = k then (kv.1, z) else kv).map (·.2)) (((kvs.map (·.1)).zip ts).map fun p => if p.1 = k then .d x else p.2) f' ∧ f'.Sublist f
  | [], _, _, .nil => ⟨[], .nil, List.Sublist.refl _⟩
  | (j, v) :: kvs, _, _, .cons (fp := fa) (fq := fb) h hs => by
    obtain ⟨f', h1, h2⟩ := TRs.oputM hz hs
    by_cases e : j = k
    · refine ⟨[] ++ f', ?_, (List.nil_sublist fa).append h2⟩
      rw [List.map_cons, List.map_cons, List.map_cons, List.zip_cons_cons, List.map_cons, if_pos (show ((j, v) : Key × V).1 = k from e), if_pos (show ((j, _) : Key × AV).1 = k from e)]
      exact .cons (.d hz) h1
    · refine ⟨fa ++ f', ?_, (List.Sublist.refl fa).append h2⟩
      rw [List.map_cons, List.map_cons, List.map_cons, List.zip_cons_cons, List.map_cons, if_neg (show ¬ ((j, v) : Key × V).1 = k from e), if_neg (show ¬ ((j, _) : Key × AV).1 = k from e)]
      exact .cons h h1
theorem TRs.oput {z : V} {x : PyData} (k : Key) (hz : Rp K F z x) {kvs : List (Key × V)} {ts : List AV} {f : List Addr} (h : TRs K F H (kvs.map (·.2)) ts f) :
    ∃ f', TRs K F H ((putK kvs k z).map (·.2)) (Mi.oput (kvs.map (·.1)) ts k (.d x)).2 f' ∧ (putK kvs k z).map (·.1) = (Mi.oput (kvs.map (·.1)) ts k (.d x)).1 ∧ f'.Sublist f := by
  have ha : ((kvs.map (·.1)).any fun j => decide (j = k)) = kvs.any fun kv => decide (kv.1 = k) := by
    rw [List.any_map]
    rfl
  unfold putK Mi.oput
  rw [ha]
  split
  · obtain ⟨f', h1, h2⟩ := TRs.oputM (k := k) hz h
    refine ⟨f', h1, ?_, h2⟩
    rw [List.map_map]
    apply List.map_congr_left
    intro p _
    show (if p.1 = k then (p.1, z) else p).1 = p.1
    split <;> rfl
  · refine ⟨f ++ [], ?_, by rw [List.map_append]; rfl, by rw [List.append_nil]; exact List.Sublist.refl _⟩
    rw [List.map_append]
    exact h.append (.one (.d hz))
/-- the waiting dict takes a frozen value at a key -/
theorem RVs.pushD {l : Addr} {kvs : List (Key × V)} {y : V} {ks : List Key} {ts : List AV} {x : PyData} {k : Key} (a : RVs K σ env [.val (.odk ks ts)] F fps H [.ref l] F1 fps1 H1 fp) (hy : Rp K F1 y x) (hl : H1 l = some (.dK kvs)) :
    ∃ fq, RVs K σ env [.val (.odk (Mi.oput ks ts k (.d x)).1 (Mi.oput ks ts k (.d x)).2)] F fps H [.ref l] F1 fps1 (upd H1 l (.dK (putK kvs k y))) fq ∧ kvs.length = ks.length := by
  obtain ⟨sk, rs, nd, ap, st⟩ := a
  obtain ⟨p, kvs2, f, ep, rfl, h1, hk, h2⟩ := rs.one_inv.odk_inv
  cases ep
  rw [hl] at h1
  cases h1
  subst hk
  obtain ⟨f', g1, g2, g3⟩ := h2.oput k hy
  have nl : l ∉ f := (List.nodup_cons.mp nd).1
  have nl' : l ∉ f' := fun m => nl (g3.subset m)
  have wl : ¬ ownd fps1 l := (ap l List.mem_cons_self).2
  have inn : ∀ x, x ∈ l :: f' → x ∈ l :: f := fun x m => (List.mem_cons.mp m).elim (fun z => by rw [z]; exact List.mem_cons_self) fun z => List.mem_cons_of_mem _ (g3.subset z)
  have keep : ∀ x u, H1 x = some u → x ≠ l → upd H1 l (.dK (putK kvs k y)) x = some u := fun x u e n => by
    rw [upd_ne n]
    exact e
  refine ⟨l :: f', ⟨?_, .one (.odk upd_same g2 (g1.off nl')), List.nodup_cons.mpr ⟨nl', (List.nodup_cons.mp nd).2.sublist g3⟩, fun x m => ap x (inn x m), ?_⟩, by rw [List.length_map]⟩
  · refine ⟨fun i u e => ?_, sk.nd, sk.dis, sk.free, fun i x m => ?_, fun x u e => ?_, sk.len⟩
    · obtain ⟨v, g1, g2⟩ := sk.slot i u e
      exact ⟨v, g1, g2.mono (Ext.refl _) fun x m o e => keep x o e fun z => wl ⟨i, by rw [← z]; exact m⟩⟩
    · obtain ⟨o, e⟩ := sk.there i x m
      exact ⟨o, keep x o e fun z => wl ⟨i, by rw [← z]; exact m⟩⟩
    · have nx : x ≠ l := fun z => by
        have f0 := (ap l List.mem_cons_self).1
        rw [z] at e
        rcases e with e | ⟨ob, e⟩ <;> rw [f0] at e <;> cases e
      rcases sk.sub x u e with g | ⟨ob, g⟩
      · exact .inl (keep x _ g nx)
      · exact .inr ⟨ob, keep x _ g nx⟩
  · refine ⟨st.f, fun x u e n => ?_, st.n, fun x m => st.w x (m.elim .inl fun m => .inr (inn x m))⟩
    have nx : x ≠ l := fun z => by
      rcases st.w l (.inr List.mem_cons_self) with w | w
      · exact n (by rw [z]; exact w)
      · rw [z, w] at e
        cases e
    exact keep x u (st.k x u e n) nx
end

section
variable {Φ : Phi} {X : Cx}
/-- a comprehension's test -/
def PCp (Φ : Phi) (X : Cx) (m : E) (ifs : List Expr) : Prop := ∀ env env' b, evC Φ m env = some (b, env') → PTs X ifs (TIt X.K env env' b)
theorem PTs.weak {ifs : List Expr} {t t' : TT} (h : PTs X ifs t) (w : ∀ σ H Q, t' σ H Q → t σ H Q) : PTs X ifs t' := ⟨fun pins s σ H Q I q => h.run pins s σ H Q I (w σ H Q q)⟩
theorem c_nil : PCp Φ X .nil [] := by
  intro env env' b h
  simp only [evC] at h
  cases h
  refine PTs.weak pts_nil fun σ H Q => ?_
  rintro ⟨F, fps, s, q⟩
  exact q F fps H s.start
theorem c_one {c : E} {x : Expr} (h : PTp Φ X c x) : PCp Φ X (.cons c .nil) [x] := fun env env' b q => pts_one (h _ _ _ (by simpa only [evC] using q))
/-- readings over all values -/
def gU (K : Frg) (m : E) : TG := fun v σ H k => ∃ env t env', asgT m t env = some env' ∧ TIg K env t env' (tgNames m) v σ H k
def ttU (Φ : Phi) (K : Frg) (m : E) : TT := fun σ H k => ∃ env env' b, evC Φ m env = some (b, env') ∧ TIt K env env' b σ H k
def teU (Φ : Phi) (K : Frg) (m : E) : TE := fun σ H k => ∃ env env' t, evE Φ m env = some (t, env') ∧ TIe K env env' t σ H k
theorem PGx.u {m : E} {tg : Expr} (h : PGx X m tg) : PG X tg (gU X.K m) := ⟨fun pins s σ H v u Q I r ⟨env, t, env', e, q⟩ => (h _ _ _ e).run pins s σ H v u Q I r q⟩
theorem PCp.u {m : E} {ifs : List Expr} (h : PCp Φ X m ifs) : PTs X ifs (ttU Φ X.K m) := ⟨fun pins s σ H Q I ⟨env, env', b, e, q⟩ => (h _ _ _ e).run pins s σ H Q I q⟩
theorem PEp.u {m : E} {x : Expr} (h : PEp Φ X m x) : PE X x (teU Φ X.K m) := ⟨fun pins s σ H Q I ⟨env, env', t, e, q⟩ => (h _ _ _ e).run pins s σ H Q I q⟩

theorem drop_cons {α : Type} {xs : List α} {i : Nat} {d : α} (h : xs[i]? = some d) : xs.drop i = d :: xs.drop (i + 1) := by
  have hlt : i < xs.length := by
    rcases Nat.lt_or_ge i xs.length with h' | h'
    · exact h'
    · rw [List.getElem?_eq_none h'] at h
      cases h
  rw [List.getElem?_eq_getElem hlt] at h
  rw [← Option.some.inj h]
  exact List.drop_eq_getElem_cons hlt

theorem asgTs_env : ∀ (m : E) (ts : List AV) (env env' : SEnv), asgT.asgTs m ts env = some env' → env'.length = env.length := by
  intro m
  induction m with
  | cons a b _ ihb =>
    intro ts env env' h
    cases ts with
    | nil => simp [asgT.asgTs] at h
    | cons t ts =>
      unfold asgT.asgTs at h
      split at h
      · rename_i e1 e2
        cases e1
      · rename_i i r t' ts' env2 e1 e2
        cases e1
        cases e2
        split at h
        · rw [ihb _ _ _ h, List.length_set]
        · cases h
      · rename_i i j r t' ts' env2 e1 e2
        cases e1
        cases e2
        split at h
        · split at h
          · rw [ihb _ _ _ h, List.length_set, List.length_set]
          · cases h
        · cases h
      · cases h
  | _ =>
    intro ts env env' h
    cases ts with
    | nil => first | (simp only [asgT.asgTs, Option.some.injEq] at h; rw [h]) | (simp [asgT.asgTs] at h; done)
    | cons t ts => first | (simp [asgT.asgTs] at h; done) | cases h
theorem asgT_env {m : E} {t : AV} {env env' : SEnv} (h : asgT m t env = some env') : env'.length = env.length := by
  unfold asgT at h
  split at h
  · split at h
    · cases h
      rw [List.length_set]
    · cases h
  · split at h
    · exact asgTs_env _ _ _ _ h
    · exact asgTs_env _ _ _ _ h
    · exact asgTs_env _ _ _ _ h
    · cases h
  · cases h
abbrev lcTurn (Φ : Phi) (own : List Nat) (mt mc me : E) : PyData → SEnv → Option (Option AV × SEnv) := fun x e => do
        let e' ← asgT mt (.d x) e
        let (k, e'') ← evC Φ mc e'
        if k then do
          let (t, e3) ← evE Φ me e''
          some (some t, wipeE e3 own)
        else some (none, wipeE e'' own)
theorem s_lc (O : Opx X) {mt mi mc me : E} {tg it elt : Expr} {ifs : List Expr} {scope : Scope} {own : List (Str × Nat)} {pos : Pos} (hN : X.N.Nodup) (ok : BlkOk X.N X.env.scope scope own) (hi : PIx Φ X mi tg it)
    (hg : ∀ (s : Shared) (H : Hp) (C : Addr) (cl : List (Str × Addr)) (fp : List Addr), PGx (X.blk s H scope (compEnvC scope cl C X.env) fp) mt tg)
    (ht : ∀ (s : Shared) (H : Hp) (C : Addr) (cl : List (Str × Addr)) (fp : List Addr), PCp Φ (X.blk s H scope (compEnvC scope cl C X.env) fp) mc ifs)
    (he : ∀ (s : Shared) (H : Hp) (C : Addr) (cl : List (Str × Addr)) (fp : List Addr), PEp Φ (X.blk s H scope (compEnvC scope cl C X.env) fp) me elt) (hs : ∀ x, foldedSetIterable it X.env x = pure x)
    (hown : ∀ i ∈ tgNames mt, i ∈ own.map (·.2)) (env env' : SEnv) (r : AV) (hev : evE Φ (.lc (own.map (·.2)) mt mi mc me) env = some (r, env')) :
    ∃ wi, PI X tg it wi ∧ (∀ (s : Shared) (H : Hp) (C : Addr) (cl : List (Str × Addr)) (fp : List Addr), PG (X.blk s H scope (compEnvC scope cl C X.env) fp) tg (gU X.K mt)) ∧
      (∀ (s : Shared) (H : Hp) (C : Addr) (cl : List (Str × Addr)) (fp : List Addr), PTs (X.blk s H scope (compEnvC scope cl C X.env) fp) ifs (ttU Φ X.K mc)) ∧
      (∀ (s : Shared) (H : Hp) (C : Addr) (cl : List (Str × Addr)) (fp : List Addr), PE (X.blk s H scope (compEnvC scope cl C X.env) fp) elt (teU Φ X.K me)) ∧
      ∀ σ H Q, TIe X.K env env' r σ H Q → tLc wi (gU X.K mt) (ttU Φ X.K mc) (teU Φ X.K me) (own.map (·.2)) σ H Q := by
  generalize hO : own.map (·.2) = ow at hev hown
  simp only [evE, Option.bind_eq_bind, Option.bind_eq_some_iff] at hev
  obtain ⟨⟨xs, e1, rs⟩, h1, h2⟩ := hev
  simp only at h2
  split at h2
  · rename_i hfit
    obtain ⟨⟨ts, e2⟩, h3, h4⟩ := Option.bind_eq_some_iff.mp h2
    have h4' : some (AV.own ts, putBack rs (putSlots (wipeE e2 ow) e1 ow)) = some (r, env') := h4
    cases h4'
    refine ⟨_, hi _ _ _ _ h1, fun s H C cl fp => (hg s H C cl fp).u, fun s H C cl fp => (ht s H C cl fp).u, fun s H C cl fp => (he s H C cl fp).u, fun σ H Q => ?_⟩
    rintro ⟨F, fps, s, q⟩
    refine ⟨F, fps, s, fun J F1 fps1 H1 fh src itok D hD => ?_⟩
    obtain ⟨G, Y, wk, hG, hY⟩ := itok
    have hfit' : xs.length ≤ sizeLine := fitL_le hfit
    have h3' : lcLoop (lcTurn Φ ow mt mc me) xs (wipeE e1 ow) = some (ts, e2) := h3
    refine lc_it wk (fun i H => ∃ ei ts1 rest Fi fpi fq, lcLoop (lcTurn Φ ow mt mc me) (xs.drop i) ei = some (rest, e2) ∧ ts1 ++ rest = ts ∧ ts1.length ≤ i ∧ RVs X.K (L2.wipe σ ow) ei [.val (.own ts1)] F1 fps1 H1 [.ref D] Fi fpi H fq) ?_ ?_ ?_ ?_
    · refine ⟨wipeE e1 ow, [], ts, F1, fps1, [D], by simpa using h3', rfl, Nat.le_refl _, ?_⟩
      exact (src.sk.wipeS ow).start.new hD (fun _ m => nomatch m) List.nodup_nil (.own upd_same .nil)
    · rintro i H2 _ ⟨ei, ts1, rest, Fi, fpi, fq, _, _, _, rv⟩
      exact hG _ _ _ rv.st rv.sk.sub
    · rintro i x H2 H3 hlt ⟨ei, ts1, rest, Fi, fpi, fq, hloop, hts, hle, rv⟩ hy
      obtain ⟨d, F3, hd, sk3, st3, rp3, _⟩ := hY i H2 x H3 Fi fpi _ _ hlt rv.sk (rv.st.weak fun _ h => .inl h) hy
      have rv3 := rv.seq (us := []) (ws := []) (fq := []) ⟨sk3, .nil, List.nodup_nil, fun _ m => (nomatch m), st3.weak fun _ h => h.elim id fun m => nomatch m⟩
      simp only [List.append_nil] at rv3
      rw [drop_cons hd] at hloop
      simp only [lcLoop, Option.bind_eq_bind, Option.bind_eq_some_iff] at hloop
      obtain ⟨⟨o, e3⟩, ht1, ⟨rest2, e4⟩, hl2, hr⟩ := hloop
      simp only [lcTurn, Option.bind_eq_bind, Option.bind_eq_some_iff] at ht1
      obtain ⟨e', ha, ⟨k, e''⟩, hc, hk⟩ := ht1
      refine ⟨ei, .d d, e', ha, F3, fpi, [], sk3, .d rp3, List.nodup_nil, fun _ m => (nomatch m), fun σ2 fps2 sk4 w4 k4 => ?_⟩
      have wI : L2.wipe (L2.wipe σ ow) ow = L2.wipe σ ow := wipe_eq (L2.wipe_length σ ow) fun j hj => wipe_get hj
      have wE : L2.wipe σ2 ow = L2.wipe σ ow := by
        refine (wipe_eq ?_ fun j hj => ?_).trans wI
        · have l1 := sk4.len
          have l2 := sk3.len
          have l3 := asgT_env ha
          omega
        · exact k4 j fun z => hj (hown j z)
      refine ⟨wE, ?_⟩
      · have rv4 := rv3.reslot sk4 fun a m => (w4 a m).elim id fun m => nomatch m
        refine ⟨e', e'', k, hc, F3, fps2, sk4, fun F5 fps5 H5 r5 => ?_⟩
        have rv5 := rv4.seq r5
        simp only [List.append_nil] at rv5
        cases k with
        | false =>
          simp only [Bool.false_eq_true, if_false] at hk
          cases hk
          cases hr
          refine iteF ?_
          have sk6 := rv5.sk.wipeS ow
          rw [wE] at sk6
          exact ⟨_, ts1, _, F5, fps5, _, hl2, hts, by omega, rv5.reslot sk6 fun _ h => h⟩
        | true =>
          simp only [if_true, Option.bind_eq_some_iff] at hk
          obtain ⟨⟨t, e5⟩, hev2, hk⟩ := hk
          cases hk
          cases hr
          refine iteT ?_
          refine ⟨e'', e5, t, hev2, F5, fps5, rv5.sk, fun y F6 fps6 H6 fp6 r6 => ?_⟩
          have rv6 := rv5.seq r6
          obtain ⟨acc, hacc⟩ : ∃ acc, H6 D = some (.lst acc) := by
            obtain ⟨p, ws, f, ep, rfl, h1, _⟩ := rv5.rs.one_inv.own_inv
            cases ep
            exact ⟨ws, r6.st.k _ _ h1 (rv5.ap _ List.mem_cons_self).2⟩
          obtain ⟨fq7, rv7, hlen⟩ := rv6.push hacc
          have sk7 := rv7.sk.wipeS ow
          rw [wE] at sk7
          refine ⟨acc, hacc, by omega, _, ts1 ++ [t], rest2, F6, fps6, fq7, hl2, by rw [List.append_assoc]; exact hts, by rw [List.length_append, List.length_singleton]; omega, rv7.reslot sk7 fun _ h => h⟩
    · rintro H2 ⟨ei, ts1, rest, Fi, fpi, fq, hloop, hts, hle, rv⟩
      rw [List.drop_length] at hloop
      simp only [lcLoop] at hloop
      cases hloop
      rw [List.append_nil] at hts
      subst hts
      obtain ⟨fps4, sk4, w4⟩ := SK.putSlots src.sk rv.st.f rv.sk.unwipe ow
      obtain ⟨fps5, rv5⟩ := src.back (rv.reslot sk4 w4) fun _ _ => rfl
      exact q _ _ _ _ _ rv5
  · cases h2

theorem dc_it {J : It} {n : Nat} {G : Hp → Prop} {Y : Nat → Hp → V → Hp → Prop} (w : Walk J n G Y) {g : TG} {tt : TT} {tk tv : TE} {vs : List Nat} {σ : L2.St} {H1 : Hp} {D : Addr} {Qd : Hp → Prop} (Pv : Nat → Hp → Prop) (h0 : Pv 0 (upd H1 D (.dK []))) (hG : ∀ i H, i ≤ n → Pv i H → G H)
    (hs : ∀ i x H H', i < n → Pv i H → Y i H x H' → g x (L2.wipe σ vs) H' fun σ2 H2 => L2.wipe σ2 vs = L2.wipe σ vs ∧ tt σ2 H2 fun b H3 =>
      if b = true then tk σ2 H3 fun y H4 => tv σ2 H4 fun z H5 => ∃ kvs k, y = kV k ∧ H5 D = some (.dK kvs) ∧ kvs.length < sizeLine ∧ Pv (i + 1) (upd H5 D (.dK (putK kvs k z))) else Pv (i + 1) H3) (hd : ∀ H, Pv n H → Qd H) :
    ∃ W : Nat → Nat → Hp → Prop, (∃ m, W 0 m (upd H1 D (.dK []))) ∧ ∀ i m H, W i m H →
      (J.stop i H ∧ Qd H) ∨ (J.go i H ∧ ∃ Nx : Hp → Prop, (∀ H', Nx H' → ∃ m', m' < m ∧ W (i + 1) m' H') ∧ ∀ x H', J.yld i H x H' → g x (L2.wipe σ vs) H' fun σ2 H2 => L2.wipe σ2 vs = L2.wipe σ vs ∧ tt σ2 H2 fun b H3 =>
        if b = true then tk σ2 H3 fun y H4 => tv σ2 H4 fun z H5 => ∃ kvs k, y = kV k ∧ H5 D = some (.dK kvs) ∧ kvs.length < sizeLine ∧ Nx (upd H5 D (.dK (putK kvs k z))) else Nx H3) := by
  refine ⟨fun i m H => m = n - i ∧ i ≤ n ∧ Pv i H, ⟨n, by simp, Nat.zero_le _, h0⟩, ?_⟩
  rintro i m H ⟨rfl, hi, p⟩
  have q := hG i H hi p
  by_cases hlt : i < n
  · refine .inr ⟨w.goes i H hlt q, Pv (i + 1), fun H' p' => ⟨n - (i + 1), by omega, rfl, hlt, p'⟩, fun x H' y => hs i x H H' hlt p (w.yields i H x H' hlt q y)⟩
  · have e : i = n := by omega
    subst e
    exact .inl ⟨w.stops H q, hd H p⟩
theorem oput_len (ks : List Key) (ts : List AV) (k : Key) (t : AV) : (oput ks ts k t).1.length ≤ ks.length + 1 := by
  unfold oput
  split
  · exact Nat.le_succ _
  · simp
abbrev dcTurn (Φ : Phi) (own : List Nat) (mt mc mk mv : E) : PyData → SEnv → Option (Option (Key × AV) × SEnv) := fun x e => do
        let e' ← asgT mt (.d x) e
        let (c, e'') ← evC Φ mc e'
        if c then do
          let (kt, e3) ← evE Φ mk e''
          let (t, e4) ← evE Φ mv e3
          match keyOf? kt.dat with
          | some key => some (some (key, t), wipeE e4 own)
          | none => none
        else some (none, wipeE e'' own)
theorem s_dc0 (O : Opx X) {mt mi mc mk mv : E} {tg it kx vx : Expr} {ifs : List Expr} {scope : Scope} {own : List (Str × Nat)} {pos : Pos} (hi : PIx Φ X mi tg it)
    (hg : ∀ (s : Shared) (H : Hp) (C : Addr) (cl : List (Str × Addr)) (fp : List Addr), PGx (X.blk s H scope (compEnvC scope cl C X.env) fp) mt tg)
    (ht : ∀ (s : Shared) (H : Hp) (C : Addr) (cl : List (Str × Addr)) (fp : List Addr), PCp Φ (X.blk s H scope (compEnvC scope cl C X.env) fp) mc ifs)
    (hk : ∀ (s : Shared) (H : Hp) (C : Addr) (cl : List (Str × Addr)) (fp : List Addr), PEp Φ (X.blk s H scope (compEnvC scope cl C X.env) fp) mk kx)
    (he : ∀ (s : Shared) (H : Hp) (C : Addr) (cl : List (Str × Addr)) (fp : List Addr), PEp Φ (X.blk s H scope (compEnvC scope cl C X.env) fp) mv vx)
    (hown : ∀ i ∈ tgNames mt, i ∈ own.map (·.2)) (env env' : SEnv) (r : AV) (hev : evE Φ (.dc (own.map (·.2)) mt mi mc mk mv) env = some (r, env')) :
    ∃ wi, PI X tg it wi ∧ ∀ σ H Q, TIe X.K env env' r σ H Q → tDc wi (gU X.K mt) (ttU Φ X.K mc) (teU Φ X.K mk) (teU Φ X.K mv) (own.map (·.2)) σ H Q := by
  generalize hO : own.map (·.2) = ow at hev hown
  simp only [evE, Option.bind_eq_bind, Option.bind_eq_some_iff] at hev
  obtain ⟨⟨xs, e1, rs⟩, h1, h2⟩ := hev
  simp only at h2
  split at h2
  · rename_i hfit
    obtain ⟨⟨ks, ts, e2⟩, h3, h4⟩ := Option.bind_eq_some_iff.mp h2
    have h4' : some (AV.odk ks ts, putBack rs (putSlots (wipeE e2 ow) e1 ow)) = some (r, env') := h4
    cases h4'
    refine ⟨_, hi _ _ _ _ h1, fun σ H Q => ?_⟩
    rintro ⟨F, fps, s, q⟩
    refine ⟨F, fps, s, fun J F1 fps1 H1 fh src itok D hD => ?_⟩
    obtain ⟨G, Y, wk, hG, hY⟩ := itok
    have hfit' : xs.length ≤ sizeLine := fitL_le hfit
    have h3' : dcLoop (dcTurn Φ ow mt mc mk mv) xs [] [] (wipeE e1 ow) = some (ks, ts, e2) := h3
    refine dc_it wk (fun i H => ∃ ei ks1 ts1 Fi fpi fq, dcLoop (dcTurn Φ ow mt mc mk mv) (xs.drop i) ks1 ts1 ei = some (ks, ts, e2) ∧ ks1.length ≤ i ∧ RVs X.K (L2.wipe σ ow) ei [.val (.odk ks1 ts1)] F1 fps1 H1 [.ref D] Fi fpi H fq) ?_ ?_ ?_ ?_
    · refine ⟨wipeE e1 ow, [], [], F1, fps1, [D], by simpa using h3', Nat.le_refl _, ?_⟩
      exact (src.sk.wipeS ow).start.new hD (fun _ m => nomatch m) List.nodup_nil (.odk upd_same rfl .nil)
    · rintro i H2 _ ⟨ei, ks1, ts1, Fi, fpi, fq, _, _, rv⟩
      exact hG _ _ _ rv.st rv.sk.sub
    · rintro i x H2 H3 hlt ⟨ei, ks1, ts1, Fi, fpi, fq, hloop, hle, rv⟩ hy
      obtain ⟨d, F3, hd, sk3, st3, rp3, _⟩ := hY i H2 x H3 Fi fpi _ _ hlt rv.sk (rv.st.weak fun _ h => .inl h) hy
      have rv3 := rv.seq (us := []) (ws := []) (fq := []) ⟨sk3, .nil, List.nodup_nil, fun _ m => (nomatch m), st3.weak fun _ h => h.elim id fun m => nomatch m⟩
      simp only [List.append_nil] at rv3
      rw [drop_cons hd] at hloop
      simp only [dcLoop, Option.bind_eq_bind, Option.bind_eq_some_iff] at hloop
      obtain ⟨⟨o, e3⟩, ht1, hr⟩ := hloop
      simp only [dcTurn, Option.bind_eq_bind, Option.bind_eq_some_iff] at ht1
      obtain ⟨e', ha, ⟨k, e''⟩, hc, hkk⟩ := ht1
      refine ⟨ei, .d d, e', ha, F3, fpi, [], sk3, .d rp3, List.nodup_nil, fun _ m => (nomatch m), fun σ2 fps2 sk4 w4 k4 => ?_⟩
      have wI : L2.wipe (L2.wipe σ ow) ow = L2.wipe σ ow := wipe_eq (L2.wipe_length σ ow) fun j hj => wipe_get hj
      have wE : L2.wipe σ2 ow = L2.wipe σ ow := by
        refine (wipe_eq ?_ fun j hj => ?_).trans wI
        · have l1 := sk4.len
          have l2 := sk3.len
          have l3 := asgT_env ha
          omega
        · exact k4 j fun z => hj (hown j z)
      refine ⟨wE, ?_⟩
      have rv4 := rv3.reslot sk4 fun a m => (w4 a m).elim id fun m => nomatch m
      refine ⟨e', e'', k, hc, F3, fps2, sk4, fun F5 fps5 H5 r5 => ?_⟩
      have rv5 := rv4.seq r5
      simp only [List.append_nil] at rv5
      cases k with
      | false =>
        simp only [Bool.false_eq_true, if_false] at hkk
        cases hkk
        refine iteF ?_
        have sk6 := rv5.sk.wipeS ow
        rw [wE] at sk6
        exact ⟨_, ks1, ts1, F5, fps5, _, hr, by omega, rv5.reslot sk6 fun _ h => h⟩
      | true =>
        simp only [if_true, Option.bind_eq_some_iff] at hkk
        obtain ⟨⟨kt, e5⟩, hev2, ⟨t, e6⟩, hev3, hkk⟩ := hkk
        simp only at hkk
        split at hkk
        · rename_i key hkey
          cases hkk
          refine iteT ?_
          refine ⟨e'', e5, kt, hev2, F5, fps5, rv5.sk, fun y F6 fps6 H6 fp6 r6 => ?_⟩
          have hyk := keyOf_rp (r6.rs.one_inv.datH r6.sk.sub) hkey
          have rv6 := rv5.seq r6.drop
          simp only [List.append_nil] at rv6
          refine ⟨e5, e6, t, hev3, F6, fps6, rv6.sk, fun z F7 fps7 H7 fp7 r7 => ?_⟩
          have r7f := r7.frz
          have rv7 := rv6.seq r7f.drop
          simp only [List.append_nil] at rv7
          obtain ⟨kvs, hkvs⟩ : ∃ kvs, H7 D = some (.dK kvs) := by
            obtain ⟨p, ws, f, ep, rfl, h1, _⟩ := rv6.rs.one_inv.odk_inv
            cases ep
            exact ⟨ws, r7.st.k _ _ h1 (rv6.ap _ List.mem_cons_self).2⟩
          obtain ⟨fq8, rv8, hlen⟩ := rv7.pushD (k := key) r7f.rs.one_inv.rp hkvs
          have sk9 := rv8.sk.wipeS ow
          rw [wE] at sk9
          refine ⟨kvs, key, hyk, hkvs, by omega, _, _, _, _, fps7, fq8, hr, ?_, rv8.reslot sk9 fun _ h => h⟩
          have := oput_len ks1 ts1 key (.d t.dat)
          omega
        · cases hkk
    · rintro H2 ⟨ei, ks1, ts1, Fi, fpi, fq, hloop, hle, rv⟩
      rw [List.drop_length] at hloop
      simp only [dcLoop] at hloop
      cases hloop
      obtain ⟨fps4, sk4, w4⟩ := SK.putSlots src.sk rv.st.f rv.sk.unwipe ow
      obtain ⟨fps5, rv5⟩ := src.back (rv.reslot sk4 w4) fun _ _ => rfl
      exact q _ _ _ _ _ rv5
  · cases h2
theorem s_lc' (O : Opx X) {mt mi mc me : E} {tg it elt : Expr} {ifs : List Expr} {scope : Scope} {own : List (Str × Nat)} {pos : Pos} (hN : X.N.Nodup) (ok : BlkOk X.N X.env.scope scope own) (hi : PIx Φ X mi tg it)
    (hg : ∀ (s : Shared) (H : Hp) (C : Addr) (cl : List (Str × Addr)) (fp : List Addr), PGx (X.blk s H scope (compEnvC scope cl C X.env) fp) mt tg)
    (ht : ∀ (s : Shared) (H : Hp) (C : Addr) (cl : List (Str × Addr)) (fp : List Addr), PCp Φ (X.blk s H scope (compEnvC scope cl C X.env) fp) mc ifs)
    (he : ∀ (s : Shared) (H : Hp) (C : Addr) (cl : List (Str × Addr)) (fp : List Addr), PEp Φ (X.blk s H scope (compEnvC scope cl C X.env) fp) me elt) (hs : ∀ x, foldedSetIterable it X.env x = pure x)
    (hown : ∀ i ∈ tgNames mt, i ∈ own.map (·.2)) : PEp Φ X (.lc (own.map (·.2)) mt mi mc me) (.ListComp elt [⟨tg, it, ifs, 0⟩] scope pos) := by
  intro env env' r h
  obtain ⟨wi, h1, h2, h3, h4, h5⟩ := s_lc O hN ok hi hg ht he hs hown env env' r h (pos := pos)
  exact PE.weak (pe_lc O.calm hN h1 ok h2 h3 h4 hs) h5
theorem s_dc (O : Opx X) {mt mi mc mk mv : E} {tg it kx vx : Expr} {ifs : List Expr} {scope : Scope} {own : List (Str × Nat)} {pos : Pos} (hN : X.N.Nodup) (ok : BlkOk X.N X.env.scope scope own) (hi : PIx Φ X mi tg it)
    (hg : ∀ (s : Shared) (H : Hp) (C : Addr) (cl : List (Str × Addr)) (fp : List Addr), PGx (X.blk s H scope (compEnvC scope cl C X.env) fp) mt tg)
    (ht : ∀ (s : Shared) (H : Hp) (C : Addr) (cl : List (Str × Addr)) (fp : List Addr), PCp Φ (X.blk s H scope (compEnvC scope cl C X.env) fp) mc ifs)
    (hk : ∀ (s : Shared) (H : Hp) (C : Addr) (cl : List (Str × Addr)) (fp : List Addr), PEp Φ (X.blk s H scope (compEnvC scope cl C X.env) fp) mk kx)
    (he : ∀ (s : Shared) (H : Hp) (C : Addr) (cl : List (Str × Addr)) (fp : List Addr), PEp Φ (X.blk s H scope (compEnvC scope cl C X.env) fp) mv vx) (hs : ∀ x, foldedSetIterable it X.env x = pure x)
    (hown : ∀ i ∈ tgNames mt, i ∈ own.map (·.2)) : PEp Φ X (.dc (own.map (·.2)) mt mi mc mk mv) (.DictComp kx vx [⟨tg, it, ifs, 0⟩] scope pos) := by
  intro env env' r h
  obtain ⟨wi, h1, h2⟩ := s_dc0 O hi hg ht hk he hown env env' r h (pos := pos)
  exact PE.weak (pe_dc O.calm hN h1 ok (fun s H C cl fp => (hg s H C cl fp).u) (fun s H C cl fp => (ht s H C cl fp).u) (fun s H C cl fp => (hk s H C cl fp).u) (fun s H C cl fp => (he s H C cl fp).u) hs) h2
end
end Mi
/-! Comprehensions of two clauses; the second walks a frozen name. -/
namespace Mi
open PySem L2 PyProof.Rows

section
variable {Φ : Phi} {X : Cx}
/-- an iterator over frozen things -/
def ItFz (K : Frg) (F1 : Hp) (ys : List PyData) (J : It) : Prop :=
  ∃ (G : Hp → Prop) (Y : Nat → Hp → V → Hp → Prop), Walk J ys.length G Y ∧ (∀ F' H', Ext F1 F' → Ext F' H' → G H') ∧
    ∀ (i : Nat) (H : Hp) (v : V) (H' F' : Hp), Ext F1 F' → i < ys.length → Y i H v H' → H' = H ∧ ∃ d, ys[i]? = some d ∧ Rp K F' v d
def iFz (K : Frg) (i1 : Nat) : TI := fun σ H R => ∃ F fps env ys, SK K F fps σ H env ∧ frzSeq (getv env i1) = some ys ∧ ∀ J, ItFz K F ys J → R J H
theorem frzSeq_cases {o : Option AV} {ys : List PyData} (h : frzSeq o = some ys) : o = some (.d (.list ys)) ∨ o = some (.d (.tuple ys)) := by
  unfold frzSeq at h
  split at h
  · cases h; exact .inl rfl
  · cases h; exact .inr rfl
  · cases h
theorem fz_lst {K : Frg} {F : Hp} {a : Addr} {ws : List V} {ys : List PyData} (hs : RpL K F ws ys) (h : SqL K F a ws) : ItFz K F ys (Itl K a) := by
  refine ⟨fun H => SqL K H a ws, YAt ws, by rw [← hs.length]; exact walk_list, fun F' H' e1 e2 => sqL_mono e2 (sqL_mono e1 h), ?_⟩
  rintro i H2 v H3 F2 ex hi ⟨rfl, hv⟩
  obtain ⟨d, h1, h2⟩ := hs.getV hv
  exact ⟨rfl, d, h1, h2.mono ex⟩
theorem fz_tup {K : Frg} {F : Hp} {a : Addr} {ws : List V} {ys : List PyData} (hs : RpL K F ws ys) (h : SqT K F a ws) : ItFz K F ys (Itt K a) := by
  refine ⟨fun H => SqT K H a ws, YAt ws, by rw [← hs.length]; exact walk_tup, fun F' H' e1 e2 => sqT_mono e2 (sqT_mono e1 h), ?_⟩
  rintro i H2 v H3 F2 ex hi ⟨rfl, hv⟩
  obtain ⟨d, h1, h2⟩ := hs.getV hv
  exact ⟨rfl, d, h1, h2.mono ex⟩
theorem TR.d_inv {K : Frg} {F H : Hp} {v : V} {x : PyData} {fp : List Addr} (h : TR K F H v (.d x) fp) : Rp K F v x := by
  cases h with
  | d h => exact h
theorem getv_slot {env : SEnv} {i : Nat} {t : AV} (h : getv env i = some t) : env[i]? = some (some t) := by
  unfold getv at h
  cases e : env[i]? with
  | none => rw [e] at h; cases h
  | some o => rw [e] at h; exact congrArg some h
theorem pi_fz {i1 : Nat} {nm : Str} {tg : Expr} {pos : Pos} (hN : X.N[i1]? = some nm) (hv : Vis X.env.scope nm) (hd : (nm == ("__debug__" : Str)) = false) (hc : (nm == ("__classdict__" : Str)) = false) : PI X tg (.Name nm pos) (iFz X.K i1) := by
  refine ⟨fun pins s σ H R I z => ?_⟩
  obtain ⟨F, fps, env, ys, sk, hy, q⟩ := z
  rcases frzSeq_cases hy with e | e
  · obtain ⟨v, h1, h2⟩ := sk.slot _ _ (getv_slot e)
    obtain ⟨a, ws, rfl, g1, g2⟩ := h2.d_inv.lst_inv
    exact (pi_list (pe_var hN hv hd hc)).run pins s σ H R I ⟨_, h1, a, rfl, ⟨ws, sqL_mono sk.sub g1⟩, q _ (fz_lst g2 g1)⟩
  · obtain ⟨v, h1, h2⟩ := sk.slot _ _ (getv_slot e)
    obtain ⟨a, ws, rfl, g1, g2⟩ := h2.d_inv.tup_inv
    exact (pi_tup (pe_var hN hv hd hc)).run pins s σ H R I ⟨_, h1, a, rfl, ⟨ws, sqT_mono sk.sub g1⟩, q _ (fz_tup g2 g1)⟩
/-- the outer walk: what a turn does beyond its tests is left open -/
theorem lc2_out {J : It} {n : Nat} {G : Hp → Prop} {Y : Nat → Hp → V → Hp → Prop} (w : Walk J n G Y) {g : TG} {tt : TT} {inn : (Hp → Prop) → L2.St → Hp → Prop} {vs : List Nat} {σ : L2.St} {H1 : Hp} {D : Addr} {Qd : Hp → Prop} (Pv : Nat → Hp → Prop) (h0 : Pv 0 (upd H1 D (.lst []))) (hG : ∀ i H, i ≤ n → Pv i H → G H)
    (hs : ∀ i x H H', i < n → Pv i H → Y i H x H' → g x (L2.wipe σ vs) H' fun σ2 H2 => L2.wipe σ2 vs = L2.wipe σ vs ∧ tt σ2 H2 fun b H3 =>
      if b = true then inn (Pv (i + 1)) σ2 H3 else Pv (i + 1) H3) (hd : ∀ H, Pv n H → Qd H) :
    ∃ W : Nat → Nat → Hp → Prop, (∃ m, W 0 m (upd H1 D (.lst []))) ∧ ∀ i m H, W i m H →
      (J.stop i H ∧ Qd H) ∨ (J.go i H ∧ ∃ Nx : Hp → Prop, (∀ H', Nx H' → ∃ m', m' < m ∧ W (i + 1) m' H') ∧ ∀ x H', J.yld i H x H' → g x (L2.wipe σ vs) H' fun σ2 H2 => L2.wipe σ2 vs = L2.wipe σ vs ∧ tt σ2 H2 fun b H3 =>
        if b = true then inn Nx σ2 H3 else Nx H3) := by
  refine ⟨fun i m H => m = n - i ∧ i ≤ n ∧ Pv i H, ⟨n, by simp, Nat.zero_le _, h0⟩, ?_⟩
  rintro i m H ⟨rfl, hi, p⟩
  have q := hG i H hi p
  by_cases hlt : i < n
  · refine .inr ⟨w.goes i H hlt q, Pv (i + 1), fun H' p' => ⟨n - (i + 1), by omega, rfl, hlt, p'⟩, fun x H' y => hs i x H H' hlt p (w.yields i H x H' hlt q y)⟩
  · have e : i = n := by omega
    subst e
    exact .inl ⟨w.stops H q, hd H p⟩
/-- the inner walk -/
theorem lc2_in {J : It} {n : Nat} {G : Hp → Prop} {Y : Nat → Hp → V → Hp → Prop} (w : Walk J n G Y) {g : TG} {tt : TT} {te : TE} {vs : List Nat} {σ : L2.St} {H4 : Hp} {D : Addr} {Nx : Hp → Prop} (Pw : Nat → Hp → Prop) (h0 : Pw 0 H4) (hG : ∀ i H, i ≤ n → Pw i H → G H)
    (hs : ∀ i x H H', i < n → Pw i H → Y i H x H' → g x (L2.wipe σ vs) H' fun σ2 H2 => L2.wipe σ2 vs = L2.wipe σ vs ∧ tt σ2 H2 fun b H3 =>
      if b = true then te σ2 H3 fun y H4 => ∃ acc, H4 D = some (.lst acc) ∧ acc.length < sizeLine ∧ Pw (i + 1) (upd H4 D (.lst (acc ++ [y]))) else Pw (i + 1) H3) (hd : ∀ H, Pw n H → Nx H) :
    ∃ W : Nat → Nat → Hp → Prop, (∃ m, W 0 m H4) ∧ ∀ i m H, W i m H →
      (J.stop i H ∧ Nx H) ∨ (J.go i H ∧ ∃ Nx1 : Hp → Prop, (∀ H', Nx1 H' → ∃ m', m' < m ∧ W (i + 1) m' H') ∧ ∀ x H', J.yld i H x H' → g x (L2.wipe σ vs) H' fun σ2 H2 => L2.wipe σ2 vs = L2.wipe σ vs ∧ tt σ2 H2 fun b H3 =>
        if b = true then te σ2 H3 fun y H4 => ∃ acc, H4 D = some (.lst acc) ∧ acc.length < sizeLine ∧ Nx1 (upd H4 D (.lst (acc ++ [y]))) else Nx1 H3) := by
  refine ⟨fun i m H => m = n - i ∧ i ≤ n ∧ Pw i H, ⟨n, by simp, Nat.zero_le _, h0⟩, ?_⟩
  rintro i m H ⟨rfl, hi, p⟩
  have q := hG i H hi p
  by_cases hlt : i < n
  · refine .inr ⟨w.goes i H hlt q, Pw (i + 1), fun H' p' => ⟨n - (i + 1), by omega, rfl, hlt, p'⟩, fun x H' y => hs i x H H' hlt p (w.yields i H x H' hlt q y)⟩
  · have e : i = n := by omega
    subst e
    exact .inl ⟨w.stops H q, hd H p⟩
theorem wipe_sub {σ : L2.St} {own own1 : List Nat} (h : ∀ i ∈ own1, i ∈ own) : L2.wipe (L2.wipe σ own1) own = L2.wipe σ own := wipe_eq (L2.wipe_length σ own1) fun j hj => wipe_get fun z => hj (h j z)
abbrev lcTurn2 (Φ : Phi) (own own1 : List Nat) (mt mc mt1 : E) (i1 : Nat) (mc1 me : E) : PyData → SEnv → Option (List AV × SEnv) := fun x e => do
      let e' ← asgT mt (.d x) e
      let (k, e'') ← evC Φ mc e'
      if k then do
        let ys ← frzSeq (getv e'' i1)
        let (us, e4) ← lcLoop (lcTurn Φ own1 mt1 mc1 me) ys (wipeE e'' own1)
        some (us, wipeE e4 own)
      else some ([], wipeE e'' own)
theorem s_lc2 (O : Opx X) {mt mi mc mt1 mc1 me : E} {i1 : Nat} {tg it tg1 it1 elt : Expr} {ifs ifs1 : List Expr} {scope : Scope} {own : List (Str × Nat)} {ow1 : List Nat} {pos : Pos} (hN : X.N.Nodup) (ok : BlkOk X.N X.env.scope scope own) (hi : PIx Φ X mi tg it)
    (hv : ∀ i ∈ ow1, i ∈ own.map (·.2)) (hown : ∀ i ∈ tgNames mt, i ∈ own.map (·.2)) (hown1 : ∀ i ∈ tgNames mt1, i ∈ ow1)
    (env env' : SEnv) (r : AV) (hev : evE Φ (.lc2 (own.map (·.2)) ow1 mt mi mc mt1 i1 mc1 me) env = some (r, env')) :
    ∃ wi, PI X tg it wi ∧ ∀ σ H Q, TIe X.K env env' r σ H Q → tLc2 wi (gU X.K mt) (ttU Φ X.K mc) (iFz X.K i1) (gU X.K mt1) (ttU Φ X.K mc1) (teU Φ X.K me) (own.map (·.2)) ow1 σ H Q := by
  generalize hO : own.map (·.2) = ow at hev hown hv
  simp only [evE, Option.bind_eq_bind, Option.bind_eq_some_iff] at hev
  obtain ⟨⟨xs, e1, rs⟩, h1, ⟨ts, e2⟩, h3, h4⟩ := hev
  simp only at h3 h4
  split at h4
  · rename_i hfit
    obtain ⟨hfx, hft⟩ := (Bool.and_eq_true _ _).mp hfit
    have h4' : some (AV.own ts, putBack rs (putSlots (wipeE e2 ow) e1 ow)) = some (r, env') := h4
    cases h4'
    refine ⟨_, hi _ _ _ _ h1, fun σ H Q => ?_⟩
    rintro ⟨F, fps, s, q⟩
    refine ⟨F, fps, s, fun J F1 fps1 H1 fh src itok D hD => ?_⟩
    obtain ⟨G, Y, wk, hG, hY⟩ := itok
    have hfit' : ts.length ≤ sizeLine := fitL_le hft
    have h3' : lcLoopL (lcTurn2 Φ ow ow1 mt mc mt1 i1 mc1 me) xs (wipeE e1 ow) = some (ts, e2) := h3
    refine lc2_out wk (inn := fun Nx σ2 H3 => iFz X.K i1 σ2 H3 fun J1 H4 => ∃ W1 : Nat → Nat → Hp → Prop, (∃ m, W1 0 m H4) ∧ ∀ j k H, W1 j k H →
      (J1.stop j H ∧ Nx H) ∨ (J1.go j H ∧ ∃ Nx1 : Hp → Prop, (∀ H', Nx1 H' → ∃ k', k' < k ∧ W1 (j + 1) k' H') ∧ ∀ x H', J1.yld j H x H' → gU X.K mt1 x (L2.wipe σ2 ow1) H' fun σ3 H5 => L2.wipe σ3 ow1 = L2.wipe σ2 ow1 ∧ ttU Φ X.K mc1 σ3 H5 fun b H6 =>
        if b = true then teU Φ X.K me σ3 H6 fun y H7 => ∃ acc, H7 D = some (.lst acc) ∧ acc.length < sizeLine ∧ Nx1 (upd H7 D (.lst (acc ++ [y]))) else Nx1 H6))
      (fun i H => ∃ ei ts1 rest Fi fpi fq, lcLoopL (lcTurn2 Φ ow ow1 mt mc mt1 i1 mc1 me) (xs.drop i) ei = some (rest, e2) ∧ ts1 ++ rest = ts ∧ RVs X.K (L2.wipe σ ow) ei [.val (.own ts1)] F1 fps1 H1 [.ref D] Fi fpi H fq) ?_ ?_ ?_ ?_
    · refine ⟨wipeE e1 ow, [], ts, F1, fps1, [D], by simpa using h3', rfl, ?_⟩
      exact (src.sk.wipeS ow).start.new hD (fun _ m => nomatch m) List.nodup_nil (.own upd_same .nil)
    · rintro i H2 _ ⟨ei, ts1, rest, Fi, fpi, fq, _, _, rv⟩
      exact hG _ _ _ rv.st rv.sk.sub
    · rintro i x H2 H3 hlt ⟨ei, ts1, rest, Fi, fpi, fq, hloop, hts, rv⟩ hy
      obtain ⟨d, F3, hd, sk3, st3, rp3, _⟩ := hY i H2 x H3 Fi fpi _ _ hlt rv.sk (rv.st.weak fun _ h => .inl h) hy
      have rv3 := rv.seq (us := []) (ws := []) (fq := []) ⟨sk3, .nil, List.nodup_nil, fun _ m => (nomatch m), st3.weak fun _ h => h.elim id fun m => nomatch m⟩
      simp only [List.append_nil] at rv3
      rw [drop_cons hd] at hloop
      simp only [lcLoopL, Option.bind_eq_bind, Option.bind_eq_some_iff] at hloop
      obtain ⟨⟨o, e3⟩, ht1, ⟨rest2, e4⟩, hl2, hr⟩ := hloop
      simp only [lcTurn2, Option.bind_eq_bind, Option.bind_eq_some_iff] at ht1
      obtain ⟨e', ha, ⟨k, e''⟩, hc, hk⟩ := ht1
      refine ⟨ei, .d d, e', ha, F3, fpi, [], sk3, .d rp3, List.nodup_nil, fun _ m => (nomatch m), fun σ2 fps2 sk4 w4 k4 => ?_⟩
      have wI : L2.wipe (L2.wipe σ ow) ow = L2.wipe σ ow := wipe_eq (L2.wipe_length σ ow) fun j hj => wipe_get hj
      have wE : L2.wipe σ2 ow = L2.wipe σ ow := by
        refine (wipe_eq ?_ fun j hj => ?_).trans wI
        · have l1 := sk4.len
          have l2 := sk3.len
          have l3 := asgT_env ha
          omega
        · exact k4 j fun z => hj (hown j z)
      refine ⟨wE, ?_⟩
      have rv4 := rv3.reslot sk4 fun a m => (w4 a m).elim id fun m => nomatch m
      refine ⟨e', e'', k, hc, F3, fps2, sk4, fun F5 fps5 H5 r5 => ?_⟩
      have rv5 := rv4.seq r5
      simp only [List.append_nil] at rv5
      cases k with
      | false =>
        simp only [Bool.false_eq_true, if_false] at hk
        cases hk
        cases hr
        refine iteF ?_
        have sk6 := rv5.sk.wipeS ow
        rw [wE] at sk6
        exact ⟨_, ts1, _, F5, fps5, _, hl2, by simpa using hts, rv5.reslot sk6 fun _ h => h⟩
      | true =>
        simp only [if_true, Option.bind_eq_some_iff] at hk
        obtain ⟨ys, hys, ⟨us, e5⟩, hin, hk⟩ := hk
        cases hk
        cases hr
        refine iteT ?_
        refine ⟨F5, fps5, e'', ys, rv5.sk, hys, fun J1 it1 => ?_⟩
        obtain ⟨G1, Y1, wk1, hG1, hY1⟩ := it1
        refine lc2_in wk1 (fun j H => ∃ ej us1 urest Fj fpj fqj, lcLoop (lcTurn Φ ow1 mt1 mc1 me) (ys.drop j) ej = some (urest, e5) ∧ us1 ++ urest = us ∧ Ext F5 Fj ∧ RVs X.K (L2.wipe σ2 ow1) ej [.val (.own (ts1 ++ us1))] F1 fps1 H1 [.ref D] Fj fpj H fqj) ?_ ?_ ?_ ?_
        · refine ⟨wipeE e'' ow1, [], us, F5, fps5, fq, by simpa using hin, rfl, Ext.refl _, ?_⟩
          rw [List.append_nil]
          exact rv5.reslot (rv5.sk.wipeS ow1) fun _ h => h
        · rintro j H6 _ ⟨ej, us1, urest, Fj, fpj, fqj, _, _, hx, rvj⟩
          exact hG1 _ _ hx rvj.sk.sub
        · rintro j y H6 H7 hltj ⟨ej, us1, urest, Fj, fpj, fqj, hloopj, husj, hx, rvj⟩ hyj
          obtain ⟨rfl, dj, hdj, rpj⟩ := hY1 j H6 y _ Fj hx hltj hyj
          rw [drop_cons hdj] at hloopj
          simp only [lcLoop, Option.bind_eq_bind, Option.bind_eq_some_iff] at hloopj
          obtain ⟨⟨oj, e6⟩, htj, ⟨urest2, e7⟩, hl3, hrj⟩ := hloopj
          simp only [lcTurn, Option.bind_eq_bind, Option.bind_eq_some_iff] at htj
          obtain ⟨f', haj, ⟨kj, f''⟩, hcj, hkj⟩ := htj
          refine ⟨ej, .d dj, f', haj, Fj, fpj, [], rvj.sk, .d rpj, List.nodup_nil, fun _ m => (nomatch m), fun σ3 fps3 sk8 w8 k8 => ?_⟩
          have wI1 : L2.wipe (L2.wipe σ2 ow1) ow1 = L2.wipe σ2 ow1 := wipe_eq (L2.wipe_length σ2 ow1) fun j hj => wipe_get hj
          have wE1 : L2.wipe σ3 ow1 = L2.wipe σ2 ow1 := by
            refine (wipe_eq ?_ fun j hj => ?_).trans wI1
            · have l1 := sk8.len
              have l2 := rvj.sk.len
              have l3 := asgT_env haj
              omega
            · exact k8 j fun z => hj (hown1 j z)
          refine ⟨wE1, ?_⟩
          have rv8 := rvj.reslot sk8 fun a m => (w8 a m).elim id fun m => nomatch m
          refine ⟨f', f'', kj, hcj, Fj, fps3, sk8, fun F9 fps9 H9 r9 => ?_⟩
          have rv9 := rv8.seq r9
          simp only [List.append_nil] at rv9
          have hx9 : Ext F5 F9 := hx.trans r9.st.f
          cases kj with
          | false =>
            simp only [Bool.false_eq_true, if_false] at hkj
            cases hkj
            cases hrj
            refine iteF ?_
            have sk10 := rv9.sk.wipeS ow1
            rw [wE1] at sk10
            exact ⟨_, us1, _, F9, fps9, _, hl3, husj, hx9, rv9.reslot sk10 fun _ h => h⟩
          | true =>
            simp only [if_true, Option.bind_eq_some_iff] at hkj
            obtain ⟨⟨t, e8⟩, hev2, hkj⟩ := hkj
            cases hkj
            cases hrj
            refine iteT ?_
            refine ⟨f'', e8, t, hev2, F9, fps9, rv9.sk, fun z F10 fps10 H10 fp10 r10 => ?_⟩
            have rv10 := rv9.seq r10
            obtain ⟨acc, hacc⟩ : ∃ acc, H10 D = some (.lst acc) := by
              obtain ⟨p, ws, f, ep, rfl, h1, _⟩ := rv9.rs.one_inv.own_inv
              cases ep
              exact ⟨ws, r10.st.k _ _ h1 (rv9.ap _ List.mem_cons_self).2⟩
            obtain ⟨fq11, rv11, hlen⟩ := rv10.push hacc
            have sk11 := rv11.sk.wipeS ow1
            rw [wE1] at sk11
            refine ⟨acc, hacc, ?_, _, us1 ++ [t], urest2, F10, fps10, fq11, hl3, by rw [List.append_assoc]; exact husj, hx9.trans r10.st.f, ?_⟩
            · have hlt2 : ts.length = ts1.length + (us.length + rest2.length) := by rw [← hts, List.length_append, List.length_append]
              have hlt3 : us.length = us1.length + (urest2.length + 1) := by rw [← husj, List.length_append, List.length_cons]
              rw [List.length_append] at hlen
              omega
            · rw [← List.append_assoc]
              exact rv11.reslot sk11 fun _ h => h
        · rintro H6 ⟨ej, us1, urest, Fj, fpj, fqj, hloopj, husj, hx, rvj⟩
          rw [List.drop_length] at hloopj
          simp only [lcLoop] at hloopj
          cases hloopj
          rw [List.append_nil] at husj
          subst husj
          have sk12 := rvj.sk.wipeS ow
          rw [wipe_sub hv, wE] at sk12
          exact ⟨_, ts1 ++ us1, rest2, Fj, fpj, fqj, hl2, by rw [List.append_assoc]; exact hts, rvj.reslot sk12 fun _ h => h⟩
    · rintro H2 ⟨ei, ts1, rest, Fi, fpi, fq, hloop, hts, rv⟩
      rw [List.drop_length] at hloop
      simp only [lcLoopL] at hloop
      cases hloop
      rw [List.append_nil] at hts
      subst hts
      obtain ⟨fps4, sk4, w4⟩ := SK.putSlots src.sk rv.st.f rv.sk.unwipe ow
      obtain ⟨fps5, rv5⟩ := src.back (rv.reslot sk4 w4) fun _ _ => rfl
      exact q _ _ _ _ _ rv5
  · cases h4
theorem s_lc2' (O : Opx X) {mt mi mc mt1 mc1 me : E} {i1 : Nat} {tg it tg1 elt : Expr} {nm1 : Str} {p1 : Pos} {ifs ifs1 : List Expr} {scope : Scope} {own : List (Str × Nat)} {ow1 : List Nat} {pos : Pos} (hN : X.N.Nodup) (ok : BlkOk X.N X.env.scope scope own) (hi : PIx Φ X mi tg it)
    (hg : ∀ (s : Shared) (H : Hp) (C : Addr) (cl : List (Str × Addr)) (fp : List Addr), PGx (X.blk s H scope (compEnvC scope cl C X.env) fp) mt tg)
    (ht : ∀ (s : Shared) (H : Hp) (C : Addr) (cl : List (Str × Addr)) (fp : List Addr), PCp Φ (X.blk s H scope (compEnvC scope cl C X.env) fp) mc ifs)
    (hi1 : ∀ (s : Shared) (H : Hp) (C : Addr) (cl : List (Str × Addr)) (fp : List Addr), PI (X.blk s H scope (compEnvC scope cl C X.env) fp) tg1 (.Name nm1 p1) (iFz X.K i1))
    (hg1 : ∀ (s : Shared) (H : Hp) (C : Addr) (cl : List (Str × Addr)) (fp : List Addr), PGx (X.blk s H scope (compEnvC scope cl C X.env) fp) mt1 tg1)
    (ht1 : ∀ (s : Shared) (H : Hp) (C : Addr) (cl : List (Str × Addr)) (fp : List Addr), PCp Φ (X.blk s H scope (compEnvC scope cl C X.env) fp) mc1 ifs1)
    (he : ∀ (s : Shared) (H : Hp) (C : Addr) (cl : List (Str × Addr)) (fp : List Addr), PEp Φ (X.blk s H scope (compEnvC scope cl C X.env) fp) me elt) (hs : ∀ x, foldedSetIterable it X.env x = pure x)
    (hv : ∀ i ∈ ow1, i ∈ own.map (·.2)) (hown : ∀ i ∈ tgNames mt, i ∈ own.map (·.2)) (hown1 : ∀ i ∈ tgNames mt1, i ∈ ow1) : PEp Φ X (.lc2 (own.map (·.2)) ow1 mt mi mc mt1 i1 mc1 me) (.ListComp elt [⟨tg, it, ifs, 0⟩, ⟨tg1, .Name nm1 p1, ifs1, 0⟩] scope pos) := by
  intro env env' r h
  obtain ⟨wi, h1, h2⟩ := s_lc2 O hN ok hi hv hown hown1 env env' r h (pos := pos) (tg1 := tg1) (it1 := .Name nm1 p1) (elt := elt) (ifs := ifs) (ifs1 := ifs1)
  exact PE.weak (pe_lc2 O.calm hN h1 ok hv (fun s H C cl fp => (hg s H C cl fp).u) (fun s H C cl fp => (ht s H C cl fp).u) hi1 (fun s H C cl fp => (hg1 s H C cl fp).u) (fun s H C cl fp => (ht1 s H C cl fp).u) (fun s H C cl fp => (he s H C cl fp).u) hs (fun _ _ => rfl)) h2
end
end Mi
/-! Statements. -/
namespace Mi
open PySem L2 PyProof.Rows

def Keep (nms : List Nat) (σ τ : L2.St) : Prop := ∀ j, j ∉ nms → τ[j]? = σ[j]?
theorem Keep.refl {nms : List Nat} {σ : L2.St} : Keep nms σ σ := fun _ _ => rfl
theorem Keep.trans {a b : List Nat} {σ τ υ : L2.St} (h : Keep a σ τ) (g : Keep b τ υ) : Keep (a ++ b) σ υ := fun j hj => (g j fun z => hj (List.mem_append_right _ z)).trans (h j fun z => hj (List.mem_append_left _ z))
theorem Keep.mono {a b : List Nat} {σ τ : L2.St} (h : Keep a σ τ) (s : ∀ j ∈ a, j ∈ b) : Keep b σ τ := fun j hj => h j fun z => hj (s j z)
theorem Keep.tr {a : List Nat} {σ τ υ : L2.St} (h : Keep a σ τ) (g : Keep a τ υ) : Keep a σ υ := fun j hj => (g j hj).trans (h j hj)
def EndsOk (K : Frg) (nms : List Nat) (D : Ends) (σ : L2.St) (F : Hp) (fps : Fps) (H : Hp) (env' : SEnv) : Fl → Prop
  | .nx => ∀ τ F' fps' H', RVs K τ env' [] F fps H [] F' fps' H' [] → Keep nms σ τ → D.nx τ H'
  | .bk => ∀ τ F' fps' H', RVs K τ env' [] F fps H [] F' fps' H' [] → Keep nms σ τ → D.bk τ H'
  | .ct => ∀ τ F' fps' H', RVs K τ env' [] F fps H [] F' fps' H' [] → Keep nms σ τ → D.ct τ H'
  | .rt r => ∀ τ v F' fps' H' fp, RVs K τ env' [.val r] F fps H [v] F' fps' H' fp → Keep nms σ τ → D.rt v H'
def TIs (K : Frg) (nms : List Nat) (env : SEnv) (f : Fl) (env' : SEnv) : TS := fun D σ H => ∃ F fps, SK K F fps σ H env ∧ EndsOk K nms D σ F fps H env' f
section
variable (Φ : Phi) (X : Cx)
def PSp (m : S) (st : Stmt) : Prop := ∀ env f env', exS Φ m env = some (f, env') → PS X st (TIs X.K m.names env f env')
def PBp (m : S) (sts : List Stmt) : Prop := ∀ env f env', exS Φ m env = some (f, env') → PSs X sts (TIs X.K m.names env f env')
end
def tsU (Φ : Phi) (K : Frg) (m : S) : TS := fun D σ H => ∃ env f env', exS Φ m env = some (f, env') ∧ TIs K m.names env f env' D σ H
def tcU (Φ : Phi) (K : Frg) (m : E) : TT := fun σ H k => ∃ env env' b, evT Φ m env = some (b, env') ∧ TIt K env env' b σ H k

section
variable {K : Frg} {σ τ υ : L2.St} {env e1 e2 env' : SEnv} {os : List Opd} {F F1 F2 H H1 H2 : Hp} {fps fps1 fps2 : Fps} {vs : List V} {fp : List Addr}
/-- another state behind the first, the slots may have changed -/
theorem RVs.thenR {v : List V} {os : List Opd} (a : RVs K τ e1 [] F fps H [] F1 fps1 H1 []) (b : RVs K υ e2 os F1 fps1 H1 v F2 fps2 H2 fp) : RVs K υ e2 os F fps H v F2 fps2 H2 fp :=
  ⟨b.sk, b.rs, b.nd, b.ap, (a.st.weak fun _ h => .inl h).trans b.st⟩
theorem RVs.writeR (a : RVs K σ env os F fps H vs F1 fps1 H1 fp) {i : Nat} {l : Addr} {f f2 : List Addr} {o' : HO} {t' : AV} (hv : σ[i]? = some (some (.ref l))) (hf : fps1 i = l :: f) (ht : TR K F1 (upd H1 l o') (.ref l) t' (l :: f2)) (nd : f2.Nodup)
    (hs : ∀ x ∈ f2, x ∈ f ∨ x ∈ fp) : RVs K σ (env.set i (some t')) [] F fps H [] F1 (fpsU fps1 i (l :: f2)) (upd H1 l o') [] := by
  have ml : l ∈ fps1 i := by rw [hf]; exact List.mem_cons_self
  refine ⟨a.sk.write hv hf ht nd fun x m => (hs x m).imp id fun m => a.ap x m, .nil, List.nodup_nil, fun _ m => (nomatch m), ?_⟩
  refine (a.st.trans (Step.write (P := fun x => x ∈ fp) ml fun x m => ?_)).weak fun x h => h.elim id fun m => nomatch m
  rcases hs x m with m | m
  · exact .inl ⟨i, by rw [hf]; exact List.mem_cons_of_mem _ m⟩
  · exact .inr m
end

theorem EndsOk.pre {K : Frg} {n1 n2 nms : List Nat} {D : Ends} {σ τ : L2.St} {F F1 H H1 : Hp} {fps fps1 : Fps} {e1 env' : SEnv} {f : Fl} (r1 : RVs K τ e1 [] F fps H [] F1 fps1 H1 []) (k1 : Keep n1 σ τ) (h1 : ∀ j ∈ n1, j ∈ nms) (h2 : ∀ j ∈ n2, j ∈ nms) (q : EndsOk K nms D σ F fps H env' f) : EndsOk K n2 D τ F1 fps1 H1 env' f := by
  cases f with
  | nx => exact fun υ F2 fps2 H2 r2 k2 => q υ F2 fps2 H2 (r1.thenR r2) ((k1.mono h1).tr (k2.mono h2))
  | bk => exact fun υ F2 fps2 H2 r2 k2 => q υ F2 fps2 H2 (r1.thenR r2) ((k1.mono h1).tr (k2.mono h2))
  | ct => exact fun υ F2 fps2 H2 r2 k2 => q υ F2 fps2 H2 (r1.thenR r2) ((k1.mono h1).tr (k2.mono h2))
  | rt r => exact fun υ v F2 fps2 H2 fp r2 k2 => q υ v F2 fps2 H2 fp (r1.thenR r2) ((k1.mono h1).tr (k2.mono h2))

section
variable {Φ : Phi} {X : Cx} {m n : S} {a b c : E} {x y z : Expr} {st : Stmt} {sts : List Stmt} {pos p2 p3 : Pos} {i j k : Nat} {nm nm2 nm3 : Str}

/-! ### blocks -/
theorem b_nil : PBp Φ X .skip [] := by
  intro env f env' h
  simp only [exS] at h
  cases h
  refine PSs.weak pss_nil fun D σ H => ?_
  rintro ⟨F, fps, s, q⟩
  exact q _ _ _ _ s.start Keep.refl
theorem b_fgt {is : List Nat} (h : PBp Φ X m sts) : PBp Φ X (.seq (.fgt is) m) sts := by
  intro env f env' e
  simp only [exS, Option.bind_eq_bind, Option.bind_some] at e
  refine PSs.weak (h _ _ _ e) fun D σ H => ?_
  rintro ⟨F, fps, s, q⟩
  exact ⟨F, fps, s.wipe is, q⟩
theorem b_cons (ha : PSp Φ X m st) (hb : PBp Φ X n sts) : PBp Φ X (.seq m n) (st :: sts) := by
  intro env f env' e
  simp only [exS, Option.bind_eq_bind, Option.bind_eq_some_iff] at e
  obtain ⟨⟨g, e1⟩, h1, h2⟩ := e
  have hl : ∀ j ∈ m.names, j ∈ (S.seq m n).names := fun j h => List.mem_append_left _ h
  cases g with
  | nx =>
    simp only at h2
    refine PSs.weak (pss_cons (ha _ _ _ h1) (hb _ _ _ h2)) fun D σ H => ?_
    rintro ⟨F, fps, s, q⟩
    exact ⟨F, fps, s, fun τ F1 fps1 H1 r1 k1 => ⟨F1, fps1, r1.sk, q.pre r1 k1 hl fun j h => List.mem_append_right _ h⟩⟩
  | bk =>
    simp only at h2
    cases h2
    refine PSs.weak (pss_cons (ha _ _ _ h1) pss_never) fun D σ H => ?_
    rintro ⟨F, fps, s, q⟩
    exact ⟨F, fps, s, fun υ F2 fps2 H2 r2 k2 => q υ F2 fps2 H2 r2 (k2.mono hl)⟩
  | ct =>
    simp only at h2
    cases h2
    refine PSs.weak (pss_cons (ha _ _ _ h1) pss_never) fun D σ H => ?_
    rintro ⟨F, fps, s, q⟩
    exact ⟨F, fps, s, fun υ F2 fps2 H2 r2 k2 => q υ F2 fps2 H2 r2 (k2.mono hl)⟩
  | rt r =>
    simp only at h2
    cases h2
    refine PSs.weak (pss_cons (ha _ _ _ h1) pss_never) fun D σ H => ?_
    rintro ⟨F, fps, s, q⟩
    exact ⟨F, fps, s, fun υ v F2 fps2 H2 fp r2 k2 => q υ v F2 fps2 H2 fp r2 (k2.mono hl)⟩
theorem p_never : PSp Φ X .never st := by
  intro env f env' h
  simp [exS] at h
theorem b_never : PBp Φ X .never sts := by
  intro env f env' h
  simp [exS] at h
theorem p_pass : PSp Φ X .skip (.Pass pos) := by
  intro env f env' h
  simp only [exS] at h
  cases h
  refine PS.weak ps_pass fun D σ H => ?_
  rintro ⟨F, fps, s, q⟩
  exact q _ _ _ _ s.start Keep.refl
theorem p_brk : PSp Φ X .brk (.Break pos) := by
  intro env f env' h
  simp only [exS] at h
  cases h
  refine PS.weak ps_break fun D σ H => ?_
  rintro ⟨F, fps, s, q⟩
  exact q _ _ _ _ s.start Keep.refl
theorem p_cnt : PSp Φ X .cnt (.Continue pos) := by
  intro env f env' h
  simp only [exS] at h
  cases h
  refine PS.weak ps_continue fun D σ H => ?_
  rintro ⟨F, fps, s, q⟩
  exact q _ _ _ _ s.start Keep.refl
theorem p_retn : PSp Φ X .retn (.Return none pos) := by
  intro env f env' h
  simp only [exS] at h
  cases h
  refine PS.weak ps_retN fun D σ H => ?_
  rintro ⟨F, fps, s, q⟩
  exact q σ .non _ _ _ _ (s.start.dat .non) Keep.refl
theorem p_ret (ha : PEp Φ X a x) : PSp Φ X (.ret a) (.Return (some x) pos) := by
  intro env f env' h
  simp only [exS, Option.bind_eq_bind, Option.bind_eq_some_iff] at h
  obtain ⟨⟨t, e1⟩, h1, h2⟩ := h
  cases h2
  refine PS.weak (ps_ret (ha _ _ _ h1)) fun D σ H => ?_
  rintro ⟨F, fps, s, q⟩
  exact ⟨F, fps, s, fun v F1 fps1 H1 fp1 r1 => q σ v F1 fps1 H1 fp1 r1 Keep.refl⟩
theorem p_expr (ha : PEp Φ X a x) (hs : swapsWith x none pos.line X.env = pure false) : PSp Φ X (.expr a) (.Expr x pos) := by
  intro env f env' h
  simp only [exS, Option.bind_eq_bind, Option.bind_eq_some_iff] at h
  obtain ⟨⟨t, e1⟩, h1, h2⟩ := h
  cases h2
  refine PS.weak (ps_expr (ha _ _ _ h1) hs) fun D σ H => ?_
  rintro ⟨F, fps, s, q⟩
  exact ⟨F, fps, s, fun v F1 fps1 H1 fp1 r1 => q σ F1 fps1 H1 r1.drop Keep.refl⟩

/-! ### assignments -/
theorem p_asg (ha : PEp Φ X a x) {mt : E} {tg : Expr} (hg : PGx X mt tg) (hs : swapsWithSole [tg] x pos.line X.env = pure false) (hw : swappedStores [tg] x X.env = pure none) (h1 : (assignEach [tg] X.env).map (·.2) = [assign tg X.env]) : PSp Φ X (.asg mt a) (.Assign [tg] x pos) := by
  intro env f env' h
  simp only [exS, Option.bind_eq_bind, Option.bind_eq_some_iff] at h
  obtain ⟨⟨t, e1⟩, h2, e2, h3, h4⟩ := h
  cases h4
  refine PS.weak (ps_asg (ha _ _ _ h2) (hg _ _ _ h3) hs hw h1) fun D σ H => ?_
  rintro ⟨F, fps, s, q⟩
  refine ⟨F, fps, s, fun v F1 fps1 H1 fp1 r1 => ⟨F1, fps1, fp1, r1.sk, r1.rs.one_inv, r1.nd, r1.ap, fun τ fps2 sk w k => q τ F1 fps2 H1 ⟨sk, .nil, List.nodup_nil, fun _ m => (nomatch m), r1.st.weak fun a m => ?_⟩ k⟩⟩
  exact m.elim (fun m => w a m) fun m => nomatch m
theorem asg_fin {t : AV} {e1 : SEnv} {F F1 H H1 : Hp} {fps fps1 : Fps} {fp : List Addr} {σ : L2.St} {v : V} (r1 : RVs X.K σ e1 [.val t] F fps H [v] F1 fps1 H1 fp) (hl : i < e1.length) : RVs X.K (σ.set i (some v)) (e1.set i (some t)) [] F fps H [] F1 (fpsU fps1 i fp) H1 [] ∧ Keep [i] σ (σ.set i (some v)) := by
  refine ⟨⟨r1.sk.store hl r1.rs.one_inv r1.nd r1.ap, .nil, List.nodup_nil, fun _ m => (nomatch m), r1.st.weak fun a m => m.elim ownd_put fun m => nomatch m⟩, fun j hj => ?_⟩
  rw [List.getElem?_set_ne]
  intro z
  exact hj (by rw [← z]; exact List.mem_cons_self)
theorem p_set (hN : X.N.Nodup) (hi : X.N[i]? = some nm) (hx : Loc X.env.scope nm) (hf : X.fn nm = true ∨ X.env.scope.names.lookup nm = some .local) (ha : PEp Φ X a x) (hs : swapsWith x (some (.Name nm p2)) pos.line X.env = pure false) : PSp Φ X (.asg (.ref i) a) (.Assign [.Name nm p2] x pos) := by
  intro env f env' h
  simp only [exS, Option.bind_eq_bind, Option.bind_eq_some_iff, asgT] at h
  obtain ⟨⟨t, e1⟩, h2, e2, h3, h4⟩ := h
  simp only at h3
  split at h3
  · rename_i hl
    cases h3
    cases h4
    refine PS.weak (ps_set hN hi hx (ha _ _ _ h2) hs hf) fun D σ H => ?_
    rintro ⟨F, fps, s, q⟩
    refine ⟨F, fps, s, fun v F1 fps1 H1 fp1 r1 => ?_⟩
    obtain ⟨r2, k2⟩ := asg_fin r1 hl
    exact q _ _ _ _ r2 k2
  · cases h3
/-- name = [..] on one line -/
theorem p_setLc (O : Opx X) {mt mi mc me : E} {tg it elt : Expr} {ifs : List Expr} {scope : Scope} {own : List (Str × Nat)} (hN : X.N.Nodup) (hi : X.N[i]? = some nm) (hyl : X.env.scope.names.lookup nm = some .local)
    (hsw : swapsWith (.ListComp elt [⟨tg, it, ifs, 0⟩] scope p3) (some (.Name nm p2)) pos.line X.env = pure true) (ok : BlkOk X.N X.env.scope scope own) (hit : PIx Φ X mi tg it)
    (hg : ∀ (s : Shared) (H : Hp) (C : Addr) (cl : List (Str × Addr)) (fp : List Addr), PGx (X.blk s H scope (compEnvC scope cl C X.env) fp) mt tg)
    (ht : ∀ (s : Shared) (H : Hp) (C : Addr) (cl : List (Str × Addr)) (fp : List Addr), PCp Φ (X.blk s H scope (compEnvC scope cl C X.env) fp) mc ifs)
    (he : ∀ (s : Shared) (H : Hp) (C : Addr) (cl : List (Str × Addr)) (fp : List Addr), PEp Φ (X.blk s H scope (compEnvC scope cl C X.env) fp) me elt) (hs : ∀ x, foldedSetIterable it X.env x = pure x)
    (hown : ∀ i ∈ tgNames mt, i ∈ own.map (·.2)) : PSp Φ X (.asg (.ref i) (.lc (own.map (·.2)) mt mi mc me)) (.Assign [.Name nm p2] (.ListComp elt [⟨tg, it, ifs, 0⟩] scope p3) pos) := by
  intro env f env' h
  simp only [exS, Option.bind_eq_bind, asgT] at h
  obtain ⟨⟨t, e1⟩, h2, h3⟩ := Option.bind_eq_some_iff.mp h
  simp only at h3
  obtain ⟨e2, h3, h4⟩ := Option.bind_eq_some_iff.mp h3
  split at h3
  · rename_i hl
    cases h3
    cases h4
    obtain ⟨wi, g1, g2, g3, g4, g5⟩ := s_lc O hN ok hit hg ht he hs hown _ _ _ h2 (pos := p3)
    refine PS.weak (ps_setLc O.calm hN hi hyl hsw g1 ok g2 g3 g4 hs) fun D σ H => ?_
    rintro ⟨F, fps, s, q⟩
    refine g5 σ H _ ⟨F, fps, s, fun v F1 fps1 H1 fp1 r1 => ?_⟩
    obtain ⟨r2, k2⟩ := asg_fin r1 hl
    exact q _ _ _ _ r2 k2
  · cases h3
theorem p_setLcF (O : Opx X) {mt mi mc me : E} {tg it elt : Expr} {ifs : List Expr} {scope : Scope} {own : List (Str × Nat)} (hN : X.N.Nodup) (hi : X.N[i]? = some nm) (hyl : X.env.scope.names.lookup nm = some .local)
    (hsw : swapsWith (.ListComp elt [⟨tg, it, ifs, 0⟩] scope p3) (some (.Name nm p2)) pos.line X.env = pure true) (ok : BlkOk X.N X.env.scope scope own) (hit : PIx Φ X mi tg it)
    (hg : ∀ (s : Shared) (H : Hp) (C : Addr) (cl : List (Str × Addr)) (fp : List Addr), PGx (X.blk s H scope (compEnvC scope cl C X.env) fp) mt tg)
    (ht : ∀ (s : Shared) (H : Hp) (C : Addr) (cl : List (Str × Addr)) (fp : List Addr), PCp Φ (X.blk s H scope (compEnvC scope cl C X.env) fp) mc ifs)
    (he : ∀ (s : Shared) (H : Hp) (C : Addr) (cl : List (Str × Addr)) (fp : List Addr), PEp Φ (X.blk s H scope (compEnvC scope cl C X.env) fp) me elt) (hs : ∀ x, foldedSetIterable it X.env x = pure x)
    (hown : ∀ i ∈ tgNames mt, i ∈ own.map (·.2)) : PSp Φ X (.asg (.ref i) (.frz (.lc (own.map (·.2)) mt mi mc me))) (.Assign [.Name nm p2] (.ListComp elt [⟨tg, it, ifs, 0⟩] scope p3) pos) := by
  intro env f env' h
  simp only [exS, Option.bind_eq_bind, asgT] at h
  obtain ⟨⟨t', e1⟩, h2', h3⟩ := Option.bind_eq_some_iff.mp h
  simp only [evE, Option.bind_eq_bind] at h2'
  obtain ⟨⟨t, e1'⟩, h2, h2''⟩ := Option.bind_eq_some_iff.mp h2'
  have h2 : evE Φ (.lc (own.map (·.2)) mt mi mc me) env = some (t, e1') := by
    simp only [evE, Option.bind_eq_bind]
    exact h2
  cases h2''
  simp only at h3
  obtain ⟨e2, h3, h4⟩ := Option.bind_eq_some_iff.mp h3
  split at h3
  · rename_i hl
    cases h3
    cases h4
    obtain ⟨wi, g1, g2, g3, g4, g5⟩ := s_lc O hN ok hit hg ht he hs hown _ _ _ h2 (pos := p3)
    refine PS.weak (ps_setLc O.calm hN hi hyl hsw g1 ok g2 g3 g4 hs) fun D σ H => ?_
    rintro ⟨F, fps, s, q⟩
    refine g5 σ H _ ⟨F, fps, s, fun v F1 fps1 H1 fp1 r1 => ?_⟩
    obtain ⟨r2, k2⟩ := asg_fin r1.frz hl
    exact q _ _ _ _ r2 k2
  · cases h3
theorem p_setLc2 (O : Opx X) {mt mi mc mt1 mc1 me : E} {i1 : Nat} {tg it tg1 elt : Expr} {nm1 : Str} {p1 : Pos} {ifs ifs1 : List Expr} {scope : Scope} {own : List (Str × Nat)} {ow1 : List Nat} (hN : X.N.Nodup) (hi : X.N[i]? = some nm) (hyl : X.env.scope.names.lookup nm = some .local)
    (hsw : swapsWith (.ListComp elt [⟨tg, it, ifs, 0⟩, ⟨tg1, .Name nm1 p1, ifs1, 0⟩] scope p3) (some (.Name nm p2)) pos.line X.env = pure true) (ok : BlkOk X.N X.env.scope scope own) (hit : PIx Φ X mi tg it)
    (hg : ∀ (s : Shared) (H : Hp) (C : Addr) (cl : List (Str × Addr)) (fp : List Addr), PGx (X.blk s H scope (compEnvC scope cl C X.env) fp) mt tg)
    (ht : ∀ (s : Shared) (H : Hp) (C : Addr) (cl : List (Str × Addr)) (fp : List Addr), PCp Φ (X.blk s H scope (compEnvC scope cl C X.env) fp) mc ifs)
    (hi1 : ∀ (s : Shared) (H : Hp) (C : Addr) (cl : List (Str × Addr)) (fp : List Addr), PI (X.blk s H scope (compEnvC scope cl C X.env) fp) tg1 (.Name nm1 p1) (iFz X.K i1))
    (hg1 : ∀ (s : Shared) (H : Hp) (C : Addr) (cl : List (Str × Addr)) (fp : List Addr), PGx (X.blk s H scope (compEnvC scope cl C X.env) fp) mt1 tg1)
    (ht1 : ∀ (s : Shared) (H : Hp) (C : Addr) (cl : List (Str × Addr)) (fp : List Addr), PCp Φ (X.blk s H scope (compEnvC scope cl C X.env) fp) mc1 ifs1)
    (he : ∀ (s : Shared) (H : Hp) (C : Addr) (cl : List (Str × Addr)) (fp : List Addr), PEp Φ (X.blk s H scope (compEnvC scope cl C X.env) fp) me elt) (hs : ∀ x, foldedSetIterable it X.env x = pure x)
    (hv : ∀ i ∈ ow1, i ∈ own.map (·.2)) (hown : ∀ i ∈ tgNames mt, i ∈ own.map (·.2)) (hown1 : ∀ i ∈ tgNames mt1, i ∈ ow1) : PSp Φ X (.asg (.ref i) (.lc2 (own.map (·.2)) ow1 mt mi mc mt1 i1 mc1 me)) (.Assign [.Name nm p2] (.ListComp elt [⟨tg, it, ifs, 0⟩, ⟨tg1, .Name nm1 p1, ifs1, 0⟩] scope p3) pos) := by
  intro env f env' h
  simp only [exS, Option.bind_eq_bind, asgT] at h
  obtain ⟨⟨t, e1⟩, h2, h3⟩ := Option.bind_eq_some_iff.mp h
  simp only at h3
  obtain ⟨e2, h3, h4⟩ := Option.bind_eq_some_iff.mp h3
  split at h3
  · rename_i hl
    cases h3
    cases h4
    obtain ⟨wi, g1, g5⟩ := s_lc2 O hN ok hit hv hown hown1 _ _ _ h2 (pos := p3) (tg1 := tg1) (it1 := .Name nm1 p1) (elt := elt) (ifs := ifs) (ifs1 := ifs1)
    refine PS.weak (ps_setLc2 (g := gU X.K mt) (tt := ttU Φ X.K mc) (wi1 := iFz X.K i1) (g1 := gU X.K mt1) (tt1 := ttU Φ X.K mc1) (te := teU Φ X.K me) O.calm hN hi hyl hsw g1 ok hv (fun s H C cl fp => (hg s H C cl fp).u) (fun s H C cl fp => (ht s H C cl fp).u) hi1 (fun s H C cl fp => (hg1 s H C cl fp).u) (fun s H C cl fp => (ht1 s H C cl fp).u) (fun s H C cl fp => (he s H C cl fp).u) hs (fun _ _ => rfl)) fun D σ H => ?_
    rintro ⟨F, fps, s, q⟩
    refine g5 σ H _ ⟨F, fps, s, fun v F1 fps1 H1 fp1 r1 => ?_⟩
    obtain ⟨r2, k2⟩ := asg_fin r1 hl
    exact q _ _ _ _ r2 k2
  · cases h3
theorem p_setLc2F (O : Opx X) {mt mi mc mt1 mc1 me : E} {i1 : Nat} {tg it tg1 elt : Expr} {nm1 : Str} {p1 : Pos} {ifs ifs1 : List Expr} {scope : Scope} {own : List (Str × Nat)} {ow1 : List Nat} (hN : X.N.Nodup) (hi : X.N[i]? = some nm) (hyl : X.env.scope.names.lookup nm = some .local)
    (hsw : swapsWith (.ListComp elt [⟨tg, it, ifs, 0⟩, ⟨tg1, .Name nm1 p1, ifs1, 0⟩] scope p3) (some (.Name nm p2)) pos.line X.env = pure true) (ok : BlkOk X.N X.env.scope scope own) (hit : PIx Φ X mi tg it)
    (hg : ∀ (s : Shared) (H : Hp) (C : Addr) (cl : List (Str × Addr)) (fp : List Addr), PGx (X.blk s H scope (compEnvC scope cl C X.env) fp) mt tg)
    (ht : ∀ (s : Shared) (H : Hp) (C : Addr) (cl : List (Str × Addr)) (fp : List Addr), PCp Φ (X.blk s H scope (compEnvC scope cl C X.env) fp) mc ifs)
    (hi1 : ∀ (s : Shared) (H : Hp) (C : Addr) (cl : List (Str × Addr)) (fp : List Addr), PI (X.blk s H scope (compEnvC scope cl C X.env) fp) tg1 (.Name nm1 p1) (iFz X.K i1))
    (hg1 : ∀ (s : Shared) (H : Hp) (C : Addr) (cl : List (Str × Addr)) (fp : List Addr), PGx (X.blk s H scope (compEnvC scope cl C X.env) fp) mt1 tg1)
    (ht1 : ∀ (s : Shared) (H : Hp) (C : Addr) (cl : List (Str × Addr)) (fp : List Addr), PCp Φ (X.blk s H scope (compEnvC scope cl C X.env) fp) mc1 ifs1)
    (he : ∀ (s : Shared) (H : Hp) (C : Addr) (cl : List (Str × Addr)) (fp : List Addr), PEp Φ (X.blk s H scope (compEnvC scope cl C X.env) fp) me elt) (hs : ∀ x, foldedSetIterable it X.env x = pure x)
    (hv : ∀ i ∈ ow1, i ∈ own.map (·.2)) (hown : ∀ i ∈ tgNames mt, i ∈ own.map (·.2)) (hown1 : ∀ i ∈ tgNames mt1, i ∈ ow1) : PSp Φ X (.asg (.ref i) (.frz (.lc2 (own.map (·.2)) ow1 mt mi mc mt1 i1 mc1 me))) (.Assign [.Name nm p2] (.ListComp elt [⟨tg, it, ifs, 0⟩, ⟨tg1, .Name nm1 p1, ifs1, 0⟩] scope p3) pos) := by
  intro env f env' h
  simp only [exS, Option.bind_eq_bind, asgT] at h
  obtain ⟨⟨t', e1⟩, h2', h3⟩ := Option.bind_eq_some_iff.mp h
  rw [evE] at h2'
  simp only [Option.bind_eq_bind] at h2'
  obtain ⟨⟨t, e1'⟩, h2, h2''⟩ := Option.bind_eq_some_iff.mp h2'
  cases h2''
  simp only at h3
  obtain ⟨e2, h3, h4⟩ := Option.bind_eq_some_iff.mp h3
  split at h3
  · rename_i hl
    cases h3
    cases h4
    obtain ⟨wi, g1, g5⟩ := s_lc2 O hN ok hit hv hown hown1 _ _ _ h2 (pos := p3) (tg1 := tg1) (it1 := .Name nm1 p1) (elt := elt) (ifs := ifs) (ifs1 := ifs1)
    refine PS.weak (ps_setLc2 (g := gU X.K mt) (tt := ttU Φ X.K mc) (wi1 := iFz X.K i1) (g1 := gU X.K mt1) (tt1 := ttU Φ X.K mc1) (te := teU Φ X.K me) O.calm hN hi hyl hsw g1 ok hv (fun s H C cl fp => (hg s H C cl fp).u) (fun s H C cl fp => (ht s H C cl fp).u) hi1 (fun s H C cl fp => (hg1 s H C cl fp).u) (fun s H C cl fp => (ht1 s H C cl fp).u) (fun s H C cl fp => (he s H C cl fp).u) hs (fun _ _ => rfl)) fun D σ H => ?_
    rintro ⟨F, fps, s, q⟩
    refine g5 σ H _ ⟨F, fps, s, fun v F1 fps1 H1 fp1 r1 => ?_⟩
    obtain ⟨r2, k2⟩ := asg_fin r1.frz hl
    exact q _ _ _ _ r2 k2
  · cases h3
theorem RVs.tailOf {K : Frg} {F F' H H' : Hp} {fps fps' : Fps} {σ : L2.St} {env : SEnv} {t u : AV} {v w : V} {fp : List Addr} (rv : RVs K σ env [.val t, .val u] F fps H [v, w] F' fps' H' fp) (hi : i < env.length) (hj : j < env.length) (hij : i ≠ j) :
    ∃ fps2, RVs K ((σ.set i (some v)).set j (some w)) ((env.set i (some t)).set j (some u)) [] F fps H [] F' fps2 H' [] := by
  obtain ⟨sk, rs, nd, ap, st⟩ := rv
  cases rs with
  | val h1 h2 =>
    rename_i fa fb
    have h2 := h2.one_inv
    have nd1 := (List.nodup_append.mp nd).1
    have nd2 := (List.nodup_append.mp nd).2.1
    have dj : ∀ x ∈ fa, x ∉ fb := fun x hx hy => (List.nodup_append.mp nd).2.2 x hx x hy rfl
    have s1 := sk.store hi h1 nd1 fun x m => ap x (List.mem_append_left _ m)
    have s2 := s1.store (i := j) (by rw [List.length_set]; exact hj) h2 nd2 fun x m => ⟨(ap x (List.mem_append_right _ m)).1, fun z => ?_⟩
    · refine ⟨_, s2, .nil, List.nodup_nil, fun _ m => (nomatch m), st.weak fun a m => ?_⟩
      rcases m with m | m
      · rcases ownd_put m with m | m
        · rcases ownd_put m with m | m
          · exact .inl m
          · exact .inr (List.mem_append_left _ m)
        · exact .inr (List.mem_append_right _ m)
      · cases m
    · rcases ownd_put z with z | z
      · exact (ap x (List.mem_append_right _ m)).2 z
      · exact dj x z m
theorem p_par (O : Opx X) {px py pt pt2 : Pos} {kt k2 : Nat} (hN : X.N.Nodup) (hi : X.N[i]? = some nm) (hj : X.N[j]? = some nm2) (hx : X.env.scope.names.lookup nm = some .local) (hy : X.env.scope.names.lookup nm2 = some .local) (ha : PEp Φ X a x) (hb : PEp Φ X b y)
    (hs1 : starEach [x, y] X.env = (false, eval x X.env) :: starEach [y] X.env) (hs2 : starEach [y] X.env = (false, eval y X.env) :: starEach [] X.env)
    (hw : swappedStores [.Tuple [.Name nm px, .Name nm2 py] kt pt] (.Tuple [x, y] k2 pt2) X.env = pure (some [nm, nm2]))
    (hs : swapsWithSole [.Tuple [.Name nm px, .Name nm2 py] kt pt] (.Tuple [x, y] k2 pt2) pos.line X.env = pure false) :
    PSp Φ X (.par i j a b) (.Assign [.Tuple [.Name nm px, .Name nm2 py] kt pt] (.Tuple [x, y] k2 pt2) pos) := by
  intro env f env' h
  simp only [exS, Option.bind_eq_bind, Option.bind_eq_some_iff] at h
  obtain ⟨⟨t, e1⟩, h1, ⟨u, e2⟩, h2, h3⟩ := h
  simp only at h3
  split at h3
  · rename_i hl
    cases h3
    refine PS.weak (ps_par O.calm hN hi hj hl.2.2 hx hy (pa_cons (ha _ _ _ h1) (pa_cons (hb _ _ _ h2) pa_nil hs2) hs1) hw hs) fun D σ H => ?_
    rintro ⟨F, fps, s, q⟩
    refine ⟨F, fps, s, fun v F1 fps1 H1 fp1 r1 => ⟨F1, fps1, r1.sk, fun w F2 fps2 H2 fp2 r2 => ⟨v, w, rfl, ?_⟩⟩⟩
    obtain ⟨fps3, r3⟩ := (r1.seq r2).tailOf hl.1 hl.2.1 hl.2.2
    refine q _ _ _ _ r3 fun l hl => ?_
    rw [List.getElem?_set_ne fun z => hl (by rw [← z]; exact List.mem_cons_of_mem _ List.mem_cons_self), List.getElem?_set_ne fun z => hl (by rw [← z]; exact List.mem_cons_self)]
  · cases h3
end
end Mi
/-! Statements: lists and dicts that change, tests, loops. -/
namespace Mi
open PySem L2 PyProof.Rows

section
variable {K : Frg} {F H : Hp}
/-- an item of a list replaced -/
theorem TRs.put {vs : List V} {ts : List AV} {f fq : List Addr} (h : TRs K F H vs ts f) {j : Nat} {w : V} {t : AV} (hj : j < ts.length) (hw : TR K F H w t fq) (nd : f.Nodup) (nq : fq.Nodup) (dj : ∀ x ∈ f, x ∉ fq) :
    ∃ f2, TRs K F H (vs.set j w) (ts.set j t) f2 ∧ f2.Nodup ∧ ∀ x ∈ f2, x ∈ f ∨ x ∈ fq := by
  obtain ⟨y, f1, f2, f3, g0, rfl, g1, g2, g3⟩ := h.cut (List.getElem?_eq_getElem hj)
  have hl := h.length
  have e1 : vs.set j w = vs.take j ++ w :: vs.drop (j + 1) := List.set_eq_take_append_cons_drop .. |>.trans (if_pos (by omega))
  have e2 : ts.set j t = ts.take j ++ t :: ts.drop (j + 1) := List.set_eq_take_append_cons_drop .. |>.trans (if_pos hj)
  have nd23 := (List.nodup_append.mp nd).2.1
  refine ⟨f1 ++ (fq ++ f3), ?_, ?_, fun x m => ?_⟩
  · rw [e1, e2]
    exact g1.append (.cons hw g3)
  · refine List.nodup_append.mpr ⟨(List.nodup_append.mp nd).1, List.nodup_append.mpr ⟨nq, (List.nodup_append.mp nd23).2.1, fun x hx w hw z => ?_⟩, fun x hx w hw z => ?_⟩
    · subst z
      exact dj x (List.mem_append_right _ (List.mem_append_right _ hw)) hx
    · subst z
      rcases List.mem_append.mp hw with hw | hw
      · exact dj x (List.mem_append_left _ hx) hw
      · exact (List.nodup_append.mp nd).2.2 x hx x (List.mem_append_right _ hw) rfl
  · rcases List.mem_append.mp m with m | m
    · exact .inl (List.mem_append_left _ m)
    · rcases List.mem_append.mp m with m | m
      · exact .inr m
      · exact .inl (List.mem_append_right _ (List.mem_append_right _ m))
end

section
variable {Φ : Phi} {X : Cx} {m n : S} {a b c : E} {x y z : Expr} {st : Stmt} {sts : List Stmt} {pos p2 p3 apos cpos np : Pos} {i j k : Nat} {nm nm2 nm3 : Str}

theorem setIx_inv {w u t w2 : AV} (h : setIx w u t = some w2) : (∃ ts k j, w = .own ts ∧ u = .d (.int k) ∧ ixN ts.length k = some j ∧ w2 = .own (ts.set j t)) ∨
    ∃ ks ts x key, w = .odk ks ts ∧ u = .d x ∧ keyOf? x = some key ∧ fitL (ks.length + 1) = true ∧ w2 = .odk (oput ks ts key (.d t.dat)).1 (oput ks ts key (.d t.dat)).2 := by
  unfold setIx at h
  split at h
  · rename_i ts k
    obtain ⟨j, hj, e⟩ := Option.map_eq_some_iff.mp h
    exact .inl ⟨ts, k, j, rfl, rfl, hj, e.symm⟩
  · rename_i ks ts x
    split at h
    · rename_i key hk
      split at h
      · rename_i hf
        exact .inr ⟨ks, ts, x, key, rfl, rfl, hk, hf, (Option.some.inj h).symm⟩
      · cases h
    · cases h
  · cases h
/-! ### x[k] = e -/
theorem p_sub (O : Opx X) (hN : X.N[i]? = some nm) (hv : Vis X.env.scope nm) (hd : (nm == ("__debug__" : Str)) = false) (hc : (nm == ("__classdict__" : Str)) = false) (ha : PEp Φ X a x) (hk : PEp Φ X b y)
    (hs : swapsWithSole [.Subscript (.Name nm np) y p2] x pos.line X.env = pure false) (hw : swappedStores [.Subscript (.Name nm np) y p2] x X.env = pure none) (h1 : (assignEach [.Subscript (.Name nm np) y p2] X.env).map (·.2) = [assign (.Subscript (.Name nm np) y p2) X.env])
    (hass : ∀ v, assign (.Subscript (.Name nm np) y p2) X.env v = (do
      let ov ← holding [v] (eval (.Name nm np) X.env)
      let iv ← holding [v, ov] (eval y X.env)
      standAt p2
      holding [v, ov, iv] (setItem ov iv v)
      release [v, ov, iv] [])) : PSp Φ X (.sub i b a) (.Assign [.Subscript (.Name nm np) y p2] x pos) := by
  have hu := O.un
  intro env f env' h
  simp only [exS, Option.bind_eq_bind, Option.bind_eq_some_iff] at h
  obtain ⟨⟨t, e1⟩, h2, t0, h0, ⟨u, e2⟩, h3, w, h4, w2, h5, h6⟩ := h
  cases h6
  rcases setIx_inv h5 with ⟨ts, k, jj, rfl, hu', hj, rfl⟩ | ⟨ks, ts, x', key, rfl, hu', hkey, hf, rfl⟩
  · have hu' : u = .d (.int k) := hu'
    subst hu'
    refine PS.weak (ps_asg (ha _ _ _ h2) (pg_sub (pe_var hN hv hd hc) (hk _ _ _ h3) set_list hass) hs hw h1) fun D σ H => ?_
    rintro ⟨F, fps, s, q⟩
    refine ⟨F, fps, s, fun v F1 fps1 H1 fp1 r1 => ?_⟩
    obtain ⟨o, ho, _⟩ := r1.sk.slot i t0 (getv_some h0)
    refine ⟨o, ho, F1, fps1, r1.sk, fun v2 F2 fps2 H2 fp2 r2 => ?_⟩
    have rv := r1.seq r2.drop
    simp only [List.append_nil] at rv
    obtain ⟨l, vs, f, g1, g2, g3, g4, g5, g6⟩ := rv.sk.list h4
    rw [ho] at g1
    cases g1
    have hlt := ixN_lt hj
    obtain ⟨f2, k1, k2, k3⟩ := g4.put hlt rv.rs.one_inv g5 rv.nd fun x m z => (rv.ap x z).2 ⟨i, by rw [g2]; exact List.mem_cons_of_mem _ m⟩
    have nl : l ∉ f2 := fun m => (k3 l m).elim g6 fun z => (rv.ap l z).2 ⟨i, by rw [g2]; exact List.mem_cons_self⟩
    refine ⟨l, vs, k, jj, rfl, r2.rs.one_inv.int, g3, by rw [g4.length]; exact hj, ?_⟩
    exact q _ _ _ _ (rv.writeR ho g2 (.own upd_same (k1.off nl)) k2 k3) Keep.refl
  · have hu' : u = .d x' := hu'
    subst hu'
    refine PS.weak (ps_asg (ha _ _ _ h2) (pg_sub (pe_var hN hv hd hc) (hk _ _ _ h3) (set_dict (by omega)) hass) hs hw h1) fun D σ H => ?_
    rintro ⟨F, fps, s, q⟩
    refine ⟨F, fps, s, fun v F1 fps1 H1 fp1 r1 => ?_⟩
    obtain ⟨o, ho, _⟩ := r1.sk.slot i t0 (getv_some h0)
    have r1f := r1.frz
    refine ⟨o, ho, _, fps1, r1f.sk, fun v2 F2 fps2 H2 fp2 r2 => ?_⟩
    have rv := r1f.seq r2.drop
    simp only [List.append_nil] at rv
    obtain ⟨l, kvs, f, g1, g2, g3, gk, g4, g5, g6⟩ := rv.sk.dict h4
    rw [ho] at g1
    cases g1
    subst gk
    obtain ⟨f2, k1, k2, k3⟩ := g4.oput key rv.rs.one_inv.rp
    have hyk := keyOf_rp r2.rs.one_inv.rp hkey
    have nl : l ∉ f2 := fun m => g6 (k3.subset m)
    have hle : kvs.length < sizeLine := by
      have := fitL_le hf
      rw [List.length_map] at this
      omega
    refine ⟨l, _, rfl, .inl ⟨kvs, key, g3, hyk, hle, rfl⟩, ?_⟩
    exact q _ _ _ _ (rv.writeR ho g2 (.odk upd_same k2 (k1.off nl)) (g5.sublist k3) fun x m => .inl (k3.subset m)) Keep.refl

/-! ### x[k], y = e -/
theorem p_sbp (O : Opx X) {k3 : Nat} {pt py : Pos} (hNd : X.N.Nodup) (hN : X.N[i]? = some nm) (hv : Vis X.env.scope nm) (hd : (nm == ("__debug__" : Str)) = false) (hc : (nm == ("__classdict__" : Str)) = false) (hj : X.N[j]? = some nm2) (hx : Loc X.env.scope nm2) (hf : X.fn nm2 = true ∨ X.env.scope.names.lookup nm2 = some .local)
    (ha : PEp Φ X a x) (hk : PEp Φ X b y) (hs : swapsWithSole [.Tuple [.Subscript (.Name nm np) y p2, .Name nm2 py] k3 pt] x pos.line X.env = pure false) (hw : swappedStores [.Tuple [.Subscript (.Name nm np) y p2, .Name nm2 py] k3 pt] x X.env = pure none)
    (hass : ∀ v, assign (.Subscript (.Name nm np) y p2) X.env v = (do
      let ov ← holding [v] (eval (.Name nm np) X.env)
      let iv ← holding [v, ov] (eval y X.env)
      standAt p2
      holding [v, ov, iv] (setItem ov iv v)
      release [v, ov, iv] [])) : PSp Φ X (.sbp i b j a) (.Assign [.Tuple [.Subscript (.Name nm np) y p2, .Name nm2 py] k3 pt] x pos) := by
  intro env f env' h
  simp only [exS, Option.bind_eq_bind, Option.bind_eq_some_iff] at h
  obtain ⟨⟨t, e1⟩, h2, h⟩ := h
  simp only at h
  split at h
  · rename_i d1 d2
    simp only [Option.bind_eq_some_iff] at h
    obtain ⟨t0, h0, ⟨u, e2⟩, h3, h⟩ := h
    simp only at h
    split at h
    · rename_i ts z ht
      split at h
      · rename_i l hl
        split at h
        · rename_i hjl
          cases h
          refine PS.weak (ps_asg (ha _ _ _ h2) (pg_tup O.calm (pgs_cons (pg_sub (pe_var hN hv hd hc) (hk _ _ _ h3) set_list hass) (pgs_cons (pg_name hNd hj hx hf) pgs_nil rfl) rfl) rfl rfl) hs hw rfl) fun D σ H => ?_
          rintro ⟨F, fps, s, q⟩
          refine ⟨F, fps, s, fun v F1 fps1 H1 fp1 r1 => ?_⟩
          have tr := r1.rs.one_inv
          have tr' : TR X.K F1 H1 v (.d (.tuple [d1, d2])) fp1 := tr
          obtain ⟨p, ws, rfl, g1, g2⟩ := tr'.rp.tup_inv
          cases g2 with
          | cons w1 g2 =>
            cases g2 with
            | cons w2 g2 =>
              cases g2
              rename_i v1 v2
              obtain ⟨o, ho, _⟩ := r1.sk.slot i t0 (getv_some h0)
              refine ⟨p, [v1, v2], rfl, sqT_mono r1.sk.sub g1, rfl, v1, [v2], rfl, o, ho, F1, fps1, r1.sk, fun vk F2 fps2 H2 fp2 r2 => ?_⟩
              have rv := r1.drop.thenR r2.drop
              obtain ⟨lb, vs, f, c1, c2, c3, c4, c5, c6⟩ := rv.sk.list ht
              rw [ho] at c1
              cases c1
              have hlt := ixN_lt hl
              have w1' := w1.mono r2.st.f
              have w2' := w2.mono r2.st.f
              obtain ⟨f2, k1, k2, k3⟩ := c4.put (fq := []) hlt (.d w1') c5 List.nodup_nil fun _ _ z => nomatch z
              have nl : lb ∉ f2 := fun m => (k3 lb m).elim c6 fun z => nomatch z
              have hu : TR X.K F2 H2 vk (.d (.int z)) fp2 := r2.rs.one_inv
              refine ⟨lb, vs, z, l, rfl, hu.int, c3, by rw [c4.length]; exact hl, ?_⟩
              have r3 := rv.writeR ho c2 (.own upd_same (k1.off nl)) k2 fun x m => (k3 x m).imp id fun z => nomatch z
              obtain ⟨r4, k4⟩ := asg_fin (i := j) (r3.dat w2') (by rw [List.length_set]; exact hjl)
              exact ⟨v2, [], rfl, rfl, q _ _ _ _ r4 k4⟩
        · cases h
      · cases h
    · cases h
  · cases h

/-! ### methods of lists that change them -/
theorem p_app (hN : X.N[i]? = some nm) (hv : Vis X.env.scope nm) (hd : (nm == ("__debug__" : Str)) = false) (hc : (nm == ("__classdict__" : Str)) = false) (hl : (apos.endLine == cpos.line) = true) (ha : PEp Φ X a x)
    (hs : starEach [x] X.env = [(false, eval x X.env)]) : PSp Φ X (.app i a) (.Expr (.Call (.Attribute (.Name nm np) "append" apos) [x] [] cpos) pos) := by
  intro env f env' h
  simp only [exS] at h
  split at h
  · rename_i how
    simp only [Option.bind_eq_bind, Option.bind_eq_some_iff] at h
    obtain ⟨⟨t, e1⟩, h1, h2⟩ := h
    simp only at h2
    split at h2
    · rename_i ts ht
      split at h2
      · rename_i hf
        cases h2
        have pm : MtR X "list.append" rAppend := mt_append
        refine PS.weak (ps_expr (pe_bm PySem.F.plainAttrs_list PySem.F.slot_list_append PySem.F.type_list_append pm (pe_var hN hv hd hc) (pa_cons (ha _ _ _ h1) pa_nil hs) rfl (by rw [hs]; rfl) hl hs rfl) rfl) fun D σ H => ?_
        rintro ⟨F, fps, s, q⟩
        obtain ⟨l, hv1, hv2⟩ := s.ownTy how
        refine ⟨.ref l, hv1, hv2, F, fps, s, fun v F1 fps1 H1 fp1 r1 => ?_⟩
        obtain ⟨l', vs, f, g1, g2, g3, g4, g5, g6⟩ := r1.sk.list ht
        rw [hv1] at g1
        cases g1
        have nl : l ∉ f ++ fp1 := fun m => (List.mem_append.mp m).elim g6 fun z => (r1.ap l z).2 ⟨i, by rw [g2]; exact List.mem_cons_self⟩
        have hle := fitL_le hf
        have hlen := g4.length
        refine ⟨l, vs, v, rfl, rfl, g3, by omega, ?_⟩
        refine q _ _ _ _ (r1.writeR hv1 g2 (.own upd_same ((g4.append (.one r1.rs.one_inv)).off nl)) ?_ fun x m => List.mem_append.mp m) Keep.refl
        exact List.nodup_append.mpr ⟨g5, r1.nd, fun x hx w hw z => (r1.ap w hw).2 ⟨i, by rw [g2, ← z]; exact List.mem_cons_of_mem _ hx⟩⟩
      · cases h2
    · cases h2
  · cases h
theorem p_ext (hN : X.N[i]? = some nm) (hv : Vis X.env.scope nm) (hd : (nm == ("__debug__" : Str)) = false) (hc : (nm == ("__classdict__" : Str)) = false) (hl : (apos.endLine == cpos.line) = true) (ha : PEp Φ X a x)
    (hs : starEach [x] X.env = [(false, eval x X.env)]) : PSp Φ X (.ext i a) (.Expr (.Call (.Attribute (.Name nm np) "extend" apos) [x] [] cpos) pos) := by
  intro env f env' h
  simp only [exS] at h
  split at h
  · rename_i how
    simp only [Option.bind_eq_bind, Option.bind_eq_some_iff] at h
    obtain ⟨⟨t, e1⟩, h1, h2⟩ := h
    simp only at h2
    split at h2
    · rename_i ts us ht
      split at h2
      · rename_i hf
        cases h2
        have pm : MtR X "list.extend" rExtend := mt_extend
        refine PS.weak (ps_expr (pe_bm PySem.F.plainAttrs_list PySem.F.slot_list_extend PySem.F.type_list_extend pm (pe_var hN hv hd hc) (pa_cons (ha _ _ _ h1) pa_nil hs) rfl (by rw [hs]; rfl) hl hs rfl) rfl) fun D σ H => ?_
        rintro ⟨F, fps, s, q⟩
        obtain ⟨l, hv1, hv2⟩ := s.ownTy how
        refine ⟨.ref l, hv1, hv2, F, fps, s, fun v F1 fps1 H1 fp1 r1 => ?_⟩
        obtain ⟨l', vs, f, g1, g2, g3, g4, g5, g6⟩ := r1.sk.list ht
        rw [hv1] at g1
        cases g1
        obtain ⟨b', ws, fb, rfl, rfl, k3, k4⟩ := r1.rs.one_inv.own_inv
        have nl : l ∉ f ++ fb := fun m => (List.mem_append.mp m).elim g6 fun z => (r1.ap l (List.mem_cons_of_mem _ z)).2 ⟨i, by rw [g2]; exact List.mem_cons_self⟩
        have hle := fitL_le hf
        have hlen := g4.length
        have hlen2 := k4.length
        refine ⟨l, b', vs, ws, rfl, rfl, g3, k3, by omega, ?_⟩
        refine q _ _ _ _ (r1.writeR hv1 g2 (.own upd_same ((g4.append k4).off nl)) ?_ fun x m => (List.mem_append.mp m).imp id (List.mem_cons_of_mem _)) Keep.refl
        exact List.nodup_append.mpr ⟨g5, (List.nodup_cons.mp r1.nd).2, fun x hx w hw z => (r1.ap w (List.mem_cons_of_mem _ hw)).2 ⟨i, by rw [g2, ← z]; exact List.mem_cons_of_mem _ hx⟩⟩
      · cases h2
    · rename_i ts us ht
      split at h2
      · rename_i hf
        cases h2
        have pm : MtR X "list.extend" (rExtendR X.K) := mt_extendR
        refine PS.weak (ps_expr (pe_bm PySem.F.plainAttrs_list PySem.F.slot_list_extend PySem.F.type_list_extend pm (pe_var hN hv hd hc) (pa_cons (ha _ _ _ h1) pa_nil hs) rfl (by rw [hs]; rfl) hl hs rfl) rfl) fun D σ H => ?_
        rintro ⟨F, fps, s, q⟩
        obtain ⟨l, hv1, hv2⟩ := s.ownTy how
        refine ⟨.ref l, hv1, hv2, F, fps, s, fun v F1 fps1 H1 fp1 r1 => ?_⟩
        obtain ⟨l', vs, f, g1, g2, g3, g4, g5, g6⟩ := r1.sk.list ht
        rw [hv1] at g1
        cases g1
        obtain ⟨b', ws, rfl, k3, k4⟩ := r1.rs.one_inv.lst r1.sk.sub (show AV.lst? (.d (.list us)) = some us from rfl)
        have hle := fitL_le hf
        have hlen := g4.length
        have hlen2 := k4.length
        refine ⟨l, b', vs, ws, rfl, rfl, g3, k3, by omega, ?_⟩
        have g7 := g4.append (TRs.ofRp (H := H1) k4)
        rw [List.append_nil] at g7
        refine q _ _ _ _ (r1.drop.writeR hv1 g2 (.own upd_same (g7.off g6)) g5 fun x m => .inl m) Keep.refl
      · cases h2
    · cases h2
  · cases h

/-! ### tests -/
theorem p_ife (hc : PTp Φ X c z) (ha : PBp Φ X m sts) {sts2 : List Stmt} (hb : PBp Φ X n sts2) : PSp Φ X (.ife c m n) (.If z sts sts2 pos) := by
  intro env f env' h
  simp only [exS, Option.bind_eq_bind, Option.bind_eq_some_iff] at h
  obtain ⟨⟨k, e1⟩, h1, h2⟩ := h
  cases k with
  | true =>
    simp only [if_true] at h2
    refine PS.weak (ps_if (hc _ _ _ h1) (ha _ _ _ h2) pss_never) fun D σ H => ?_
    rintro ⟨F, fps, s, q⟩
    refine ⟨F, fps, s, fun F1 fps1 H1 r1 => ?_⟩
    refine iteT ?_
    exact ⟨F1, fps1, r1.sk, q.pre (n1 := []) r1 Keep.refl (fun j h => nomatch h) fun j hj => List.mem_append_left _ hj⟩
  | false =>
    simp only [Bool.false_eq_true, if_false] at h2
    refine PS.weak (ps_if (hc _ _ _ h1) pss_never (hb _ _ _ h2)) fun D σ H => ?_
    rintro ⟨F, fps, s, q⟩
    refine ⟨F, fps, s, fun F1 fps1 H1 r1 => ?_⟩
    refine iteF ?_
    exact ⟨F1, fps1, r1.sk, q.pre (n1 := []) r1 Keep.refl (fun j h => nomatch h) fun j hj => List.mem_append_right _ hj⟩

/-! ### loops -/
theorem PBp.u (h : PBp Φ X m sts) : PSs X sts (tsU Φ X.K m) := ⟨fun pins s σ H D I ⟨env, f, env', e, q⟩ => (h _ _ _ e).run pins s σ H D I q⟩
theorem PTp.u (h : PTp Φ X c z) : PT X z (tcU Φ X.K c) := ⟨fun pins s σ H Q I ⟨env, env', b, e, q⟩ => (h _ _ _ e).run pins s σ H Q I q⟩
def whileN (c : SEnv → Option (Bool × SEnv)) (b : SEnv → Option (Fl × SEnv)) : Nat → SEnv → Option (Fl × SEnv)
  | 0, _ => none
  | n + 1, env => do
    let (k, e1) ← c env
    if k then do
      let (f, e2) ← b e1
      match f with
      | .nx => whileN c b n e2
      | .ct => whileN c b n e2
      | .bk => some (.nx, e2)
      | .rt t => some (.rt t, e2)
    else some (.nx, e1)
theorem while_fin (c : SEnv → Option (Bool × SEnv)) (b : SEnv → Option (Fl × SEnv)) : ∀ env r, whileI c b env = some r → ∃ n, whileN c b n env = some r := by
  refine whileI.partial_correctness c b (fun env r => ∃ n, whileN c b n env = some r) fun g ih env r h => ?_
  simp only [Option.bind_eq_bind, Option.bind_eq_some_iff] at h
  obtain ⟨⟨k, e1⟩, h1, h2⟩ := h
  cases k with
  | false =>
    simp only [Bool.false_eq_true, if_false] at h2
    refine ⟨1, ?_⟩
    unfold whileN
    simp only [Option.bind_eq_bind, h1, Option.bind_some, Bool.false_eq_true, if_false]
    exact h2
  | true =>
    simp only [if_true, Option.bind_eq_some_iff] at h2
    obtain ⟨⟨f, e2⟩, h3, h4⟩ := h2
    cases f with
    | nx =>
      obtain ⟨n, hn⟩ := ih _ _ h4
      refine ⟨n + 1, ?_⟩
      unfold whileN
      simp only [Option.bind_eq_bind, h1, Option.bind_some, if_true, h3]
      exact hn
    | ct =>
      obtain ⟨n, hn⟩ := ih _ _ h4
      refine ⟨n + 1, ?_⟩
      unfold whileN
      simp only [Option.bind_eq_bind, h1, Option.bind_some, if_true, h3]
      exact hn
    | bk =>
      refine ⟨1, ?_⟩
      unfold whileN
      simp only [Option.bind_eq_bind, h1, Option.bind_some, if_true, h3]
      exact h4
    | rt t =>
      refine ⟨1, ?_⟩
      unfold whileN
      simp only [Option.bind_eq_bind, h1, Option.bind_some, if_true, h3]
      exact h4
theorem p_while (hp : PassesOwn (model X.prog X.w) X.A X.env X.xe) (hc : PTp Φ X c z) (hb : PBp Φ X m sts) : PSp Φ X (.whil c m) (.While z sts [] pos) := by
  intro env f env' h
  simp only [exS] at h
  obtain ⟨n0, hn⟩ := while_fin _ _ _ _ h
  refine PS.weak (ps_while hp hc.u hb.u) fun D σ0 H0 => ?_
  rintro ⟨F0, fps0, s0, q⟩
  refine ⟨fun n σ H => ∃ ei Fi fpsi, whileN (evT Φ c) (exS Φ m) n ei = some (f, env') ∧ RVs X.K σ ei [] F0 fps0 H0 [] Fi fpsi H [] ∧ Keep m.names σ0 σ, ⟨n0, env, F0, fps0, hn, s0.start, Keep.refl⟩, ?_⟩
  rintro n σ H ⟨ei, Fi, fpsi, hw, rv, kp⟩
  cases n with
  | zero => simp [whileN] at hw
  | succ n =>
    simp only [whileN, Option.bind_eq_bind, Option.bind_eq_some_iff] at hw
    obtain ⟨⟨k, e1⟩, h1, h2⟩ := hw
    refine ⟨ei, e1, k, h1, Fi, fpsi, rv.sk, fun F1 fps1 H1 r1 => ?_⟩
    have rv1 := rv.thenR r1
    cases k with
    | false =>
      simp only [Bool.false_eq_true, if_false] at h2
      cases h2
      refine iteF ?_
      exact q σ F1 fps1 H1 rv1 kp
    | true =>
      simp only [if_true, Option.bind_eq_some_iff] at h2
      obtain ⟨⟨g, e2⟩, h3, h4⟩ := h2
      refine iteT ?_
      refine ⟨fun σ H => ∃ ei Fi fpsi, whileN (evT Φ c) (exS Φ m) n ei = some (f, env') ∧ RVs X.K σ ei [] F0 fps0 H0 [] Fi fpsi H [] ∧ Keep m.names σ0 σ, fun τ H' w => ⟨n, Nat.lt_succ_self n, w⟩, e1, g, e2, h3, F1, fps1, rv1.sk, ?_⟩
      cases g with
      | nx => exact fun τ F2 fps2 H2 r2 k2 => ⟨e2, F2, fps2, h4, rv1.thenR r2, kp.tr k2⟩
      | ct => exact fun τ F2 fps2 H2 r2 k2 => ⟨e2, F2, fps2, h4, rv1.thenR r2, kp.tr k2⟩
      | bk =>
        simp only at h4
        cases h4
        exact fun τ F2 fps2 H2 r2 k2 => q τ F2 fps2 H2 (rv1.thenR r2) (kp.tr k2)
      | rt t =>
        simp only at h4
        cases h4
        exact fun τ v F2 fps2 H2 fp r2 k2 => q τ v F2 fps2 H2 fp (rv1.thenR r2) (kp.tr k2)
abbrev forTurn (Φ : Phi) (mt : E) (m : S) : PyData → SEnv → Option (Fl × SEnv) := fun x e => do
        let e' ← asgT mt (.d x) e
        exS Φ m e'
theorem p_for (O : Opx X) {mt mi : E} {tg it : Expr} (hp : PassesOwn (model X.prog X.w) X.A X.env X.xe) (hi : PIx Φ X mi tg it) (hg : PGx X mt tg) (hb : PBp Φ X m sts) (hs : ∀ x, foldedSetIterable it X.env x = pure x) : PSp Φ X (.forr mt mi m) (.For tg it sts [] pos) := by
  intro env f env' h
  simp only [exS, Option.bind_eq_bind] at h
  obtain ⟨⟨xs, e1, rs⟩, h1, h2⟩ := Option.bind_eq_some_iff.mp h
  simp only at h2
  split at h2
  · rename_i hheld
    obtain ⟨⟨g, e2⟩, h3, h4⟩ := Option.bind_eq_some_iff.mp h2
    have h4' : some (g, putBack rs e2) = some (f, env') := h4
    cases h4'
    have h3' : forI (forTurn Φ mt m) xs e1 = some (f, e2) := h3
    refine PS.weak (ps_for hp O.calm (hi _ _ _ _ h1) hg.u hb.u hs) fun D σ0 H0 => ?_
    rintro ⟨F0, fps0, s0, q⟩
    refine ⟨F0, fps0, s0, fun J F1 fps1 H1 fh src itok => ?_⟩
    obtain ⟨G, Y, wk, hG, hY⟩ := itok
    have held : ∀ {τ : L2.St}, Keep (tgNames mt ++ m.names) σ0 τ → ∀ p, rs = some p → τ[p.1]? = σ0[p.1]? := fun {τ} k p e => by
      subst e
      refine k p.1 fun z => ?_
      have : (tgNames mt ++ m.names).contains p.1 = true := List.contains_iff_mem.mpr z
      have hh : (!(tgNames mt ++ m.names).contains p.1) = true := hheld
      rw [this] at hh
      cases hh
    -- the ends
    have endN : ∀ {τ F2 fps2 H2}, f = .nx → RVs X.K τ e2 [] F1 fps1 H1 [] F2 fps2 H2 [] → Keep (tgNames mt ++ m.names) σ0 τ → D.nx τ H2 := fun {τ F2 fps2 H2} e r k => by
      subst e
      obtain ⟨fps3, r3⟩ := src.back0 r (held k)
      exact q τ F2 fps3 H2 r3 k
    have endR : ∀ {t τ v F2 fps2 H2 fp}, f = .rt t → RVs X.K τ e2 [.val t] F1 fps1 H1 [v] F2 fps2 H2 fp → Keep (tgNames mt ++ m.names) σ0 τ → D.rt v H2 := fun {t τ v F2 fps2 H2 fp} e r k => by
      subst e
      obtain ⟨fps3, r3⟩ := src.back r (held k)
      exact q τ v F2 fps3 H2 fp r3 k
    refine for_it wk (fun i σ H => ∃ ei Fi fpsi, forI (forTurn Φ mt m) (xs.drop i) ei = some (f, e2) ∧ RVs X.K σ ei [] F1 fps1 H1 [] Fi fpsi H [] ∧ Keep (tgNames mt ++ m.names) σ0 σ) ?_ ?_ ?_ ?_
    · exact ⟨e1, F1, fps1, by simpa using h3', src.sk.start, Keep.refl⟩
    · rintro i σ H _ ⟨ei, Fi, fpsi, _, rv, _⟩
      exact hG _ _ _ (rv.st.weak fun _ h => .inl h) rv.sk.sub
    · rintro i x σ H2 H3 hlt ⟨ei, Fi, fpi, hloop, rv, kp⟩ hy
      obtain ⟨d, F3, hd, sk3, st3, rp3, _⟩ := hY i H2 x H3 Fi fpi _ _ hlt rv.sk (rv.st.weak fun _ h => .inl h) hy
      have rv3 := rv.thenR (os := []) (v := []) (fp := []) ⟨sk3, .nil, List.nodup_nil, fun _ m => (nomatch m), st3.weak fun _ h => h.elim id fun m => nomatch m⟩
      rw [drop_cons hd] at hloop
      simp only [forI, Option.bind_eq_bind, Option.bind_eq_some_iff] at hloop
      obtain ⟨⟨g, e3⟩, ht1, hr⟩ := hloop
      simp only [forTurn, Option.bind_eq_bind, Option.bind_eq_some_iff] at ht1
      obtain ⟨e', ha, hbody⟩ := ht1
      refine ⟨ei, .d d, e', ha, F3, fpi, [], sk3, .d rp3, List.nodup_nil, fun _ m => (nomatch m), fun τ fps2 sk4 w4 k4 => ?_⟩
      have rv4 := rv3.reslot0 sk4 fun a m => (w4 a m).elim id fun m => nomatch m
      have kp4 : Keep (tgNames mt ++ m.names) σ0 τ := kp.tr (Keep.mono k4 fun j hj => List.mem_append_left _ hj)
      refine ⟨e', g, e3, hbody, F3, fps2, sk4, ?_⟩
      have hn : ∀ j ∈ m.names, j ∈ tgNames mt ++ m.names := fun j hj => List.mem_append_right _ hj
      cases g with
      | nx => exact fun υ F5 fps5 H5 r5 k5 => ⟨e3, F5, fps5, hr, rv4.thenR r5, kp4.tr (k5.mono hn)⟩
      | ct => exact fun υ F5 fps5 H5 r5 k5 => ⟨e3, F5, fps5, hr, rv4.thenR r5, kp4.tr (k5.mono hn)⟩
      | bk =>
        simp only at hr
        cases hr
        exact fun υ F5 fps5 H5 r5 k5 => endN rfl (rv4.thenR r5) (kp4.tr (k5.mono hn))
      | rt t =>
        simp only at hr
        cases hr
        exact fun υ v F5 fps5 H5 fp r5 k5 => endR rfl (rv4.thenR r5) (kp4.tr (k5.mono hn))
    · rintro σ H2 ⟨ei, Fi, fpi, hloop, rv, kp⟩
      rw [List.drop_length] at hloop
      simp only [forI] at hloop
      cases hloop
      exact endN rfl rv kp
  · cases h2

/-! ### x += e -/
theorem p_aug (hN : X.N.Nodup) (hi : X.N[i]? = some nm) (hx : Loc X.env.scope nm) (hf : X.fn nm = true ∨ X.env.scope.names.lookup nm = some .local) (ha : PEp Φ X a x) {op : Operator} : PSp Φ X (.aug i op a) (.AugAssign (.Name nm p2) op x pos) := by
  intro env f env' h
  simp only [exS, Option.bind_eq_bind, Option.bind_eq_some_iff] at h
  obtain ⟨t0, h0, ⟨t, e1⟩, h1, h2⟩ := h
  simp only at h2
  split at h2
  · rename_i a1 b1 hg
    cases h2
    refine PS.weak (ps_aug hN hi hx (ha _ _ _ h1) ip_add hf) fun D σ H => ?_
    rintro ⟨F, fps, s, q⟩
    obtain ⟨v, hv, _⟩ := s.slot i t0 (getv_some h0)
    refine ⟨v, hv, F, fps, s, fun w F1 fps1 H1 fp1 r1 => ?_⟩
    obtain ⟨v', hv', tr⟩ := r1.sk.slot i _ (getv_some hg)
    rw [hv] at hv'
    cases hv'
    have hl : i < e1.length := by
      rcases Nat.lt_or_ge i e1.length with h | h
      · exact h
      · have := getv_some hg
        rw [List.getElem?_eq_none h] at this
        cases this
    refine ⟨a1, b1, tr.int, r1.rs.one_inv.int, ?_⟩
    obtain ⟨r2, k2⟩ := asg_fin (r1.dat (.int (a1 + b1))) hl
    exact q _ _ _ _ r2 k2
  · rename_i a1 b1 hg
    cases h2
    refine PS.weak (ps_aug hN hi hx (ha _ _ _ h1) ip_sub hf) fun D σ H => ?_
    rintro ⟨F, fps, s, q⟩
    obtain ⟨v, hv, _⟩ := s.slot i t0 (getv_some h0)
    refine ⟨v, hv, F, fps, s, fun w F1 fps1 H1 fp1 r1 => ?_⟩
    obtain ⟨v', hv', tr⟩ := r1.sk.slot i _ (getv_some hg)
    rw [hv] at hv'
    cases hv'
    have hl : i < e1.length := by
      rcases Nat.lt_or_ge i e1.length with h | h
      · exact h
      · have := getv_some hg
        rw [List.getElem?_eq_none h] at this
        cases this
    refine ⟨a1, b1, tr.int, r1.rs.one_inv.int, ?_⟩
    obtain ⟨r2, k2⟩ := asg_fin (r1.dat (.int (a1 - b1))) hl
    exact q _ _ _ _ r2 k2
  · cases h2

/-! ### x[k].append(e) -/
theorem RVs.push1 {K : Frg} {σ : L2.St} {env : SEnv} {F F1 H H1 : Hp} {fps fps1 : Fps} {fp : List Addr} {l b : Addr} {vs : List V} {y : V} {ts us : List AV} {t : AV} {j : Nat} (a : RVs K σ env [.val (.own ts), .val t] F fps H [.ref l, y] F1 fps1 H1 fp) (hl : H1 l = some (.lst vs)) (hj : ts[j]? = some (.own us)) (hb : vs[j]? = some (.ref b)) :
    ∃ ws fq, H1 b = some (.lst ws) ∧ ws.length = us.length ∧ RVs K σ env [.val (.own (ts.set j (.own (us ++ [t]))))] F fps H [.ref l] F1 fps1 (upd H1 b (.lst (ws ++ [y]))) fq := by
  obtain ⟨sk, rs, nd, ap, st⟩ := a
  cases rs with
  | val h hs =>
    rename_i fa fb
    have hy := hs.one_inv
    obtain ⟨l', vs', f, e1, rfl, h1, h2⟩ := h.own_inv
    cases e1
    rw [hl] at h1
    cases h1
    obtain ⟨y', f1, f2, f3, g0, rfl, g1, g2, g3⟩ := h2.cut hj
    rw [hb] at g0
    cases g0
    obtain ⟨b', ws, g, e2, rfl, k1, k2⟩ := g2.own_inv
    cases e2
    have ndl := (List.nodup_append.mp nd).1
    have ndb := (List.nodup_append.mp nd).2.1
    have djb : ∀ x ∈ l :: (f1 ++ (b :: g ++ f3)), x ∉ fb := fun x hx hy => (List.nodup_append.mp nd).2.2 x hx x hy rfl
    have nl := (List.nodup_cons.mp ndl).1
    have nd123 := (List.nodup_cons.mp ndl).2
    have nd1 := (List.nodup_append.mp nd123).1
    have nd23 := (List.nodup_append.mp nd123).2.1
    have dj1 : ∀ x ∈ f1, x ∉ b :: g ++ f3 := fun x hx hy => (List.nodup_append.mp nd123).2.2 x hx x hy rfl
    have ndbg := (List.nodup_append.mp nd23).1
    have nd3 := (List.nodup_append.mp nd23).2.1
    have dj23 : ∀ x ∈ b :: g, x ∉ f3 := fun x hx hy => (List.nodup_append.mp nd23).2.2 x hx x hy rfl
    have mb : b ∈ b :: g ++ f3 := List.mem_append_left _ List.mem_cons_self
    have mbl : b ∈ l :: (f1 ++ (b :: g ++ f3)) := List.mem_cons_of_mem _ (List.mem_append_right _ mb)
    have nb1 : b ∉ f1 := fun z => dj1 b z mb
    have nbg : b ∉ g := (List.nodup_cons.mp ndbg).1
    have nb3 : b ∉ f3 := dj23 b List.mem_cons_self
    have nbb : b ∉ fb := djb b mbl
    have nlb : l ≠ b := fun z => nl (by rw [z]; exact List.mem_append_right _ mb)
    have hjl : j < ts.length := by
      rcases Nat.lt_or_ge j ts.length with h | h
      · exact h
      · rw [List.getElem?_eq_none h] at hj
        cases hj
    have evs : vs = vs.take j ++ .ref b :: vs.drop (j + 1) := by
      have hjv : j < vs.length := by rw [h2.length]; exact hjl
      have q : vs[j] = .ref b := by
        rw [List.getElem?_eq_getElem hjv] at hb
        exact Option.some.inj hb
      rw [← q, List.getElem_cons_drop, List.take_append_drop]
    have ets : ts.set j (.own (us ++ [t])) = ts.take j ++ .own (us ++ [t]) :: ts.drop (j + 1) := List.set_eq_take_append_cons_drop .. |>.trans (if_pos hjl)
    have keep : ∀ x u, H1 x = some u → x ≠ b → upd H1 b (.lst (ws ++ [y])) x = some u := fun x u e n => by
      rw [upd_ne n]
      exact e
    have inn : ∀ x, x ∈ l :: (f1 ++ (b :: (g ++ fb) ++ f3)) → x ∈ (l :: (f1 ++ (b :: g ++ f3))) ++ fb := fun x m => by
      simp only [List.mem_cons, List.mem_append] at m ⊢
      rcases m with m | m | (m | m | m) | m <;> simp [m]
    have wb : ¬ ownd fps1 b := (ap b (List.mem_append_left _ mbl)).2
    refine ⟨ws, l :: (f1 ++ (b :: (g ++ fb) ++ f3)), k1, k2.length, ?_, .one (.own (vs := vs) (keep l _ hl nlb) ?_), ?_, fun x m => ap x (inn x m), ?_⟩
    · refine ⟨fun i u e => ?_, sk.nd, sk.dis, sk.free, fun i x m => ?_, fun x u e => ?_, sk.len⟩
      · obtain ⟨v, q1, q2⟩ := sk.slot i u e
        exact ⟨v, q1, q2.mono (Ext.refl _) fun x m o e => keep x o e fun z => wb ⟨i, by rw [← z]; exact m⟩⟩
      · obtain ⟨o, e⟩ := sk.there i x m
        exact ⟨o, keep x o e fun z => wb ⟨i, by rw [← z]; exact m⟩⟩
      · have nx : x ≠ b := fun z => by
          have f0 := (ap b (List.mem_append_left _ mbl)).1
          rw [z] at e
          rcases e with e | ⟨ob, e⟩ <;> rw [f0] at e <;> cases e
        rcases sk.sub x u e with q | ⟨ob, q⟩
        · exact .inl (keep x _ q nx)
        · exact .inr ⟨ob, keep x _ q nx⟩
    · rw [ets]
      have new : TR K F1 (upd H1 b (.lst (ws ++ [y]))) (.ref b) (.own (us ++ [t])) (b :: (g ++ fb)) := .own upd_same ((k2.append (.one hy)).off fun m => (List.mem_append.mp m).elim nbg nbb)
      have q := (g1.off (o := .lst (ws ++ [y])) nb1).append (.cons new (g3.off nb3))
      rw [← evs] at q
      exact q
    · have p : (l :: (f1 ++ (b :: (g ++ fb) ++ f3))).Perm ((l :: (f1 ++ (b :: g ++ f3))) ++ fb) := by
        have q : (l :: (f1 ++ (b :: (g ++ (fb ++ f3))))).Perm (l :: (f1 ++ (b :: (g ++ (f3 ++ fb))))) := .cons l (.append_left f1 (.cons b (.append_left g List.perm_append_comm)))
        simpa [List.append_assoc] using q
      exact p.nodup_iff.mpr nd
    · refine ⟨st.f, fun x u e n => ?_, st.n, fun x m => st.w x (m.elim .inl fun m => .inr (inn x m))⟩
      have nx : x ≠ b := fun z => by
        rcases st.w b (.inr (List.mem_append_left _ mbl)) with w | w
        · exact n (by rw [z]; exact w)
        · rw [z, w] at e
          cases e
      exact keep x u (st.k x u e n) nx
theorem p_app1 (O : Opx X) (hN : X.N[i]? = some nm) (hv : Vis X.env.scope nm) (hd : (nm == ("__debug__" : Str)) = false) (hc : (nm == ("__classdict__" : Str)) = false) (hl : (apos.endLine == cpos.line) = true) (hk : PEp Φ X b y) (hy : PlainIx y) (ha : PEp Φ X a x)
    (hs : starEach [x] X.env = [(false, eval x X.env)]) : PSp Φ X (.app1 i b a) (.Expr (.Call (.Attribute (.Subscript (.Name nm np) y p2) "append" apos) [x] [] cpos) pos) := by
  intro env f env' h
  simp only [exS, Option.bind_eq_bind, Option.bind_eq_some_iff] at h
  obtain ⟨t0, h0, ⟨u, e1⟩, h1, h2⟩ := h
  simp only at h2
  split at h2
  · rename_i z ts ht
    split at h2
    · rename_i j hj
      split at hj
      · split at h2
        · rename_i us hus
          split at h2
          · rename_i hf
            obtain ⟨⟨t, e2⟩, h3, h4⟩ := Option.bind_eq_some_iff.mp h2
            have h4' : some (Fl.nx, e2.set i (some (.own (ts.set j (.own (us ++ [t])))))) = some (f, env') := h4
            cases h4'
            have pm : MtR X "list.append" rAppend := mt_append
            refine PS.weak (ps_expr (pe_bm PySem.F.plainAttrs_list PySem.F.slot_list_append PySem.F.type_list_append pm (pe_ix ix_list (pe_var hN hv hd hc) (hk _ _ _ h1) hy) (pa_cons (ha _ _ _ h3) pa_nil hs) rfl (by rw [hs]; rfl) hl hs rfl) rfl) fun D σ H => ?_
            rintro ⟨F, fps, s, q⟩
            obtain ⟨v, hv1, _⟩ := s.slot i t0 (getv_some h0)
            refine ⟨v, hv1, F, fps, s, fun w F1 fps1 H1 fp1 r1 => ?_⟩
            obtain ⟨l, vs, f, g1, g2, g3, g4, g5, g6⟩ := r1.sk.list ht
            rw [hv1] at g1
            cases g1
            obtain ⟨yv, fi, hyv, tyv⟩ := g4.get hus
            obtain ⟨bb, ws, fc, e5, _, k1, k2⟩ := tyv.own_inv
            subst e5
            have hw := r1.rs.one_inv
            have hw' : TR X.K F1 H1 w (.d (.int z)) fp1 := hw
            refine ⟨l, vs, z, .ref bb, rfl, hw'.int, .of g3, ?_, .inl ⟨rfl, _, .of k1⟩, ?_⟩
            · unfold L2.atI
              rw [g4.length, hj]
              exact hyv
            obtain ⟨v', c1, c2, c3, c4, c5, c6⟩ := r1.sk.take ht
            rw [hv1] at c1
            cases c1
            have R0 : RVs X.K σ (e1.set i none) [.val (.own ts)] F fps H [.ref l] F1 (fpsU fps1 i []) H1 (fps1 i) := ⟨c3, .one c2, c4, c5, (r1.drop.st.weak fun _ h => .inl h).trans (Step.same fun a m => m.elim (fun z => (ownd_put z).elim id fun z => nomatch z) fun z => ⟨i, z⟩)⟩
            refine ⟨F1, _, c3, fun y2 F2 fps2 H2 fp2 r2 => ?_⟩
            have rv := R0.seq r2
            have hl2 : H2 l = some (.lst vs) := r2.st.k _ _ g3 (c5 l (by rw [g2]; exact List.mem_cons_self)).2
            obtain ⟨ws2, fq, d1, d2, d3⟩ := rv.push1 hl2 hus hyv
            have hle := fitL_le hf
            refine ⟨bb, ws2, y2, rfl, rfl, d1, by omega, ?_⟩
            refine q _ _ _ _ (⟨d3.sk.put hv1 d3.rs.one_inv d3.nd d3.ap, .nil, List.nodup_nil, fun _ m => (nomatch m), d3.st.weak fun a m => ?_⟩ : RVs X.K σ (e2.set i (some (.own (ts.set j (.own (us ++ [t])))))) [] F fps H [] F2 (fpsU fps2 i fq) (upd H2 bb (.lst (ws2 ++ [y2]))) []) Keep.refl
            exact m.elim ownd_put fun m => nomatch m
          · cases h2
        · cases h2
      · cases hj
    · cases h2
  · cases h2

/-! ### a, b, c = x, y, z -/
theorem RVs.tailOf3 {K : Frg} {F F' H H' : Hp} {fps fps' : Fps} {σ : L2.St} {env : SEnv} {t u r : AV} {v w q : V} {fp : List Addr} (rv : RVs K σ env [.val t, .val u, .val r] F fps H [v, w, q] F' fps' H' fp) (hi : i < env.length) (hj : j < env.length) (hk : k < env.length) :
    ∃ fps2, RVs K (((σ.set i (some v)).set j (some w)).set k (some q)) (((env.set i (some t)).set j (some u)).set k (some r)) [] F fps H [] F' fps2 H' [] := by
  obtain ⟨sk, rs, nd, ap, st⟩ := rv
  cases rs with
  | val h1 h23 =>
    rename_i fa fbc
    cases h23 with
    | val h2 h3 =>
      rename_i fb fc
      have h3 := h3.one_inv
      have nd1 := (List.nodup_append.mp nd).1
      have nd23 := (List.nodup_append.mp nd).2.1
      have nd2 := (List.nodup_append.mp nd23).1
      have nd3 := (List.nodup_append.mp nd23).2.1
      have d1 : ∀ x ∈ fa, x ∉ fb ++ fc := fun x hx hy => (List.nodup_append.mp nd).2.2 x hx x hy rfl
      have d2 : ∀ x ∈ fb, x ∉ fc := fun x hx hy => (List.nodup_append.mp nd23).2.2 x hx x hy rfl
      have s1 := sk.store hi h1 nd1 fun x m => ap x (List.mem_append_left _ m)
      have s2 := s1.store (i := j) (by rw [List.length_set]; exact hj) h2 nd2 fun x m => ⟨(ap x (List.mem_append_right _ (List.mem_append_left _ m))).1, fun z => by
        rcases ownd_put z with z | z
        · exact (ap x (List.mem_append_right _ (List.mem_append_left _ m))).2 z
        · exact d1 x z (List.mem_append_left _ m)⟩
      have s3 := s2.store (i := k) (by rw [List.length_set, List.length_set]; exact hk) h3 nd3 fun x m => ⟨(ap x (List.mem_append_right _ (List.mem_append_right _ m))).1, fun z => by
        rcases ownd_put z with z | z
        · rcases ownd_put z with z | z
          · exact (ap x (List.mem_append_right _ (List.mem_append_right _ m))).2 z
          · exact d1 x z (List.mem_append_right _ m)
        · exact d2 x z m⟩
      refine ⟨_, s3, .nil, List.nodup_nil, fun _ m => (nomatch m), st.weak fun a m => ?_⟩
      rcases m with m | m
      · rcases ownd_put m with m | m
        · rcases ownd_put m with m | m
          · rcases ownd_put m with m | m
            · exact .inl m
            · exact .inr (List.mem_append_left _ m)
          · exact .inr (List.mem_append_right _ (List.mem_append_left _ m))
        · exact .inr (List.mem_append_right _ (List.mem_append_right _ m))
      · cases m
theorem p_par3 (O : Opx X) {px py pz pt pt2 : Pos} {kt k2 : Nat} (hN : X.N.Nodup) (hi : X.N[i]? = some nm) (hj : X.N[j]? = some nm2) (hk : X.N[k]? = some nm3) (hx : X.env.scope.names.lookup nm = some .local) (hy : X.env.scope.names.lookup nm2 = some .local) (hz : X.env.scope.names.lookup nm3 = some .local)
    (ha : PEp Φ X a x) (hb : PEp Φ X b y) (hc : PEp Φ X c z)
    (hs1 : starEach [x, y, z] X.env = (false, eval x X.env) :: starEach [y, z] X.env) (hs2 : starEach [y, z] X.env = (false, eval y X.env) :: starEach [z] X.env) (hs3 : starEach [z] X.env = (false, eval z X.env) :: starEach [] X.env)
    (hw : swappedStores [.Tuple [.Name nm px, .Name nm2 py, .Name nm3 pz] kt pt] (.Tuple [x, y, z] k2 pt2) X.env = pure (some [nm, nm2, nm3]))
    (hs : swapsWithSole [.Tuple [.Name nm px, .Name nm2 py, .Name nm3 pz] kt pt] (.Tuple [x, y, z] k2 pt2) pos.line X.env = pure false) :
    PSp Φ X (.par3 i j k a b c) (.Assign [.Tuple [.Name nm px, .Name nm2 py, .Name nm3 pz] kt pt] (.Tuple [x, y, z] k2 pt2) pos) := by
  intro env f env' h
  simp only [exS, Option.bind_eq_bind, Option.bind_eq_some_iff] at h
  obtain ⟨⟨t, e1⟩, h1, ⟨u, e2⟩, h2, ⟨r, e3⟩, h3, h4⟩ := h
  simp only at h4
  split at h4
  · rename_i hl
    obtain ⟨l1, l2, l3, l4, l5, l6⟩ := hl
    cases h4
    refine PS.weak (ps_par3 O.calm hN hi hj hk l4 l5 l6 hx hy hz (pa_cons (ha _ _ _ h1) (pa_cons (hb _ _ _ h2) (pa_cons (hc _ _ _ h3) pa_nil hs3) hs2) hs1) hw hs) fun D σ H => ?_
    rintro ⟨F, fps, s, q⟩
    refine ⟨F, fps, s, fun v F1 fps1 H1 fp1 r1 => ⟨F1, fps1, r1.sk, fun w F2 fps2 H2 fp2 r2 => ⟨F2, fps2, r2.sk, fun w3 F3 fps3 H3 fp3 r3 => ⟨v, w, w3, rfl, ?_⟩⟩⟩⟩
    obtain ⟨fps4, r4⟩ := ((r1.seq r2).seq r3).tailOf3 l1 l2 l3
    refine q _ _ _ _ r4 fun l hl => ?_
    have n1 : i ≠ l := fun z => hl (by rw [← z]; exact List.mem_cons_self)
    have n2 : j ≠ l := fun z => hl (by rw [← z]; exact List.mem_cons_of_mem _ List.mem_cons_self)
    have n3 : k ≠ l := fun z => hl (by rw [← z]; exact List.mem_cons_of_mem _ (List.mem_cons_of_mem _ List.mem_cons_self))
    rw [List.getElem?_set_ne n3, List.getElem?_set_ne n2, List.getElem?_set_ne n1]
  · cases h4
end
end Mi
/-! The text against the small syntax: shapes, side conditions. -/
namespace Mi
open PySem L2 PyProof.Rows

/-! ### shapes of expressions -/
def hName (e : Expr) (k : Str → Bool) : Bool := match e with
  | .Name nm _ => k nm
  | _ => false
theorem hName_ok {e : Expr} {k : Str → Bool} (h : hName e k = true) : ∃ nm p, e = .Name nm p ∧ k nm = true := by
  unfold hName at h
  split at h
  · exact ⟨_, _, rfl, h⟩
  · cases h
def hConst (e : Expr) (k : Const → Bool) : Bool := match e with
  | .Constant c _ _ => k c
  | _ => false
theorem hConst_ok {e : Expr} {k : Const → Bool} (h : hConst e k = true) : ∃ c j p, e = .Constant c j p ∧ k c = true := by
  unfold hConst at h
  split at h
  · exact ⟨_, _, _, rfl, h⟩
  · cases h
def hBin (e : Expr) (k : Expr → Operator → Expr → Bool) : Bool := match e with
  | .BinOp x op y _ => k x op y
  | _ => false
theorem hBin_ok {e : Expr} {k : Expr → Operator → Expr → Bool} (h : hBin e k = true) : ∃ x op y p, e = .BinOp x op y p ∧ k x op y = true := by
  unfold hBin at h
  split at h
  · exact ⟨_, _, _, _, rfl, h⟩
  · cases h
def hNeg (e : Expr) (k : Expr → Bool) : Bool := match e with
  | .UnaryOp .USub x _ => k x
  | _ => false
theorem hNeg_ok {e : Expr} {k : Expr → Bool} (h : hNeg e k = true) : ∃ x p, e = .UnaryOp .USub x p ∧ k x = true := by
  unfold hNeg at h
  split at h
  · exact ⟨_, _, rfl, h⟩
  · cases h
def hNot (e : Expr) (k : Expr → Bool) : Bool := match e with
  | .UnaryOp .Not x _ => k x
  | _ => false
theorem hNot_ok {e : Expr} {k : Expr → Bool} (h : hNot e k = true) : ∃ x p, e = .UnaryOp .Not x p ∧ k x = true := by
  unfold hNot at h
  split at h
  · exact ⟨_, _, rfl, h⟩
  · cases h
def hCmp (e : Expr) (k : Expr → CmpOp → Expr → Bool) : Bool := match e with
  | .Compare x [op] [y] _ => k x op y
  | _ => false
theorem hCmp_ok {e : Expr} {k : Expr → CmpOp → Expr → Bool} (h : hCmp e k = true) : ∃ x op y p, e = .Compare x [op] [y] p ∧ k x op y = true := by
  unfold hCmp at h
  split at h
  · exact ⟨_, _, _, _, rfl, h⟩
  · cases h
def hCmp2 (e : Expr) (k : Expr → CmpOp → CmpOp → Expr → Expr → Bool) : Bool := match e with
  | .Compare x [o1, o2] [y, z] _ => k x o1 o2 y z
  | _ => false
theorem hCmp2_ok {e : Expr} {k : Expr → CmpOp → CmpOp → Expr → Expr → Bool} (h : hCmp2 e k = true) : ∃ x o1 o2 y z p, e = .Compare x [o1, o2] [y, z] p ∧ k x o1 o2 y z = true := by
  unfold hCmp2 at h
  split at h
  · exact ⟨_, _, _, _, _, _, rfl, h⟩
  · cases h
/-- the first of a row of tests, what is behind it -/
def hAnd (e : Expr) (k : Expr → Expr → Bool) (g : Expr → Expr → Bool) : Bool := match e with
  | .BoolOp .And [x, y] _ => k x y
  | .BoolOp .And (x :: y :: z :: r) p => g x (.BoolOp .And (y :: z :: r) p)
  | _ => false
theorem hAnd_ok {e : Expr} {k g : Expr → Expr → Bool} (h : hAnd e k g = true) : (∃ x y p, e = .BoolOp .And [x, y] p ∧ k x y = true) ∨ ∃ x y z r p, e = .BoolOp .And (x :: y :: z :: r) p ∧ g x (.BoolOp .And (y :: z :: r) p) = true := by
  unfold hAnd at h
  split at h
  · exact .inl ⟨_, _, _, rfl, h⟩
  · exact .inr ⟨_, _, _, _, _, rfl, h⟩
  · cases h
def hOr (e : Expr) (k : Expr → Expr → Bool) (g : Expr → Expr → Bool) : Bool := match e with
  | .BoolOp .Or [x, y] _ => k x y
  | .BoolOp .Or (x :: y :: z :: r) p => g x (.BoolOp .Or (y :: z :: r) p)
  | _ => false
theorem hOr_ok {e : Expr} {k g : Expr → Expr → Bool} (h : hOr e k g = true) : (∃ x y p, e = .BoolOp .Or [x, y] p ∧ k x y = true) ∨ ∃ x y z r p, e = .BoolOp .Or (x :: y :: z :: r) p ∧ g x (.BoolOp .Or (y :: z :: r) p) = true := by
  unfold hOr at h
  split at h
  · exact .inl ⟨_, _, _, rfl, h⟩
  · exact .inr ⟨_, _, _, _, _, rfl, h⟩
  · cases h
def hIf (e : Expr) (k : Expr → Expr → Expr → Bool) : Bool := match e with
  | .IfExp c a b _ => k c a b
  | _ => false
theorem hIf_ok {e : Expr} {k : Expr → Expr → Expr → Bool} (h : hIf e k = true) : ∃ c a b p, e = .IfExp c a b p ∧ k c a b = true := by
  unfold hIf at h
  split at h
  · exact ⟨_, _, _, _, rfl, h⟩
  · cases h
def hTup (e : Expr) (k : List Expr → Bool) : Bool := match e with
  | .Tuple es _ _ => k es
  | _ => false
theorem hTup_ok {e : Expr} {k : List Expr → Bool} (h : hTup e k = true) : ∃ es j p, e = .Tuple es j p ∧ k es = true := by
  unfold hTup at h
  split at h
  · exact ⟨_, _, _, rfl, h⟩
  · cases h
def hLst (e : Expr) (k : List Expr → Bool) : Bool := match e with
  | .List es _ => k es
  | _ => false
theorem hLst_ok {e : Expr} {k : List Expr → Bool} (h : hLst e k = true) : ∃ es p, e = .List es p ∧ k es = true := by
  unfold hLst at h
  split at h
  · exact ⟨_, _, rfl, h⟩
  · cases h
def hDict0 (e : Expr) : Bool := match e with
  | .Dict [] [] _ => true
  | _ => false
theorem hDict0_ok {e : Expr} (h : hDict0 e = true) : ∃ p, e = .Dict [] [] p := by
  unfold hDict0 at h
  split at h
  · exact ⟨_, rfl⟩
  · cases h
def notSlice (e : Expr) : Bool := match e with
  | .Slice _ _ _ _ => false
  | _ => true
theorem notSlice_ix {e : Expr} (h : notSlice e = true) : PlainIx e := by
  intro o i
  cases e <;> first | rfl | cases h
def hSub (e : Expr) (k : Expr → Expr → Bool) : Bool := match e with
  | .Subscript x y _ => notSlice y && k x y
  | _ => false
theorem hSub_ok {e : Expr} {k : Expr → Expr → Bool} (h : hSub e k = true) : ∃ x y p, e = .Subscript x y p ∧ notSlice y = true ∧ k x y = true := by
  unfold hSub at h
  split at h
  · obtain ⟨h1, h2⟩ := (Bool.and_eq_true _ _).mp h
    exact ⟨_, _, _, rfl, h1, h2⟩
  · cases h
def hSlc (e : Expr) (k : Expr → Option Expr → Option Expr → Bool) : Bool := match e with
  | .Subscript x (.Slice l u none _) _ => k x l u
  | _ => false
theorem hSlc_ok {e : Expr} {k : Expr → Option Expr → Option Expr → Bool} (h : hSlc e k = true) : ∃ x l u p2 p, e = .Subscript x (.Slice l u none p2) p ∧ k x l u = true := by
  unfold hSlc at h
  split at h
  · exact ⟨_, _, _, _, _, rfl, h⟩
  · cases h
/-- f(..) -/
def hCall (e : Expr) (k : Str → List Expr → Bool) : Bool := match e with
  | .Call (.Name nm _) es [] _ => k nm es
  | _ => false
theorem hCall_ok {e : Expr} {k : Str → List Expr → Bool} (h : hCall e k = true) : ∃ nm np es p, e = .Call (.Name nm np) es [] p ∧ k nm es = true := by
  unfold hCall at h
  split at h
  · exact ⟨_, _, _, _, rfl, h⟩
  · cases h
def hCallK (e : Expr) (k : Str → List Keyword → Bool) : Bool := match e with
  | .Call (.Name nm _) [] kws _ => k nm kws
  | _ => false
theorem hCallK_ok {e : Expr} {k : Str → List Keyword → Bool} (h : hCallK e k = true) : ∃ nm np kws p, e = .Call (.Name nm np) [] kws p ∧ k nm kws = true := by
  unfold hCallK at h
  split at h
  · exact ⟨_, _, _, _, rfl, h⟩
  · cases h
/-- o.m(..) -/
def hMeth (e : Expr) (k : Expr → Str → List Expr → Bool) : Bool := match e with
  | .Call (.Attribute o m ap) es [] cp => (ap.endLine == cp.line) && k o m es
  | _ => false
theorem hMeth_ok {e : Expr} {k : Expr → Str → List Expr → Bool} (h : hMeth e k = true) : ∃ o m ap es cp, e = .Call (.Attribute o m ap) es [] cp ∧ (ap.endLine == cp.line) = true ∧ k o m es = true := by
  unfold hMeth at h
  split at h
  · obtain ⟨h1, h2⟩ := (Bool.and_eq_true _ _).mp h
    exact ⟨_, _, _, _, _, rfl, h1, h2⟩
  · cases h
def hLc (e : Expr) (k : Expr → Expr → Expr → List Expr → Scope → Bool) : Bool := match e with
  | .ListComp elt [⟨tg, it, ifs, 0⟩] scope _ => k elt tg it ifs scope
  | _ => false
theorem hLc_ok {e : Expr} {k : Expr → Expr → Expr → List Expr → Scope → Bool} (h : hLc e k = true) : ∃ elt tg it ifs scope p, e = .ListComp elt [⟨tg, it, ifs, 0⟩] scope p ∧ k elt tg it ifs scope = true := by
  unfold hLc at h
  split at h
  · exact ⟨_, _, _, _, _, _, rfl, h⟩
  · cases h
def hLc2 (e : Expr) (k : Expr → Expr → Expr → List Expr → Expr → Expr → List Expr → Scope → Bool) : Bool := match e with
  | .ListComp elt [⟨tg, it, ifs, 0⟩, ⟨tg1, it1, ifs1, 0⟩] scope _ => k elt tg it ifs tg1 it1 ifs1 scope
  | _ => false
theorem hLc2_ok {e : Expr} {k : Expr → Expr → Expr → List Expr → Expr → Expr → List Expr → Scope → Bool} (h : hLc2 e k = true) : ∃ elt tg it ifs tg1 it1 ifs1 scope p, e = .ListComp elt [⟨tg, it, ifs, 0⟩, ⟨tg1, it1, ifs1, 0⟩] scope p ∧ k elt tg it ifs tg1 it1 ifs1 scope = true := by
  unfold hLc2 at h
  split at h
  · exact ⟨_, _, _, _, _, _, _, _, _, rfl, h⟩
  · cases h
def hDc (e : Expr) (k : Expr → Expr → Expr → Expr → List Expr → Scope → Bool) : Bool := match e with
  | .DictComp kx vx [⟨tg, it, ifs, 0⟩] scope _ => k kx vx tg it ifs scope
  | _ => false
theorem hDc_ok {e : Expr} {k : Expr → Expr → Expr → Expr → List Expr → Scope → Bool} (h : hDc e k = true) : ∃ kx vx tg it ifs scope p, e = .DictComp kx vx [⟨tg, it, ifs, 0⟩] scope p ∧ k kx vx tg it ifs scope = true := by
  unfold hDc at h
  split at h
  · exact ⟨_, _, _, _, _, _, _, rfl, h⟩
  · cases h

/-! ### side conditions -/
def noStar (e : Expr) : Bool := match e with
  | .Starred _ _ => false
  | _ => true
theorem star_cons {e : Expr} (h : noStar e = true) (es : List Expr) (env : Env) : starEach (e :: es) env = (false, eval e env) :: starEach es env := by
  cases e <;> first | rfl | cases h
theorem star_nil (env : Env) : starEach [] env = [] := rfl
theorem star_one {e : Expr} (h : noStar e = true) (env : Env) : starEach [e] env = [(false, eval e env)] := star_cons h [] env
theorem star_two {e f : Expr} (h : noStar e = true) (g : noStar f = true) (env : Env) : starEach [e, f] env = [(false, eval e env), (false, eval f env)] := by rw [star_cons h, star_one g]
theorem star_any : ∀ {es : List Expr} (pos : Pos) (env : Env), es.all noStar = true → (backTo pos (starEach es env)).any (·.1) = false
  | [], _, _, _ => rfl
  | e :: es, pos, env, h => by
    obtain ⟨h1, h2⟩ : noStar e = true ∧ es.all noStar = true := by simpa using h
    rw [star_cons h1]
    show (false || (backTo pos (starEach es env)).any (·.1)) = false
    rw [star_any pos env h2]
    rfl
theorem asg_cons {e : Expr} (h : noStar e = true) (es : List Expr) (env : Env) : (assignEach (e :: es) env).map (·.2) = assign e env :: (assignEach es env).map (·.2) := by
  cases e <;> first | rfl | cases h
theorem asg_len : ∀ {es : List Expr} (env : Env), es.all noStar = true → (assignEach es env).length = es.length ∧ (assignEach es env).findIdx? (·.1) = none
  | [], _, _ => ⟨rfl, rfl⟩
  | e :: es, env, h => by
    obtain ⟨h1, h2⟩ : noStar e = true ∧ es.all noStar = true := by simpa using h
    obtain ⟨h3, h4⟩ := asg_len env h2
    have e1 : assignEach (e :: es) env = (false, assign e env) :: assignEach es env := by cases e <;> first | rfl | cases h1
    rw [e1]
    refine ⟨by rw [List.length_cons, List.length_cons, h3], ?_⟩
    rw [List.findIdx?_cons]
    simp only [h4]
    rfl
def isNameSubCall (e : Expr) : Bool := match e with
  | .Name _ _ => true
  | .Subscript _ _ _ => true
  | .Call _ _ _ _ => true
  | _ => false
theorem truthy_of {X : Cx} {e : Expr} (h : isNameSubCall e = true) : Truthy X e := by
  intro whole
  cases e <;> first | rfl | cases h
def notSet (e : Expr) : Bool := match e with
  | .Set _ _ _ => false
  | _ => true
theorem folded_of {e : Expr} (h : notSet e = true) (env : Env) : ∀ x, foldedSetIterable e env x = pure x := by
  intro x
  cases e <;> first | rfl | cases h
theorem base_of {o : Expr} {m : Str} (h : (match o with
    | .Call _ _ _ _ => false
    | _ => true) = true) (env : Env) : attributeBase o m env (eval o env) = eval o env := by
  cases o <;> first | rfl | cases h
def notComp (e : Expr) : Bool := match e with
  | .ListComp _ _ _ _ => false
  | .SetComp _ _ _ _ => false
  | .DictComp _ _ _ _ _ => false
  | _ => true
theorem sw_plain {e : Expr} (h : notComp e = true) (t : Option Expr) (l : Nat) (env : Env) : swapsWith e t l env = pure false := by
  cases e <;> first | rfl | cases h
theorem sw_other {e t : Expr} (h : (match t with
    | .Name _ _ => false
    | _ => true) = true) (l : Nat) (env : Env) : swapsWith e (some t) l env = pure false := by
  cases e <;> first | rfl | (cases t <;> first | rfl | cases h)
theorem stores_none {t e : Expr} (h : (match t, e with
    | .Tuple _ _ _, .Tuple _ _ _ => false
    | .List _ _, .Tuple _ _ _ => false
    | _, _ => true) = true) (env : Env) : swappedStores [t] e env = pure none := by
  cases t <;> first | rfl | (cases e <;> first | rfl | cases h)
/-- by which names a row of stores goes from the right; none: the model does not say -/
def swC (sc : Scope) (ts vs : List Expr) : Option (Option (List Str)) :=
  if (!(ts.length == 2 || ts.length == 3) || vs.length != ts.length) = true then some none
  else if (vs.any fun | .Starred .. => true | _ => false) = true then some none
  else
    let line := (ts.head?.map (·.pos.line)).getD 0
    let names := ts.filterMap fun
      | .Name id pos => if (sc.names.lookup id == some .local && pos.line == line) = true then some id else none
      | _ => none
    if (names.length != ts.length || names.eraseDups.length != names.length) = true then some none
    else if vs.all (foldedForSure 8) = true then some none
    else if vs.all (constantsAlone 8) = true then none
    else some (some names)
theorem swC_ok {sc : Scope} {ts vs : List Expr} {k1 k2 : Nat} {p1 p2 : Pos} {env : Env} {r : Option (List Str)} (hs : env.scope = sc) (hk : sc.kind = .function) (h : swC sc ts vs = some r) : swappedStores [.Tuple ts k1 p1] (.Tuple vs k2 p2) env = pure r := by
  subst hs
  have hb : (env.blockKind != .function) = false := by
    unfold Env.blockKind
    rw [hk]
    rfl
  unfold swC at h
  unfold swappedStores
  simp only [hb, Bool.or_false]
  split at h
  · rename_i c
    cases h
    simp only [c]
    rfl
  · rename_i c
    simp only [Bool.not_eq_true] at c
    simp only [c]
    refine (if_neg Bool.false_ne_true).trans ?_
    split at h
    · rename_i c2
      cases h
      exact if_pos c2
    · rename_i c2
      refine (if_neg c2).trans ?_
      simp only at h
      split at h
      · rename_i c3
        cases h
        exact if_pos c3
      · rename_i c3
        refine (if_neg c3).trans ?_
        split at h
        · rename_i c4
          cases h
          exact if_pos c4
        · rename_i c4
          refine (if_neg c4).trans ?_
          split at h
          · cases h
          · rename_i c5
            cases h
            exact if_neg c5
end Mi
/-! The check of an expression's text against the small syntax, and what it is worth. -/
namespace Mi
open PySem L2 PyProof.Rows

structure C where
  N : List Str
  sc : Scope
  fn : Str → Bool
  fs : List (Str × List (List Str × List Nat))
  gs : List (Str × PyData)
  bs : List Str
structure CtxOk (Φ : Phi) (c : C) (X : Cx) : Prop where
  N : X.N = c.N
  nd : c.N.Nodup
  sc : X.env.scope = c.sc
  kind : c.sc.kind = .function
  fn : X.fn = c.fn
  op : Opx X
  fs : ∀ (f : Nat) (p : Str × List (List Str × List Nat)), c.fs[f]? = some p → ∃ (D : CallD X) (G : FnS), CallOk X p.1 D G ∧ Φ[f]? = some G ∧ D.kw = p.2
  gs : ∀ p ∈ c.gs, ∃ v u, X.mg p.1 = some u ∧ L2.RelV v u ∧ ∀ K F, Rp K F v p.2
  bs : ∀ nm ∈ c.bs, X.mg nm = none
def C.blk (c : C) (scope : Scope) : C := { c with sc := relS scope c.sc, fn := fun x => scope.names.lookup x == some .cell }

def lkB (sc : Scope) (nm : Str) (ks : List NameKind) : Bool := match sc.names.lookup nm with
  | some k => ks.contains k
  | none => false
def dbg (nm : Str) : Bool := !(nm == ("__debug__" : Str)) && !(nm == ("__classdict__" : Str))
def C.ld (c : C) (i : Nat) (nm : Str) : Bool := decide (c.N[i]? = some nm) && lkB c.sc nm [.local, .cell, .free] && dbg nm
def C.st (c : C) (i : Nat) (nm : Str) : Bool := decide (c.N[i]? = some nm) && lkB c.sc nm [.local, .cell] && (c.fn nm || lkB c.sc nm [.local])
def C.gl (c : C) (nm : Str) : Bool := lkB c.sc nm [.globalImplicit] && dbg nm
def C.bn (c : C) (nm : Str) : Bool := c.gl nm && c.bs.contains nm && !(nm == ("__name__" : Str))
theorem lkB_some {sc : Scope} {nm : Str} {ks : List NameKind} (h : lkB sc nm ks = true) : ∃ k ∈ ks, sc.names.lookup nm = some k := by
  unfold lkB at h
  split at h
  · rename_i k hk
    exact ⟨k, List.contains_iff_mem.mp h, hk⟩
  · cases h
section
variable {Φ : Phi} {c : C} {X : Cx} {i : Nat} {nm : Str}
theorem dbg_ok (h : dbg nm = true) : (nm == ("__debug__" : Str)) = false ∧ (nm == ("__classdict__" : Str)) = false := by
  unfold dbg at h
  simpa using h
theorem ld_ok (K : CtxOk Φ c X) (h : c.ld i nm = true) : X.N[i]? = some nm ∧ Vis X.env.scope nm ∧ (nm == ("__debug__" : Str)) = false ∧ (nm == ("__classdict__" : Str)) = false := by
  unfold C.ld at h
  simp only [Bool.and_eq_true] at h
  obtain ⟨⟨h1, h2⟩, h3⟩ := h
  refine ⟨by rw [K.N]; exact of_decide_eq_true h1, ?_, dbg_ok h3⟩
  rw [K.sc]
  obtain ⟨k, hk, e⟩ := lkB_some h2
  simp only [List.mem_cons, List.mem_nil_iff, or_false] at hk
  rcases hk with rfl | rfl | rfl
  · exact .inl e
  · exact .inr (.inl e)
  · exact .inr (.inr e)
theorem st_ok (K : CtxOk Φ c X) (h : c.st i nm = true) : X.N[i]? = some nm ∧ Loc X.env.scope nm ∧ (X.fn nm = true ∨ X.env.scope.names.lookup nm = some .local) := by
  unfold C.st at h
  simp only [Bool.and_eq_true] at h
  obtain ⟨⟨h1, h2⟩, h3⟩ := h
  refine ⟨by rw [K.N]; exact of_decide_eq_true h1, ?_, ?_⟩
  · rw [K.sc]
    obtain ⟨k, hk, e⟩ := lkB_some h2
    simp only [List.mem_cons, List.mem_nil_iff, or_false] at hk
    rcases hk with rfl | rfl
    · exact .inl e
    · exact .inr e
  · rw [K.sc, K.fn]
    rcases (Bool.or_eq_true _ _).mp h3 with h3 | h3
    · exact .inl h3
    · obtain ⟨k, hk, e⟩ := lkB_some h3
      simp only [List.mem_cons, List.mem_nil_iff, or_false] at hk
      subst hk
      exact .inr e
theorem gl_ok (K : CtxOk Φ c X) (h : c.gl nm = true) : Gl X nm ∧ (nm == ("__debug__" : Str)) = false := by
  unfold C.gl at h
  obtain ⟨h1, h2⟩ := (Bool.and_eq_true _ _).mp h
  obtain ⟨k, hk, e⟩ := lkB_some h1
  simp only [List.mem_cons, List.mem_nil_iff, or_false] at hk
  subst hk
  refine ⟨?_, (dbg_ok h2).1⟩
  unfold Gl Env.kindOf
  rw [K.sc]
  exact e
theorem bn_ok (K : CtxOk Φ c X) (h : c.bn nm = true) : Gl X nm ∧ (nm == ("__debug__" : Str)) = false ∧ X.mg nm = none ∧ nm ≠ "__name__" := by
  unfold C.bn at h
  simp only [Bool.and_eq_true] at h
  obtain ⟨⟨h1, h2⟩, h3⟩ := h
  obtain ⟨g1, g2⟩ := gl_ok K h1
  exact ⟨g1, g2, K.bs nm (List.contains_iff_mem.mp h2), by simpa using h3⟩
end

/-! ### constants -/
def litB (d : PyData) (k : Const) : Bool := match d, k with
  | .int i, .int j => decide (i = j)
  | .str x, .str y => decide (x = y)
  | .bool a, .bool b => a == b
  | .none, .none => true
  | _, _ => false
def dEq (d e : PyData) : Bool := match d, e with
  | .int i, .int j => decide (i = j)
  | .str x, .str y => decide (x = y)
  | _, _ => false
theorem dEq_ok {d e : PyData} (h : dEq d e = true) : d = e := by
  unfold dEq at h
  split at h
  · rw [of_decide_eq_true h]
  · rw [of_decide_eq_true h]
  · cases h
theorem lit_ok {Φ : Phi} {X : Cx} {d : PyData} {k : Const} {j : Nat} {p : Pos} (h : litB d k = true) : PEp Φ X (.lit d) (.Constant k j p) := by
  unfold litB at h
  split at h
  · have := of_decide_eq_true h
    subst this
    exact s_lit pe_int fun K F => .int _
  · have := of_decide_eq_true h
    subst this
    exact s_lit pe_str fun K F => .str _
  · rename_i a b
    have : a = b := by simpa using h
    subst this
    exact s_lit pe_bl fun K F => .bl _
  · exact s_lit pe_non fun K F => .non
  · cases h

/-! ### built-in functions by name -/
def biNm (b : Bi) : Option Str := (biN b).map fun p => Str.ofString p.1
theorem bi_boot {b : Bi} {p : String × Bool} (h : biN b = some p) : bootBuiltins (Str.ofString p.1) = some (biVal p) := by
  cases b <;> first
    | (cases h; done)
    | (have e := (Option.some.inj h).symm
       subst e
       rfl)
/-- classes of isinstance -/
def clsE (c : C) : List PTy → List Expr → Bool
  | [], [] => true
  | p :: ps, .Name tn _ :: es => decide (tn = Str.ofString (tyP p)) && c.bn tn && clsE c ps es
  | _, _ => false
def clsB (c : C) (ts : List PTy) (t : Expr) : Bool := match t with
  | .Name tn _ => (match ts with
    | [p] => decide (tn = Str.ofString (tyP p)) && c.bn tn
    | _ => false)
  | .Tuple es _ _ => decide (ts.length ≤ 100) && clsE c ts es
  | _ => false
theorem ty_boot (p : PTy) : bootBuiltins (Str.ofString (tyP p)) = some (.type (tyP p)) := by
  cases p <;> rfl
section
variable {Φ : Phi} {c : C} {X : Cx}
theorem clsE_ok (K : CtxOk Φ c X) : ∀ {ps : List PTy} {es : List Expr}, clsE c ps es = true → PA X es (fun σ H Q => Q (ps.map fun p => .ty (tyP p)) H)
  | [], [], _ => pa_nil
  | p :: ps, .Name tn tp :: es, h => by
    unfold clsE at h
    simp only [Bool.and_eq_true] at h
    obtain ⟨⟨h1, h2⟩, h3⟩ := h
    obtain ⟨g1, g2, g3, g4⟩ := bn_ok K h2
    have e := of_decide_eq_true h1
    exact pa_cons (pe_bltn g1 g3 (by rw [e]; exact ty_boot p) (RelV.ty _) g4 g2) (clsE_ok K h3) (star_cons rfl _ _)
  | [], _ :: _, h => by cases h
  | p :: ps, [], h => by cases h
  | p :: ps, .BoolOp .. :: _, h | p :: ps, .NamedExpr .. :: _, h | p :: ps, .BinOp .. :: _, h | p :: ps, .UnaryOp .. :: _, h | p :: ps, .Lambda .. :: _, h | p :: ps, .IfExp .. :: _, h | p :: ps, .Dict .. :: _, h | p :: ps, .Set .. :: _, h
  | p :: ps, .ListComp .. :: _, h | p :: ps, .SetComp .. :: _, h | p :: ps, .DictComp .. :: _, h | p :: ps, .GeneratorExp .. :: _, h | p :: ps, .Await .. :: _, h | p :: ps, .Yield .. :: _, h | p :: ps, .YieldFrom .. :: _, h | p :: ps, .Compare .. :: _, h
  | p :: ps, .Call .. :: _, h | p :: ps, .FormattedValue .. :: _, h | p :: ps, .JoinedStr .. :: _, h | p :: ps, .Constant .. :: _, h | p :: ps, .Attribute .. :: _, h | p :: ps, .Subscript .. :: _, h | p :: ps, .Starred .. :: _, h
  | p :: ps, .List .. :: _, h | p :: ps, .Tuple .. :: _, h | p :: ps, .Slice .. :: _, h => by cases h
theorem isi_ok (K : CtxOk Φ c X) {a : E} {ts : List PTy} {x t : Expr} {np pos : Pos} (ha : POp Φ X a x) (hx : noStar x = true) (hn : c.bn "isinstance" = true) (h : clsB c ts t = true) : PEp Φ X (.isi a ts) (.Call (.Name "isinstance" np) [x, t] [] pos) := by
  obtain ⟨g1, g2, g3, g4⟩ := bn_ok K hn
  unfold clsB at h
  split at h
  · split at h
    · obtain ⟨h1, h2⟩ := (Bool.and_eq_true _ _).mp h
      obtain ⟨k1, k2, k3, k4⟩ := bn_ok K h2
      have e := of_decide_eq_true h1
      exact s_isi1 ha g1 g3 k1 k3 (by rw [e]; exact ty_boot _) k4 k2 (star_cons hx _ _) (star_one rfl _)
    · cases h
  · obtain ⟨h1, h2⟩ := (Bool.and_eq_true _ _).mp h
    have hl := of_decide_eq_true h1
    exact s_isiT ha g1 g3 (clsE_ok K h2) (by rw [sizeLine_eq]; omega) (star_cons hx _ _) (star_one rfl _)
  · cases h
end

/-! ### a comprehension's block -/
def blkB (c : C) (scope : Scope) (own : List Nat) : Bool :=
  decide (scope.kind = .function) && (scope.names.all fun y => decide (scope.names.lookup y.1 = some y.2)) && (own.all fun i => (c.N[i]?).isSome) && (scope.names.all fun y => !(decide (y.2 = .free)) || lkB c.sc y.1 [.cell, .free]) &&
    (scope.names.all fun y => !(decide (y.2 = .local) || decide (y.2 = .cell)) || (own.any fun i => decide (c.N[i]? = some y.1)) || !c.N.contains y.1)
def ownN (c : C) (own : List Nat) : List (Str × Nat) := own.map fun i => ((c.N[i]?).getD "", i)
theorem ownN_snd (c : C) (own : List Nat) : (ownN c own).map (·.2) = own := by
  unfold ownN
  rw [List.map_map]
  exact List.map_id _
theorem blk_ok {c : C} {scope : Scope} {own : List Nat} (h : blkB c scope own = true) : BlkOk c.N c.sc scope (ownN c own) := by
  unfold blkB at h
  simp only [Bool.and_eq_true, List.all_eq_true] at h
  obtain ⟨⟨⟨⟨h1, h2⟩, h3⟩, h4⟩, h5⟩ := h
  refine ⟨of_decide_eq_true h1, fun y hy => of_decide_eq_true (h2 y hy), fun p hp => ?_, fun y hy e => ?_, fun y hy e => ?_⟩
  · obtain ⟨i, hi, rfl⟩ := List.mem_map.mp hp
    have := h3 i hi
    cases q : c.N[i]? with
    | none => rw [q] at this; cases this
    | some x => rfl
  · have := h4 y hy
    rw [e] at this
    obtain ⟨k, hk, e2⟩ := lkB_some (by simpa using this)
    simp only [List.mem_cons, List.mem_nil_iff, or_false] at hk
    rcases hk with rfl | rfl
    · exact .inl e2
    · exact .inr e2
  · have := h5 y hy
    simp only [Bool.or_eq_true] at this
    rcases this with (this | this) | this
    · rcases e with e | e <;> rw [e] at this <;> simp at this
    · obtain ⟨i, hi, e2⟩ := List.any_eq_true.mp this
      refine .inl (List.mem_map.mpr ⟨((c.N[i]?).getD "", i), List.mem_map.mpr ⟨i, hi, rfl⟩, ?_⟩)
      rw [of_decide_eq_true e2]
      rfl
    · right
      intro hm
      rw [List.contains_iff_mem.mpr hm] at this
      cases this
theorem CallOk.blk {X Y : Cx} {nm : Str} {D : CallD X} {G : FnS} (h : CallOk X nm D G) (e1 : Y.prog = X.prog) (e2 : Y.w = X.w) (e3 : Y.K = X.K) (e4 : Y.mg = X.mg) (e5 : Y.base = X.base) (e6 : Y.A = X.A) : ∃ D' : CallD Y, CallOk Y nm D' G ∧ D'.kw = D.kw := by
  refine ⟨⟨D.k, D.f, D.fd, D.ps, D.kw⟩, ⟨?_, ?_, ?_, ?_, h.bind, h.kws, h.io⟩, rfl⟩
  · rw [e1, e2, e3, e4, e5]
    exact h.F
  · rw [e6]
    exact h.room
  · rw [e4]
    exact h.mg
  · rw [e3]
    exact h.keep
theorem CtxOk.blk {Φ : Phi} {c : C} {X : Cx} (K : CtxOk Φ c X) {scope : Scope} (hk : scope.kind = .function) (s : Shared) (H : Hp) (a : Addr) (cl : List (Str × Addr)) (fp : List Addr) : CtxOk Φ (c.blk scope) (X.blk s H scope (compEnvC scope cl a X.env) fp) := by
  refine ⟨K.N, K.nd, ?_, hk, rfl, ⟨K.op.calm, K.op.un, K.op.gd⟩, fun f p h => ?_, K.gs, K.bs⟩
  · show relS scope X.env.scope = relS scope c.sc
    rw [K.sc]
  · obtain ⟨D, G, h1, h2, h3⟩ := K.fs f p h
    obtain ⟨D', h4, h5⟩ := h1.blk (Y := X.blk s H scope (compEnvC scope cl a X.env) fp) rfl rfl rfl rfl rfl rfl
    exact ⟨D', G, h4, h2, h5.trans h3⟩

/-! ### targets -/
def chkG1 (c : C) (a : E) (x : Expr) : Bool := match a with
  | .ref i => hName x (c.st i)
  | _ => false
def chkG2 (c : C) (a : E) (x : Expr) : Bool := match a with
  | .tup (.cons (.ref i) (.cons (.ref j) .nil)) => (match x with
    | .Tuple [y, z] _ _ => hName y (c.st i) && hName z (c.st j)
    | _ => false)
  | _ => false
def chkGs : E → C → List Expr → Bool
  | .nil, _, es => es.isEmpty
  | .cons a b, c, es => (match es with
    | x :: r => (chkG1 c a x || chkG2 c a x) && chkGs b c r
    | [] => false)
  | _, _, _ => false
def chkG (m : E) (c : C) (x : Expr) : Bool := match m with
  | .ref i => hName x (c.st i)
  | .tup ts => hTup x fun es => decide (es.length = cl ts) && chkGs ts c es
  | _ => false
section
variable {Φ : Phi} {c : C} {X : Cx}
theorem g1_ok (K : CtxOk Φ c X) {a : E} {x : Expr} (h : chkG1 c a x = true) : ∃ i, a = .ref i ∧ PGx X (.ref i) x ∧ noStar x = true := by
  unfold chkG1 at h
  split at h
  · obtain ⟨nm, p, rfl, h⟩ := hName_ok h
    obtain ⟨h1, h2, h3⟩ := st_ok K h
    exact ⟨_, rfl, g_name (by rw [K.N]; exact K.nd) h1 h2 h3, rfl⟩
  · cases h
theorem chkG2_ok {a : E} {x : Expr} (h : chkG2 c a x = true) : ∃ i j y z k p, a = .tup (.cons (.ref i) (.cons (.ref j) .nil)) ∧ x = .Tuple [y, z] k p ∧ hName y (c.st i) = true ∧ hName z (c.st j) = true := by
  unfold chkG2 at h
  split at h
  · split at h
    · obtain ⟨h3, h4⟩ := (Bool.and_eq_true _ _).mp h
      exact ⟨_, _, _, _, _, _, rfl, rfl, h3, h4⟩
    · cases h
  · cases h
theorem gs_ok (K : CtxOk Φ c X) : ∀ (m : E) (es : List Expr), chkGs m c es = true → PGsx X m es ∧ es.all noStar = true := by
  intro m
  induction m with
  | nil =>
    intro es h
    cases es with
    | nil => exact ⟨gs_nil, rfl⟩
    | cons x r => cases h
  | cons a b _ ihb =>
    intro es h
    cases es with
    | nil => cases h
    | cons x r =>
      obtain ⟨h1, h2⟩ := (Bool.and_eq_true _ _).mp (show ((chkG1 c a x || chkG2 c a x) && chkGs b c r) = true from h)
      obtain ⟨g1, g2⟩ := ihb r h2
      rcases (Bool.or_eq_true _ _).mp h1 with h1 | h1
      · obtain ⟨i, rfl, k1, k2⟩ := g1_ok K h1
        refine ⟨gs_cons k1 g1 (asg_cons k2 _ _), by simp [k2, g2]⟩
      · obtain ⟨i, j, y, z, k2, p2, rfl, rfl, h3, h4⟩ := chkG2_ok h1
        obtain ⟨i', e1, k1, n1⟩ := g1_ok K (a := .ref i) (x := y) h3
        obtain ⟨j', e2, k3, n3⟩ := g1_ok K (a := .ref j) (x := z) h4
        cases e1
        cases e2
        obtain ⟨l1, l2⟩ := asg_len (es := [y, z]) X.env (by simp [n1, n3])
        exact ⟨gs_cons2 K.op.calm k1 k3 g1 l1 l2 (asg_cons n1 _ _) (asg_cons n3 _ _) (asg_cons rfl _ _), by simp [g2, noStar]⟩
  | _ =>
    intro es h
    cases h
theorem g_ok (K : CtxOk Φ c X) {m : E} {x : Expr} (h : chkG m c x = true) : PGx X m x ∧ noStar x = true := by
  unfold chkG at h
  split at h
  · obtain ⟨i, e, k1, k2⟩ := g1_ok K (a := .ref _) (x := x) h
    cases e
    exact ⟨k1, k2⟩
  · obtain ⟨es, j, p, rfl, h⟩ := hTup_ok h
    obtain ⟨h1, h2⟩ := (Bool.and_eq_true _ _).mp h
    obtain ⟨g1, g2⟩ := gs_ok K _ _ h2
    obtain ⟨l1, l2⟩ := asg_len X.env g2
    exact ⟨g_tup K.op.calm g1 (l1.trans (of_decide_eq_true h1)) l2, rfl⟩
  · cases h
end
end Mi
/-! The check of expressions. -/
namespace Mi
open PySem L2 PyProof.Rows

def opK (c : C) (a : E) (x : Expr) (r : Bool) : Bool := match a with
  | .ref i => hName x (c.ld i)
  | _ => r
def fnB (c : C) (f : Nat) (nm : Str) : Bool := c.gl nm && (match c.fs[f]? with
  | some p => decide (p.1 = nm)
  | none => false)
def kwB (c : C) (f : Nat) (pm : List Nat) (kws : List Keyword) : Bool := (kws.all fun k => match k with
  | ⟨some _, _, _⟩ => true
  | _ => false) && decide ((kws.filterMap fun k => match k with
  | ⟨n, _, _⟩ => n).length = pm.length) && (match c.fs[f]? with
  | some p => p.2.contains (kws.filterMap (fun k => match k with
    | ⟨n, _, _⟩ => n), pm)
  | none => false)
def globB (c : C) (g : Nat) (d : PyData) (nm : Str) : Bool := c.gl nm && (match c.gs[g]? with
  | some p => decide (p.1 = nm) && dEq p.2 d
  | none => false)
def notCall (o : Expr) : Bool := match o with
  | .Call _ _ _ _ => false
  | _ => true
def hasAll (a b : List Nat) : Bool := a.all fun i => b.contains i
def kSset (c : C) (l : List Expr) (k : List Expr → Bool) : Bool := c.bn "sorted" && c.bn "set" && (match l with
  | [y] => noStar y && hCall y fun nm2 l2 => decide (nm2 = "set") && (match l2 with
    | [x] => noStar x && k [x]
    | _ => false)
  | _ => false)
def kBi (c : C) (b : Bi) (nm : Str) (l : List Expr) (k : List Expr → Bool) : Bool := match b with
  | .sset => decide (nm = "sorted") && kSset c l k
  | b => decide (biNm b = some nm) && c.bn nm && l.all noStar && !l.isEmpty && k l
def kIsi (c : C) (ts : List PTy) (nm : Str) (l : List Expr) (k : Expr → Bool) : Bool := decide (nm = "isinstance") && c.bn "isinstance" && (match l with
  | [x, t] => noStar x && clsB c ts t && k x
  | _ => false)
def kRg (c : C) (t : Bool) (nm : Str) (l : List Expr) (k : List Expr → Bool) : Bool := decide (nm = if t then "tuple" else "list") && c.bn nm && c.bn "range" && (match l with
  | [y] => hCall y fun n2 r => decide (n2 = "range") && k r
  | _ => false)
def isNil : E → Bool
  | .nil => true
  | _ => false

/-- sorted(x, key=len) -/
def hSrt (e : Expr) (k : Expr → Bool) : Bool := match e with
  | .Call (.Name nm _) [x] [⟨some kw, .Name ln _, _⟩] _ => decide (nm = "sorted") && decide (kw = Str.ofString "key") && decide (ln = "len") && k x
  | _ => false
theorem hSrt_ok {e : Expr} {k : Expr → Bool} (h : hSrt e k = true) : ∃ p1 p2 p3 p x, e = .Call (.Name "sorted" p1) [x] [⟨some (Str.ofString "key"), .Name "len" p2, p3⟩] p ∧ k x = true := by
  unfold hSrt at h
  split at h
  · simp only [Bool.and_eq_true, decide_eq_true_eq] at h
    obtain ⟨⟨⟨rfl, rfl⟩, rfl⟩, h⟩ := h
    exact ⟨_, _, _, _, _, rfl, h⟩
  · cases h
def kDct (c : C) (nm : Str) (l : List Expr) (k : Expr → Bool) : Bool := decide (nm = "dict") && c.bn "dict" && (match l with
  | [x] => noStar x && k x
  | _ => false)
def kLset (c : C) (nm : Str) (l : List Expr) (k : Expr → Bool) : Bool := decide (nm = "len") && c.bn "len" && c.bn "set" && (match l with
  | [y] => noStar y && hCall y fun n2 r => decide (n2 = "set") && (match r with
    | [x] => noStar x && k x
    | _ => false)
  | _ => false)
mutual
def chkE : E → C → Expr → Bool
  | .var i, c, e => hName e (c.ld i)
  | .mv i, c, e => hName e (c.ld i)
  | .lit d, c, e => hConst e (litB d)
  | .glob g d, c, e => hName e (globB c g d)
  | .bin op a b, c, e => hBin e fun x op' y => decide (op = op') && opK c a x (chkE a c x) && opK c b y (chkE b c y)
  | .neg a, c, e => hNeg e (chkE a c)
  | .cmp op a b, c, e => hCmp e fun x op' y => decide (op = op') && !behindInMarks op y && opK c a x (chkE a c x) && opK c b y (chkE b c y)
  | .chain o1 o2 a b d, c, e => hCmp2 e fun x o1' o2' y z => decide (o1 = o1') && decide (o2 = o2') && !behindInMarks o2 z && opK c a x (chkE a c x) && opK c b y (chkE b c y) && opK c d z (chkE d c z)
  | .and a b, c, e => hAnd e (fun x y => chkE a c x && chkE b c y) fun x r => chkE a c x && chkE b c r
  | .or a b, c, e => hOr e (fun x y => chkE a c x && chkE b c y) fun x r => chkE a c x && chkE b c r
  | .not a, c, e => hNot e (chkE a c)
  | .ife t a b, c, e => hIf e fun z x y => chkT t c z && chkE a c x && chkE b c y
  | .tup es, c, e => hTup e fun l => chkA es c l
  | .lst es, c, e => hLst e fun l => chkA es c l
  | .dnew, c, e => hDict0 e
  | .ix a i, c, e => hSub e fun x y => opK c a x (chkE a c x) && opK c i y (chkE i c y)
  | .slc a lo hi, c, e => hSlc e fun x l u => opK c a x (chkE a c x) && chkP lo c l && chkP hi c u
  | .call f es, c, e => hCall e fun nm l => fnB c f nm && l.all noStar && chkL es c l
  | .callk f pm es, c, e => hCallK e fun nm kws => fnB c f nm && kwB c f pm kws && chkK es c kws
  | .bi b es, c, e => hCall e fun nm l => kBi c b nm l (chkL es c)
  | .isi a ts, c, e => hCall e fun nm l => kIsi c ts nm l fun x => opK c a x (chkE a c x)
  | .rg1 t a, c, e => hCall e fun nm l => kRg c t nm l fun r => (match r with
    | [x] => noStar x && chkE a c x
    | _ => false)
  | .rg2 t a b, c, e => hCall e fun nm l => kRg c t nm l fun r => (match r with
    | [x, y] => noStar x && noStar y && chkE a c x && chkE b c y
    | _ => false)
  | .srtl a, c, e => hSrt e fun x => c.bn "sorted" && c.bn "len" && noStar x && chkE a c x
  | .dctp a, c, e => hCall e fun nm l => kDct c nm l (chkE a c)
  | .lset a, c, e => hCall e fun nm l => kLset c nm l (chkE a c)
  | .frz a, c, e => chkE a c e
  | .pop i, c, e => hMeth e fun o m l => decide (m = "pop") && l.isEmpty && hName o (c.ld i)
  | .popi i a, c, e => hMeth e fun o m l => decide (m = "pop") && hName o (c.ld i) && (match l with
    | [x] => noStar x && chkE a c x
    | _ => false)
  | .get1 o k, c, e => hMeth e fun x m l => decide (m = "get") && notCall x && opK c o x (chkE o c x) && (match l with
    | [y] => noStar y && chkE k c y
    | _ => false)
  | .get2 o k d, c, e => hMeth e fun x m l => decide (m = "get") && notCall x && opK c o x (chkE o c x) && (match l with
    | [y, z] => noStar y && noStar z && chkE k c y && chkE d c z
    | _ => false)
  | .repL es, c, e => hCall e fun nm l => decide (nm = "repr") && c.bn "repr" && (match l with
    | [y] => hLst y fun l2 => chkL es c l2
    | _ => false)
  | .lc own tg it cond elt, c, e => hLc e fun ex tgx itx ifs scope => blkB c scope own && notSet itx && hasAll (tgNames tg) own && chkI it c tgx itx && chkG tg (c.blk scope) tgx && chkC cond (c.blk scope) ifs && chkE elt (c.blk scope) ex
  | .lc2 own own1 tg it cond tg1 i1 cond1 elt, c, e => hLc2 e fun ex tgx itx ifs tg1x it1x ifs1 scope => blkB c scope own && notSet itx && hasAll (tgNames tg) own && hasAll own1 own && hasAll (tgNames tg1) own1 && chkI it c tgx itx && chkG tg (c.blk scope) tgx && chkC cond (c.blk scope) ifs && hName it1x ((c.blk scope).ld i1) && chkG tg1 (c.blk scope) tg1x && chkC cond1 (c.blk scope) ifs1 && chkE elt (c.blk scope) ex
  | .dc own tg it cond k v, c, e => hDc e fun kx vx tgx itx ifs scope => blkB c scope own && notSet itx && hasAll (tgNames tg) own && chkI it c tgx itx && chkG tg (c.blk scope) tgx && chkC cond (c.blk scope) ifs && chkE k (c.blk scope) kx && chkE v (c.blk scope) vx
  | _, _, _ => false
def chkT : E → C → Expr → Bool
  | .and a b, c, e => hAnd e (fun x y => chkT a c x && chkT b c y) fun x r => chkT a c x && chkT b c r
  | .or a b, c, e => hOr e (fun x y => chkT a c x && chkT b c y) fun x r => chkT a c x && chkT b c r
  | .not a, c, e => hNot e (chkT a c)
  | .cmp op a b, c, e => hCmp e fun x op' y => decide (op = op') && !behindInMarks op y && opK c a x (chkE a c x) && opK c b y (chkE b c y)
  | .chain o1 o2 a b d, c, e => hCmp2 e fun x o1' o2' y z => decide (o1 = o1') && decide (o2 = o2') && !behindInMarks o2 z && opK c a x (chkE a c x) && opK c b y (chkE b c y) && opK c d z (chkE d c z)
  | .isi a ts, c, e => hCall e fun nm l => kIsi c ts nm l fun x => opK c a x (chkE a c x)
  | .ref i, c, e => hName e (c.ld i)
  | .ix a i, c, e => hSub e fun x y => opK c a x (chkE a c x) && opK c i y (chkE i c y)
  | .call f es, c, e => hCall e fun nm l => fnB c f nm && l.all noStar && chkL es c l
  | .callk f pm es, c, e => hCallK e fun nm kws => fnB c f nm && kwB c f pm kws && chkK es c kws
  | .bi b es, c, e => hCall e fun nm l => kBi c b nm l (chkL es c)
  | _, _, _ => false
/-- operands -/
def chkL : E → C → List Expr → Bool
  | .nil, _, es => es.isEmpty
  | .cons a b, c, es => (match es with
    | x :: r => noStar x && opK c a x (chkE a c x) && chkL b c r
    | [] => false)
  | _, _, _ => false
/-- items of a display -/
def chkA : E → C → List Expr → Bool
  | .nil, _, es => es.isEmpty
  | .cons a b, c, es => (match es with
    | x :: r => noStar x && chkE a c x && chkA b c r
    | [] => false)
  | _, _, _ => false
def chkK : E → C → List Keyword → Bool
  | .nil, _, kws => kws.isEmpty
  | .cons a b, c, kws => (match kws with
    | ⟨_, x, _⟩ :: r => opK c a x (chkE a c x) && chkK b c r
    | [] => false)
  | _, _, _ => false
def chkP : E → C → Option Expr → Bool
  | .nil, _, o => o.isNone
  | .cons a b, c, o => isNil b && (match o with
    | some x => chkE a c x
    | none => false)
  | _, _, _ => false
def chkC : E → C → List Expr → Bool
  | .nil, _, ifs => ifs.isEmpty
  | .cons a b, c, ifs => isNil b && (match ifs with
    | [x] => chkT a c x
    | _ => false)
  | _, _, _ => false
/-- one or two plain arguments -/
def chkN : E → C → List Expr → Bool
  | .nil, _, es => es.isEmpty
  | .cons a b, c, es => (match es with
    | x :: r => noStar x && chkE a c x && chkN b c r
    | [] => false)
  | _, _, _ => false
def chkI : E → C → Expr → Expr → Bool
  | .lend i, c, _, it => hName it (c.ld i)
  | .bi b es, c, tg, it => hCall it fun nm l => (match b with
    | .range1 => decide (nm = "range") && c.bn "range" && decide (l.length = 1) && chkN es c l
    | .range2 => decide (nm = "range") && c.bn "range" && decide (l.length = 2) && chkN es c l
    | .enum => decide (nm = "enumerate") && c.bn "enumerate" && decide (l.length = 1) && hTup tg (fun _ => true) && chkN es c l
    | .zip => decide (nm = "zip") && c.bn "zip" && decide (l.length = 2) && hTup tg (fun _ => true) && chkN es c l
    | _ => false)
  | .cons a b, c, _, it => isNil b && chkE a c it
  | _, _, _, _ => false
end

/-! ### what the checks are worth -/
/-- plain arguments, each by its own reading -/
inductive Args1 (Φ : Phi) (X : Cx) : E → List Expr → Prop
  | nil : Args1 Φ X .nil []
  | cons {a b : E} {x : Expr} {es : List Expr} : PEp Φ X a x → noStar x = true → Args1 Φ X b es → Args1 Φ X (.cons a b) (x :: es)
structure Snd (Φ : Phi) (m : E) (c : C) (X : Cx) : Prop where
  e : ∀ x, chkE m c x = true → PEp Φ X m x
  t : ∀ x, chkT m c x = true → PTp Φ X m x ∧ ((∃ op vs p, x = .BoolOp op vs p) → PWp Φ X m x)
  l : ∀ es, chkL m c es = true → PAp Φ X m es
  a : ∀ es, chkA m c es = true → PDp Φ X m es
  k : ∀ kws, chkK m c kws = true → PKp Φ X m kws
  p : ∀ o, chkP m c o = true → PPp Φ X m o
  cc : ∀ ifs, chkC m c ifs = true → PCp Φ X m ifs
  n : ∀ es, chkN m c es = true → Args1 Φ X m es
  i : ∀ tg it, chkI m c tg it = true → PIx Φ X m tg it

theorem chkA_star : ∀ (m : E) (c : C) (es : List Expr), chkA m c es = true → es.all noStar = true := by
  intro m
  induction m with
  | nil =>
    intro c es h
    cases es with
    | nil => rfl
    | cons x r => cases h
  | cons a b _ ihb =>
    intro c es h
    cases es with
    | nil => rfl
    | cons x r =>
      have h' : (noStar x && chkE a c x && chkA b c r) = true := h
      simp only [Bool.and_eq_true] at h'
      simp [h'.1.1, ihb c r h'.2]
  | _ => intro c es h; cases h
section
variable {Φ : Phi} {c : C} {X : Cx} {a b m : E} {x y z e : Expr} {es : List Expr}
theorem opK_ok (K : CtxOk Φ c X) (ha : Snd Φ a c X) (h : opK c a x (chkE a c x) = true) : POp Φ X a x := by
  intro env env' o ho
  unfold opK at h
  cases a with
  | ref i =>
    simp only [opd] at ho
    split at ho
    · rename_i hi
      cases ho
      obtain ⟨nm, p, rfl, h⟩ := hName_ok h
      obtain ⟨h1, h2, h3, h4⟩ := ld_ok K h
      exact s_ref h1 h2 h3 h4 (fun z => by rw [z] at hi; cases hi)
    · cases ho
  | _ =>
    simp only [opd] at ho
    obtain ⟨⟨t, e1⟩, h1, h2⟩ := Option.map_eq_some_iff.mp ho
    cases h2
    exact ha.e _ h _ _ _ h1

/-! #### each construct -/
theorem k_cmpE (K : CtxOk Φ c X) (ha : Snd Φ a c X) (hb : Snd Φ b c X) {op : CmpOp} (h : hCmp e (fun x op' y => decide (op = op') && !behindInMarks op y && opK c a x (chkE a c x) && opK c b y (chkE b c y)) = true) : PEp Φ X (.cmp op a b) e ∧ PTp Φ X (.cmp op a b) e := by
  obtain ⟨x, op', y, p, rfl, hh⟩ := hCmp_ok h
  simp only [Bool.and_eq_true] at hh
  obtain ⟨⟨⟨h1, h2⟩, h3⟩, h4⟩ := hh
  have e1 := of_decide_eq_true h1
  subst e1
  have h2' : behindInMarks op y = false := by simpa using h2
  exact ⟨s_cmp K.op (opK_ok K ha h3) (opK_ok K hb h4) h2', t_cmp K.op (opK_ok K ha h3) (opK_ok K hb h4) h2'⟩
theorem k_chain (K : CtxOk Φ c X) {d : E} (ha : Snd Φ a c X) (hb : Snd Φ b c X) (hd : Snd Φ d c X) {o1 o2 : CmpOp}
    (h : hCmp2 e (fun x o1' o2' y z => decide (o1 = o1') && decide (o2 = o2') && !behindInMarks o2 z && opK c a x (chkE a c x) && opK c b y (chkE b c y) && opK c d z (chkE d c z)) = true) : PEp Φ X (.chain o1 o2 a b d) e ∧ PTp Φ X (.chain o1 o2 a b d) e := by
  obtain ⟨x, o1', o2', y, z, p, rfl, hh⟩ := hCmp2_ok h
  simp only [Bool.and_eq_true] at hh
  obtain ⟨⟨⟨⟨⟨h1, h2⟩, h3⟩, h4⟩, h5⟩, h6⟩ := hh
  have e1 := of_decide_eq_true h1
  have e2 := of_decide_eq_true h2
  subst e1 e2
  have h3' : lastMarks [o1, o2] [y, z] = false := by
    show behindInMarks o2 z = false
    simpa using h3
  exact ⟨s_chain K.op (opK_ok K ha h4) (opK_ok K hb h5) (opK_ok K hd h6) h3', t_chain K.op (opK_ok K ha h4) (opK_ok K hb h5) (opK_ok K hd h6) h3'⟩
theorem k_ix (K : CtxOk Φ c X) (ha : Snd Φ a c X) (hb : Snd Φ b c X) (h : hSub e (fun x y => opK c a x (chkE a c x) && opK c b y (chkE b c y)) = true) : PEp Φ X (.ix a b) e ∧ Truthy X e := by
  obtain ⟨x, y, p, rfl, h1, h2⟩ := hSub_ok h
  obtain ⟨h3, h4⟩ := (Bool.and_eq_true _ _).mp h2
  exact ⟨s_ix K.op (opK_ok K ha h3) (opK_ok K hb h4) (notSlice_ix h1), truthy_of rfl⟩
theorem fnB_ok (K : CtxOk Φ c X) {f : Nat} {nm : Str} (h : fnB c f nm = true) : Gl X nm ∧ (nm == ("__debug__" : Str)) = false ∧ ∃ (p : Str × List (List Str × List Nat)) (D : CallD X) (G : FnS), c.fs[f]? = some p ∧ p.1 = nm ∧ CallOk X nm D G ∧ Φ[f]? = some G ∧ D.kw = p.2 := by
  unfold fnB at h
  obtain ⟨h1, h2⟩ := (Bool.and_eq_true _ _).mp h
  obtain ⟨g1, g2⟩ := gl_ok K h1
  split at h2
  · rename_i p hp
    have e1 := of_decide_eq_true h2
    obtain ⟨D, G, k1, k2, k3⟩ := K.fs f p hp
    rw [e1] at k1
    exact ⟨g1, g2, p, D, G, hp, e1, k1, k2, k3⟩
  · cases h2
theorem k_call (K : CtxOk Φ c X) (ha : Snd Φ a c X) {f : Nat} (h : hCall e (fun nm l => fnB c f nm && l.all noStar && chkL a c l) = true) : PEp Φ X (.call f a) e ∧ Truthy X e := by
  obtain ⟨nm, np, es, p, rfl, hh⟩ := hCall_ok h
  simp only [Bool.and_eq_true] at hh
  obtain ⟨⟨h1, h2⟩, h3⟩ := hh
  obtain ⟨g1, g2, q, D, G, g3, g4, g5, g6, g7⟩ := fnB_ok K h1
  refine ⟨?_, truthy_of rfl⟩
  cases es with
  | nil =>
    have hn : a = .nil ∨ ∃ env os e1, evL Φ a env = some (os, e1) → False := by
      cases a <;> first | exact .inl rfl | (simp [chkL] at h3; done)
    rcases hn with rfl | ⟨env, os, e1, z⟩
    · exact s_call0 K.op g5 g6 g1 g2
    · cases a <;> first | exact s_call0 K.op g5 g6 g1 g2 | (simp [chkL] at h3; done)
  | cons x r =>
    obtain ⟨n1, n2⟩ : noStar x = true ∧ r.all noStar = true := by simpa using h2
    exact s_call K.op g5 g6 g1 (ha.l _ h3) g2 (star_cons n1 _ _) (star_any _ _ n2)
theorem kw_names : ∀ (kws : List Keyword) (pos : Pos) (env : Env), (kws.all fun k => match k with
    | ⟨some _, _, _⟩ => true
    | _ => false) = true → (backToKw pos (keywordEach kws env)).all (·.1.isSome) = true ∧ (backToKw pos (keywordEach kws env)).filterMap (·.1) = kws.filterMap (fun k => match k with
    | ⟨n, _, _⟩ => n) ∧ (backToKw pos (keywordEach kws env)).any (·.1.isNone) = false
  | [], _, _, _ => ⟨rfl, rfl, rfl⟩
  | ⟨some n, v, p⟩ :: kws, pos, env, h => by
    obtain ⟨h1, h2, h3⟩ := kw_names kws pos env (by simpa using h)
    refine ⟨?_, ?_, ?_⟩
    · show (true && (backToKw pos (keywordEach kws env)).all (·.1.isSome)) = true
      rw [h1]
      rfl
    · show n :: (backToKw pos (keywordEach kws env)).filterMap (·.1) = n :: _
      rw [h2]
    · show (false || (backToKw pos (keywordEach kws env)).any (·.1.isNone)) = false
      rw [h3]
      rfl
  | ⟨none, v, p⟩ :: kws, pos, env, h => by simp at h
theorem k_callk (K : CtxOk Φ c X) (ha : Snd Φ a c X) {f : Nat} {pm : List Nat} (h : hCallK e (fun nm kws => fnB c f nm && kwB c f pm kws && chkK a c kws) = true) : PEp Φ X (.callk f pm a) e ∧ Truthy X e := by
  obtain ⟨nm, np, kws, p, rfl, hh⟩ := hCallK_ok h
  simp only [Bool.and_eq_true] at hh
  obtain ⟨⟨h1, h2⟩, h3⟩ := hh
  obtain ⟨g1, g2, q, D, G, g3, g4, g5, g6, g7⟩ := fnB_ok K h1
  unfold kwB at h2
  simp only [Bool.and_eq_true] at h2
  obtain ⟨⟨k1, k2⟩, k3⟩ := h2
  rw [g3] at k3
  obtain ⟨n1, n2, n3⟩ := kw_names kws p X.env k1
  exact ⟨s_callk K.op g5 g6 (by rw [g7]; exact List.contains_iff_mem.mp k3) (of_decide_eq_true k2) g1 (ha.k _ h3) g2 n1 n2 (by rw [n3]; rfl), truthy_of rfl⟩
theorem k_bi (K : CtxOk Φ c X) (ha : Snd Φ a c X) {bb : Bi} (h : hCall e (fun nm l => kBi c bb nm l (chkL a c)) = true) : PEp Φ X (.bi bb a) e ∧ Truthy X e := by
  obtain ⟨nm, np, es, p, rfl, hh⟩ := hCall_ok h
  refine ⟨?_, truthy_of rfl⟩
  have plain : (decide (biNm bb = some nm) && c.bn nm && es.all noStar && !es.isEmpty && chkL a c es) = true → PEp Φ X (.bi bb a) (.Call (.Name nm np) es [] p) := fun hh => by
    simp only [Bool.and_eq_true] at hh
    obtain ⟨⟨⟨⟨h1, h2⟩, h3⟩, h4⟩, h5⟩ := hh
    obtain ⟨g1, g2, g3, g4⟩ := bn_ok K h2
    have e1 := of_decide_eq_true h1
    unfold biNm at e1
    obtain ⟨q, hq, e2⟩ := Option.map_eq_some_iff.mp e1
    cases es with
    | nil => cases h4
    | cons x r =>
      obtain ⟨n1, n2⟩ : noStar x = true ∧ r.all noStar = true := by simpa using h3
      exact bi_run (es' := []) K.op hq g1 g3 (by rw [← e2]; exact bi_boot hq) (ha.l _ h5) g4 g2 (star_cons n1 _ _) (star_any _ _ n2)
  cases bb with
  | sset =>
    obtain ⟨h1, h2⟩ := (Bool.and_eq_true _ _).mp (show (decide (nm = "sorted") && kSset c es (chkL a c)) = true from hh)
    have e1 := of_decide_eq_true h1
    subst e1
    unfold kSset at h2
    simp only [Bool.and_eq_true] at h2
    obtain ⟨⟨h3, h4⟩, h5⟩ := h2
    obtain ⟨g1, g2, g3, g4⟩ := bn_ok K h3
    obtain ⟨k1, k2, k3, k4⟩ := bn_ok K h4
    split at h5
    · rename_i y
      obtain ⟨h6, h7⟩ := (Bool.and_eq_true _ _).mp h5
      obtain ⟨nm2, np2, l2, p2, rfl, h8⟩ := hCall_ok h7
      obtain ⟨h9, h10⟩ := (Bool.and_eq_true _ _).mp h8
      have e2 := of_decide_eq_true h9
      subst e2
      split at h10
      · obtain ⟨h11, h12⟩ := (Bool.and_eq_true _ _).mp h10
        exact s_sset K.op (ha.l _ h12) g1 g3 k1 k3 (star_one h11 _) (star_one h6 _)
      · cases h10
    · cases h5
  | _ => exact plain hh
theorem k_srtl (K : CtxOk Φ c X) (ha : Snd Φ a c X) (h : hSrt e (fun x => c.bn "sorted" && c.bn "len" && noStar x && chkE a c x) = true) : PEp Φ X (.srtl a) e := by
  obtain ⟨p1, p2, p3, p, x, rfl, hh⟩ := hSrt_ok h
  simp only [Bool.and_eq_true] at hh
  obtain ⟨⟨⟨h1, h2⟩, h3⟩, h4⟩ := hh
  obtain ⟨g1, g2, g3, g4⟩ := bn_ok K h1
  obtain ⟨k1, k2, k3, k4⟩ := bn_ok K h2
  exact s_srtl K.op (ha.e _ h4) g1 g3 k1 k3 (star_one h3 _)
theorem k_dctp (K : CtxOk Φ c X) (ha : Snd Φ a c X) (h : hCall e (fun nm l => kDct c nm l (chkE a c)) = true) : PEp Φ X (.dctp a) e := by
  obtain ⟨nm, np, es, p, rfl, hh⟩ := hCall_ok h
  unfold kDct at hh
  simp only [Bool.and_eq_true] at hh
  obtain ⟨⟨h1, h2⟩, h3⟩ := hh
  have e1 := of_decide_eq_true h1
  subst e1
  split at h3
  · obtain ⟨h4, h5⟩ := (Bool.and_eq_true _ _).mp h3
    obtain ⟨g1, g2, g3, g4⟩ := bn_ok K h2
    exact s_dctp K.op (ha.e _ h5) g1 g3 (star_one h4 _)
  · cases h3
theorem k_lset (K : CtxOk Φ c X) (ha : Snd Φ a c X) (h : hCall e (fun nm l => kLset c nm l (chkE a c)) = true) : PEp Φ X (.lset a) e := by
  obtain ⟨nm, np, es, p, rfl, hh⟩ := hCall_ok h
  unfold kLset at hh
  simp only [Bool.and_eq_true] at hh
  obtain ⟨⟨⟨h1, h2⟩, h2'⟩, h3⟩ := hh
  have e1 := of_decide_eq_true h1
  subst e1
  obtain ⟨g1, g2, g3, g4⟩ := bn_ok K h2
  obtain ⟨k1, k2, k3, k4⟩ := bn_ok K h2'
  split at h3
  · obtain ⟨h4, h5⟩ := (Bool.and_eq_true _ _).mp h3
    obtain ⟨nm2, np2, l2, p2, rfl, h8⟩ := hCall_ok h5
    obtain ⟨h9, h10⟩ := (Bool.and_eq_true _ _).mp h8
    have e2 := of_decide_eq_true h9
    subst e2
    split at h10
    · obtain ⟨h11, h12⟩ := (Bool.and_eq_true _ _).mp h10
      exact s_lset K.op (ha.e _ h12) g1 g3 k1 k3 (star_one h11 _) (star_one h4 _)
    · cases h10
  · cases h3
theorem k_isi (K : CtxOk Φ c X) (ha : Snd Φ a c X) {ts : List PTy} (h : hCall e (fun nm l => kIsi c ts nm l fun x => opK c a x (chkE a c x)) = true) : PEp Φ X (.isi a ts) e ∧ Truthy X e := by
  obtain ⟨nm, np, es, p, rfl, hh⟩ := hCall_ok h
  refine ⟨?_, truthy_of rfl⟩
  unfold kIsi at hh
  simp only [Bool.and_eq_true] at hh
  obtain ⟨⟨h1, h2⟩, h3⟩ := hh
  have e1 := of_decide_eq_true h1
  subst e1
  split at h3
  · rename_i x t
    simp only [Bool.and_eq_true] at h3
    obtain ⟨⟨h4, h5⟩, h6⟩ := h3
    exact isi_ok K (opK_ok K ha h6) h4 h2 h5
  · cases h3
theorem k_meth (h : notCall y = true) (m : Str) : attributeBase y m X.env (eval y X.env) = eval y X.env := base_of (by cases y <;> first | rfl | cases h) X.env
theorem k_pop (K : CtxOk Φ c X) {i : Nat} (h : hMeth e (fun o m l => decide (m = "pop") && l.isEmpty && hName o (c.ld i)) = true) : PEp Φ X (.pop i) e := by
  obtain ⟨o, m, ap, es, cp, rfl, hl, hh⟩ := hMeth_ok h
  simp only [Bool.and_eq_true] at hh
  obtain ⟨⟨h1, h2⟩, h3⟩ := hh
  have e1 := of_decide_eq_true h1
  subst e1
  obtain ⟨nm, p, rfl, h4⟩ := hName_ok h3
  obtain ⟨g1, g2, g3, g4⟩ := ld_ok K h4
  cases es with
  | nil => exact s_pop g1 g2 g3 g4 hl
  | cons x r => cases h2
theorem k_popi (K : CtxOk Φ c X) (ha : Snd Φ a c X) {i : Nat} (h : hMeth e (fun o m l => decide (m = "pop") && hName o (c.ld i) && (match l with
    | [x] => noStar x && chkE a c x
    | _ => false)) = true) : PEp Φ X (.popi i a) e := by
  obtain ⟨o, m, ap, es, cp, rfl, hl, hh⟩ := hMeth_ok h
  simp only [Bool.and_eq_true] at hh
  obtain ⟨⟨h1, h3⟩, h5⟩ := hh
  have e1 := of_decide_eq_true h1
  subst e1
  obtain ⟨nm, p, rfl, h4⟩ := hName_ok h3
  obtain ⟨g1, g2, g3, g4⟩ := ld_ok K h4
  split at h5
  · obtain ⟨h6, h7⟩ := (Bool.and_eq_true _ _).mp h5
    exact s_popi (ha.e _ h7) g1 g2 g3 g4 hl (star_one h6 _)
  · cases h5
theorem k_get1 (K : CtxOk Φ c X) (ha : Snd Φ a c X) (hb : Snd Φ b c X) (h : hMeth e (fun x m l => decide (m = "get") && notCall x && opK c a x (chkE a c x) && (match l with
    | [y] => noStar y && chkE b c y
    | _ => false)) = true) : PEp Φ X (.get1 a b) e := by
  obtain ⟨o, m, ap, es, cp, rfl, hl, hh⟩ := hMeth_ok h
  simp only [Bool.and_eq_true] at hh
  obtain ⟨⟨⟨h1, h2⟩, h3⟩, h5⟩ := hh
  have e1 := of_decide_eq_true h1
  subst e1
  split at h5
  · rename_i y
    obtain ⟨h6, h7⟩ := (Bool.and_eq_true _ _).mp h5
    have st := star_one h6 X.env
    exact s_get1 K.op (opK_ok K ha h3) (hb.e _ h7) ⟨k_meth h2 _, by rw [st]; rfl, hl, by rw [st]; rfl⟩
  · cases h5
theorem k_get2 (K : CtxOk Φ c X) {d : E} (ha : Snd Φ a c X) (hb : Snd Φ b c X) (hd : Snd Φ d c X) (h : hMeth e (fun x m l => decide (m = "get") && notCall x && opK c a x (chkE a c x) && (match l with
    | [y, z] => noStar y && noStar z && chkE b c y && chkE d c z
    | _ => false)) = true) : PEp Φ X (.get2 a b d) e := by
  obtain ⟨o, m, ap, es, cp, rfl, hl, hh⟩ := hMeth_ok h
  simp only [Bool.and_eq_true] at hh
  obtain ⟨⟨⟨h1, h2⟩, h3⟩, h5⟩ := hh
  have e1 := of_decide_eq_true h1
  subst e1
  split at h5
  · rename_i y z
    simp only [Bool.and_eq_true] at h5
    obtain ⟨⟨⟨h6, h7⟩, h8⟩, h9⟩ := h5
    have st := star_two h6 h7 X.env
    exact s_get2 K.op (opK_ok K ha h3) (hb.e _ h8) (hd.e _ h9) ⟨k_meth h2 _, by rw [st]; rfl, hl, by rw [st]; rfl⟩
  · cases h5
theorem k_repL (K : CtxOk Φ c X) (ha : Snd Φ a c X) (h : hCall e (fun nm l => decide (nm = "repr") && c.bn "repr" && (match l with
    | [y] => hLst y fun l2 => chkL a c l2
    | _ => false)) = true) : PEp Φ X (.repL a) e := by
  obtain ⟨nm, np, es, p, rfl, hh⟩ := hCall_ok h
  simp only [Bool.and_eq_true] at hh
  obtain ⟨⟨h1, h2⟩, h3⟩ := hh
  have e1 := of_decide_eq_true h1
  subst e1
  obtain ⟨g1, g2, g3, g4⟩ := bn_ok K h2
  split at h3
  · rename_i y
    obtain ⟨l2, p2, rfl, h4⟩ := hLst_ok h3
    exact s_repL K.op (ha.l _ h4) g1 g3 (star_one rfl _)
  · cases h3
theorem k_rg1 (K : CtxOk Φ c X) (ha : Snd Φ a c X) {t : Bool} (h : hCall e (fun nm l => kRg c t nm l fun r => (match r with
    | [x] => noStar x && chkE a c x
    | _ => false)) = true) : PEp Φ X (.rg1 t a) e := by
  obtain ⟨nm, np, es, p, rfl, hh⟩ := hCall_ok h
  unfold kRg at hh
  simp only [Bool.and_eq_true] at hh
  obtain ⟨⟨⟨h1, h2⟩, h3⟩, h4⟩ := hh
  obtain ⟨g1, g2, g3, g4⟩ := bn_ok K h2
  obtain ⟨k1, k2, k3, k4⟩ := bn_ok K h3
  split at h4
  · obtain ⟨n2, np2, es2, p2, rfl, h5⟩ := hCall_ok h4
    obtain ⟨h6, h7⟩ := (Bool.and_eq_true _ _).mp h5
    have e1 := of_decide_eq_true h6
    subst e1
    split at h7
    · obtain ⟨h8, h9⟩ := (Bool.and_eq_true _ _).mp h7
      exact s_rg1 K.op (of_decide_eq_true h1) (ha.e _ h9) g1 g3 k1 k3 (fun es => star_cons h8 es _) (fun es => star_cons rfl es _)
    · cases h7
  · cases h4
theorem k_rg2 (K : CtxOk Φ c X) (ha : Snd Φ a c X) (hb : Snd Φ b c X) {t : Bool} (h : hCall e (fun nm l => kRg c t nm l fun r => (match r with
    | [x, y] => noStar x && noStar y && chkE a c x && chkE b c y
    | _ => false)) = true) : PEp Φ X (.rg2 t a b) e := by
  obtain ⟨nm, np, es, p, rfl, hh⟩ := hCall_ok h
  unfold kRg at hh
  simp only [Bool.and_eq_true] at hh
  obtain ⟨⟨⟨h1, h2⟩, h3⟩, h4⟩ := hh
  obtain ⟨g1, g2, g3, g4⟩ := bn_ok K h2
  obtain ⟨k1, k2, k3, k4⟩ := bn_ok K h3
  split at h4
  · obtain ⟨n2, np2, es2, p2, rfl, h5⟩ := hCall_ok h4
    obtain ⟨h6, h7⟩ := (Bool.and_eq_true _ _).mp h5
    have e1 := of_decide_eq_true h6
    subst e1
    split at h7
    · simp only [Bool.and_eq_true] at h7
      obtain ⟨⟨⟨h8, h9⟩, h10⟩, h11⟩ := h7
      exact s_rg2 K.op (of_decide_eq_true h1) (ha.e _ h10) (hb.e _ h11) g1 g3 k1 k3 (fun es => star_cons h8 es _) (fun es => star_cons h9 es _) (fun es => star_cons rfl es _)
    · cases h7
  · cases h4
theorem hasAll_ok {a b : List Nat} (h : hasAll a b = true) : ∀ i ∈ a, i ∈ b := fun i hi => List.contains_iff_mem.mp (List.all_eq_true.mp h i hi)
theorem k_lc (K : CtxOk Φ c X) {own : List Nat} {mt mi mc me : E} (hi : Snd Φ mi c X) (hc : ∀ X', CtxOk Φ c X' → Snd Φ mi c X') (ht : ∀ c' X', CtxOk Φ c' X' → Snd Φ mc c' X') (he : ∀ c' X', CtxOk Φ c' X' → Snd Φ me c' X')
    (h : hLc e (fun ex tgx itx ifs scope => blkB c scope own && notSet itx && hasAll (tgNames mt) own && chkI mi c tgx itx && chkG mt (c.blk scope) tgx && chkC mc (c.blk scope) ifs && chkE me (c.blk scope) ex) = true) : PEp Φ X (.lc own mt mi mc me) e := by
  obtain ⟨ex, tgx, itx, ifs, scope, p, rfl, hh⟩ := hLc_ok h
  simp only [Bool.and_eq_true] at hh
  obtain ⟨⟨⟨⟨⟨⟨h1, h2⟩, h3⟩, h4⟩, h5⟩, h6⟩, h7⟩ := hh
  have ok := blk_ok h1
  have Kb : ∀ (s : Shared) (H : Hp) (C : Addr) (cl : List (Str × Addr)) (fp : List Addr), CtxOk Φ (c.blk scope) (X.blk s H scope (compEnvC scope cl C X.env) fp) := fun s H C cl fp => K.blk ok.kind s H C cl fp
  have ok' : BlkOk X.N X.env.scope scope (ownN c own) := by
    rw [K.N, K.sc]
    exact ok
  have := s_lc' (own := ownN c own) (pos := p) K.op (by rw [K.N]; exact K.nd) ok' (hi.i _ _ h4) (fun s H C cl fp => (g_ok (Kb s H C cl fp) h5).1) (fun s H C cl fp => (ht _ _ (Kb s H C cl fp)).cc _ h6) (fun s H C cl fp => (he _ _ (Kb s H C cl fp)).e _ h7) (folded_of h2 _)
    (by rw [ownN_snd]; exact hasAll_ok h3)
  rw [ownN_snd] at this
  exact this
theorem k_lc2 (K : CtxOk Φ c X) {own own1 : List Nat} {mt mi mc mt1 mc1 me : E} {i1 : Nat} (hi : Snd Φ mi c X) (ht : ∀ c' X', CtxOk Φ c' X' → Snd Φ mc c' X') (ht1 : ∀ c' X', CtxOk Φ c' X' → Snd Φ mc1 c' X') (he : ∀ c' X', CtxOk Φ c' X' → Snd Φ me c' X')
    (h : hLc2 e (fun ex tgx itx ifs tg1x it1x ifs1 scope => blkB c scope own && notSet itx && hasAll (tgNames mt) own && hasAll own1 own && hasAll (tgNames mt1) own1 && chkI mi c tgx itx && chkG mt (c.blk scope) tgx && chkC mc (c.blk scope) ifs && hName it1x ((c.blk scope).ld i1) && chkG mt1 (c.blk scope) tg1x && chkC mc1 (c.blk scope) ifs1 && chkE me (c.blk scope) ex) = true) : PEp Φ X (.lc2 own own1 mt mi mc mt1 i1 mc1 me) e := by
  obtain ⟨ex, tgx, itx, ifs, tg1x, it1x, ifs1, scope, p, rfl, hh⟩ := hLc2_ok h
  simp only [Bool.and_eq_true] at hh
  obtain ⟨⟨⟨⟨⟨⟨⟨⟨⟨⟨⟨h1, h2⟩, h3⟩, h3b⟩, h3c⟩, h4⟩, h5⟩, h6⟩, h7⟩, h8⟩, h9⟩, h10⟩ := hh
  obtain ⟨nm1, p1, rfl, h7⟩ := hName_ok h7
  have ok := blk_ok h1
  have Kb : ∀ (s : Shared) (H : Hp) (C : Addr) (cl : List (Str × Addr)) (fp : List Addr), CtxOk Φ (c.blk scope) (X.blk s H scope (compEnvC scope cl C X.env) fp) := fun s H C cl fp => K.blk ok.kind s H C cl fp
  have ok' : BlkOk X.N X.env.scope scope (ownN c own) := by
    rw [K.N, K.sc]
    exact ok
  have := s_lc2' (own := ownN c own) (ow1 := own1) (pos := p) (p1 := p1) K.op (by rw [K.N]; exact K.nd) ok' (hi.i _ _ h4) (fun s H C cl fp => (g_ok (Kb s H C cl fp) h5).1) (fun s H C cl fp => (ht _ _ (Kb s H C cl fp)).cc _ h6)
    (fun s H C cl fp => by
      obtain ⟨g1, g2, g3, g4⟩ := ld_ok (Kb s H C cl fp) h7
      exact pi_fz g1 g2 g3 g4)
    (fun s H C cl fp => (g_ok (Kb s H C cl fp) h8).1) (fun s H C cl fp => (ht1 _ _ (Kb s H C cl fp)).cc _ h9) (fun s H C cl fp => (he _ _ (Kb s H C cl fp)).e _ h10) (folded_of h2 _)
    (by rw [ownN_snd]; exact hasAll_ok h3b) (by rw [ownN_snd]; exact hasAll_ok h3) (hasAll_ok h3c)
  rw [ownN_snd] at this
  exact this
theorem k_dc (K : CtxOk Φ c X) {own : List Nat} {mt mi mc mk mv : E} (hi : Snd Φ mi c X) (ht : ∀ c' X', CtxOk Φ c' X' → Snd Φ mc c' X') (hk : ∀ c' X', CtxOk Φ c' X' → Snd Φ mk c' X') (hv : ∀ c' X', CtxOk Φ c' X' → Snd Φ mv c' X')
    (h : hDc e (fun kx vx tgx itx ifs scope => blkB c scope own && notSet itx && hasAll (tgNames mt) own && chkI mi c tgx itx && chkG mt (c.blk scope) tgx && chkC mc (c.blk scope) ifs && chkE mk (c.blk scope) kx && chkE mv (c.blk scope) vx) = true) : PEp Φ X (.dc own mt mi mc mk mv) e := by
  obtain ⟨kx, vx, tgx, itx, ifs, scope, p, rfl, hh⟩ := hDc_ok h
  simp only [Bool.and_eq_true] at hh
  obtain ⟨⟨⟨⟨⟨⟨⟨h1, h2⟩, h3⟩, h4⟩, h5⟩, h6⟩, h7⟩, h8⟩ := hh
  have ok := blk_ok h1
  have Kb : ∀ (s : Shared) (H : Hp) (C : Addr) (cl : List (Str × Addr)) (fp : List Addr), CtxOk Φ (c.blk scope) (X.blk s H scope (compEnvC scope cl C X.env) fp) := fun s H C cl fp => K.blk ok.kind s H C cl fp
  have ok' : BlkOk X.N X.env.scope scope (ownN c own) := by
    rw [K.N, K.sc]
    exact ok
  have := s_dc (own := ownN c own) (pos := p) K.op (by rw [K.N]; exact K.nd) ok' (hi.i _ _ h4) (fun s H C cl fp => (g_ok (Kb s H C cl fp) h5).1) (fun s H C cl fp => (ht _ _ (Kb s H C cl fp)).cc _ h6) (fun s H C cl fp => (hk _ _ (Kb s H C cl fp)).e _ h7) (fun s H C cl fp => (hv _ _ (Kb s H C cl fp)).e _ h8) (folded_of h2 _)
    (by rw [ownN_snd]; exact hasAll_ok h3)
  rw [ownN_snd] at this
  exact this
theorem k_glob (K : CtxOk Φ c X) {g : Nat} {d : PyData} (h : hName e (globB c g d) = true) : PEp Φ X (.glob g d) e := by
  obtain ⟨nm, p, rfl, hh⟩ := hName_ok h
  unfold globB at hh
  obtain ⟨h1, h2⟩ := (Bool.and_eq_true _ _).mp hh
  obtain ⟨g1, g2⟩ := gl_ok K h1
  split at h2
  · rename_i q hq
    obtain ⟨h3, h4⟩ := (Bool.and_eq_true _ _).mp h2
    have e1 := of_decide_eq_true h3
    have e2 := dEq_ok h4
    obtain ⟨v, u, k1, k2, k3⟩ := K.gs q (List.mem_of_getElem? hq)
    rw [e1] at k1
    rw [e2] at k3
    exact s_glob (pe_glob g1 k1 k2 g2) k3
  · cases h2
theorem k_and (ha : Snd Φ a c X) (hb : Snd Φ b c X) (h : hAnd e (fun x y => chkE a c x && chkE b c y) (fun x r => chkE a c x && chkE b c r) = true) : PEp Φ X (.and a b) e := by
  rcases hAnd_ok h with ⟨x, y, p, rfl, hh⟩ | ⟨x, y, z, r, p, rfl, hh⟩
  · obtain ⟨h1, h2⟩ := (Bool.and_eq_true _ _).mp hh
    exact s_andB (ha.e _ h1) (s_one (hb.e _ h2))
  · obtain ⟨h1, h2⟩ := (Bool.and_eq_true _ _).mp hh
    exact s_andB (ha.e _ h1) (hb.e _ h2)
theorem k_or (ha : Snd Φ a c X) (hb : Snd Φ b c X) (h : hOr e (fun x y => chkE a c x && chkE b c y) (fun x r => chkE a c x && chkE b c r) = true) : PEp Φ X (.or a b) e := by
  rcases hOr_ok h with ⟨x, y, p, rfl, hh⟩ | ⟨x, y, z, r, p, rfl, hh⟩
  · obtain ⟨h1, h2⟩ := (Bool.and_eq_true _ _).mp hh
    exact s_orB (ha.e _ h1) (s_one (hb.e _ h2))
  · obtain ⟨h1, h2⟩ := (Bool.and_eq_true _ _).mp hh
    exact s_orB (ha.e _ h1) (hb.e _ h2)
theorem k_andT (ha : Snd Φ a c X) (hb : Snd Φ b c X) (h : hAnd e (fun x y => chkT a c x && chkT b c y) (fun x r => chkT a c x && chkT b c r) = true) : PWp Φ X (.and a b) e := by
  rcases hAnd_ok h with ⟨x, y, p, rfl, hh⟩ | ⟨x, y, z, r, p, rfl, hh⟩
  · obtain ⟨h1, h2⟩ := (Bool.and_eq_true _ _).mp hh
    exact t_and (ha.t _ h1).1 (t_one_and (hb.t _ h2).1)
  · obtain ⟨h1, h2⟩ := (Bool.and_eq_true _ _).mp hh
    exact t_and (ha.t _ h1).1 ((hb.t _ h2).2 ⟨_, _, _, rfl⟩)
theorem k_orT (ha : Snd Φ a c X) (hb : Snd Φ b c X) (h : hOr e (fun x y => chkT a c x && chkT b c y) (fun x r => chkT a c x && chkT b c r) = true) : PWp Φ X (.or a b) e := by
  rcases hOr_ok h with ⟨x, y, p, rfl, hh⟩ | ⟨x, y, z, r, p, rfl, hh⟩
  · obtain ⟨h1, h2⟩ := (Bool.and_eq_true _ _).mp hh
    exact t_or (ha.t _ h1).1 (t_one_or (hb.t _ h2).1)
  · obtain ⟨h1, h2⟩ := (Bool.and_eq_true _ _).mp hh
    exact t_or (ha.t _ h1).1 ((hb.t _ h2).2 ⟨_, _, _, rfl⟩)
theorem k_iter (K : CtxOk Φ c X) (ha : Snd Φ a c X) {bb : Bi} {tg : Expr} (h : hCall e (fun nm l => (match bb with
    | .range1 => decide (nm = "range") && c.bn "range" && decide (l.length = 1) && chkN a c l
    | .range2 => decide (nm = "range") && c.bn "range" && decide (l.length = 2) && chkN a c l
    | .enum => decide (nm = "enumerate") && c.bn "enumerate" && decide (l.length = 1) && hTup tg (fun _ => true) && chkN a c l
    | .zip => decide (nm = "zip") && c.bn "zip" && decide (l.length = 2) && hTup tg (fun _ => true) && chkN a c l
    | _ => false)) = true) : PIx Φ X (.bi bb a) tg e := by
  obtain ⟨nm, np, es, p, rfl, hh⟩ := hCall_ok h
  cases bb with
  | range1 =>
    simp only [Bool.and_eq_true] at hh
    obtain ⟨⟨⟨h1, h2⟩, h3⟩, h4⟩ := hh
    have e1 := of_decide_eq_true h1
    subst e1
    obtain ⟨g1, g2, g3, g4⟩ := bn_ok K h2
    have hl := of_decide_eq_true h3
    cases ha.n _ h4 with
    | nil => cases hl
    | cons k1 k2 k3 =>
      cases k3 with
      | nil => exact i_range1 k1 g1 g3 (star_one k2 _)
      | cons _ _ _ => simp at hl
  | range2 =>
    simp only [Bool.and_eq_true] at hh
    obtain ⟨⟨⟨h1, h2⟩, h3⟩, h4⟩ := hh
    have e1 := of_decide_eq_true h1
    subst e1
    obtain ⟨g1, g2, g3, g4⟩ := bn_ok K h2
    have hl := of_decide_eq_true h3
    cases ha.n _ h4 with
    | nil => cases hl
    | cons k1 k2 k3 =>
      cases k3 with
      | nil => simp at hl
      | cons k4 k5 k6 =>
        cases k6 with
        | nil => exact i_range2 k1 k4 g1 g3 (star_two k2 k5 _) (star_one k5 _)
        | cons _ _ _ => simp at hl
  | enum =>
    simp only [Bool.and_eq_true] at hh
    obtain ⟨⟨⟨⟨h1, h2⟩, h3⟩, h5⟩, h4⟩ := hh
    have e1 := of_decide_eq_true h1
    subst e1
    obtain ⟨g1, g2, g3, g4⟩ := bn_ok K h2
    have hl := of_decide_eq_true h3
    obtain ⟨elts, j, p2, rfl, _⟩ := hTup_ok h5
    cases ha.n _ h4 with
    | nil => cases hl
    | cons k1 k2 k3 =>
      cases k3 with
      | nil => exact i_enum k1 g1 g3 (star_one k2 _)
      | cons _ _ _ => simp at hl
  | zip =>
    simp only [Bool.and_eq_true] at hh
    obtain ⟨⟨⟨⟨h1, h2⟩, h3⟩, h5⟩, h4⟩ := hh
    have e1 := of_decide_eq_true h1
    subst e1
    obtain ⟨g1, g2, g3, g4⟩ := bn_ok K h2
    have hl := of_decide_eq_true h3
    obtain ⟨elts, j, p2, rfl, _⟩ := hTup_ok h5
    cases ha.n _ h4 with
    | nil => cases hl
    | cons k1 k2 k3 =>
      cases k3 with
      | nil => simp at hl
      | cons k4 k5 k6 =>
        cases k6 with
        | nil => exact i_zip k1 k4 g1 g3 (star_cons k2 _ _) (star_one k5 _)
        | cons _ _ _ => simp at hl
  | _ => cases hh
end
end Mi
/-! The check of expressions is sound. -/
namespace Mi
open PySem L2 PyProof.Rows

section
variable {Φ : Phi} {c : C} {X : Cx} {m : E}
/-- nothing but an expression -/
theorem Snd.ofE (he : ∀ x, chkE m c x = true → PEp Φ X m x) (ht : ∀ x, chkT m c x = true → False) (hl : ∀ x, chkL m c x = true → False) (ha : ∀ x, chkA m c x = true → False) (hk : ∀ x, chkK m c x = true → False) (hp : ∀ x, chkP m c x = true → False) (hc : ∀ x, chkC m c x = true → False)
    (hn : ∀ x, chkN m c x = true → False) (hi : ∀ x y, chkI m c x y = true → False) : Snd Φ m c X :=
  ⟨he, fun x h => (ht x h).elim, fun x h => (hl x h).elim, fun x h => (ha x h).elim, fun x h => (hk x h).elim, fun x h => (hp x h).elim, fun x h => (hc x h).elim, fun x h => (hn x h).elim, fun x y h => (hi x y h).elim⟩
theorem Snd.ofT (he : ∀ x, chkE m c x = true → PEp Φ X m x) (ht : ∀ x, chkT m c x = true → PTp Φ X m x ∧ ((∃ op vs p, x = .BoolOp op vs p) → PWp Φ X m x)) (hl : ∀ x, chkL m c x = true → False) (ha : ∀ x, chkA m c x = true → False) (hk : ∀ x, chkK m c x = true → False) (hp : ∀ x, chkP m c x = true → False) (hc : ∀ x, chkC m c x = true → False)
    (hn : ∀ x, chkN m c x = true → False) (hi : ∀ x y, chkI m c x y = true → False) : Snd Φ m c X :=
  ⟨he, ht, fun x h => (hl x h).elim, fun x h => (ha x h).elim, fun x h => (hk x h).elim, fun x h => (hp x h).elim, fun x h => (hc x h).elim, fun x h => (hn x h).elim, fun x y h => (hi x y h).elim⟩
theorem isNil_ok {b : E} (h : isNil b = true) : b = .nil := by
  cases b <;> first | rfl | cases h
theorem noBool_sub {e x y : Expr} {p : Pos} (h : e = .Subscript x y p) : ¬ ∃ op vs p, e = .BoolOp op vs p := fun ⟨_, _, _, z⟩ => by
  rw [h] at z
  cases z
end

theorem snd (Φ : Phi) : ∀ (m : E) (c : C) (X : Cx), CtxOk Φ c X → Snd Φ m c X := by
  intro m
  induction m with
  | var i =>
    intro c X K
    refine .ofE (fun x h => ?_) ?_ ?_ ?_ ?_ ?_ ?_ ?_ ?_
    · obtain ⟨nm, p, rfl, hh⟩ := hName_ok (show hName x (c.ld i) = true from h)
      obtain ⟨h1, h2, h3, h4⟩ := ld_ok K hh
      exact s_var h1 h2 h3 h4
    all_goals (intro x; first | (intro h; cases h; done) | (intro y h; cases h; done))
  | mv i =>
    intro c X K
    refine .ofE (fun x h => ?_) ?_ ?_ ?_ ?_ ?_ ?_ ?_ ?_
    · obtain ⟨nm, p, rfl, hh⟩ := hName_ok (show hName x (c.ld i) = true from h)
      obtain ⟨h1, h2, h3, h4⟩ := ld_ok K hh
      exact s_mv h1 h2 h3 h4
    all_goals (intro x; first | (intro h; cases h; done) | (intro y h; cases h; done))
  | ref i =>
    intro c X K
    refine .ofT ?_ (fun x h => ?_) ?_ ?_ ?_ ?_ ?_ ?_ ?_
    · intro x h
      cases h
    · obtain ⟨nm, p, rfl, hh⟩ := hName_ok (show hName x (c.ld i) = true from h)
      obtain ⟨h1, h2, h3, h4⟩ := ld_ok K hh
      exact ⟨t_refT h1 h2 h3 h4 (truthy_of rfl), fun ⟨_, _, _, z⟩ => by cases z⟩
    all_goals (intro x; first | (intro h; cases h; done) | (intro y h; cases h; done))
  | lend i =>
    intro c X K
    refine ⟨?_, ?_, ?_, ?_, ?_, ?_, ?_, ?_, fun tg it h => ?_⟩
    · intro x h; cases h
    · intro x h; cases h
    · intro x h; cases h
    · intro x h; cases h
    · intro x h; cases h
    · intro x h; cases h
    · intro x h; cases h
    · intro x h; cases h
    · obtain ⟨nm, p, rfl, hh⟩ := hName_ok (show hName it (c.ld i) = true from h)
      obtain ⟨h1, h2, h3, h4⟩ := ld_ok K hh
      exact i_lend h1 h2 h3 h4
  | lit d =>
    intro c X K
    refine .ofE (fun x h => ?_) ?_ ?_ ?_ ?_ ?_ ?_ ?_ ?_
    · obtain ⟨k, j, p, rfl, hh⟩ := hConst_ok (show hConst x (litB d) = true from h)
      exact lit_ok hh
    all_goals (intro x; first | (intro h; cases h; done) | (intro y h; cases h; done))
  | glob g d =>
    intro c X K
    refine .ofE (fun x h => k_glob K h) ?_ ?_ ?_ ?_ ?_ ?_ ?_ ?_
    all_goals (intro x; first | (intro h; cases h; done) | (intro y h; cases h; done))
  | bin op a b iha ihb =>
    intro c X K
    refine .ofE (fun x h => ?_) ?_ ?_ ?_ ?_ ?_ ?_ ?_ ?_
    · obtain ⟨x, op', y, p, rfl, hh⟩ := hBin_ok (show hBin x (fun x op' y => decide (op = op') && opK c a x (chkE a c x) && opK c b y (chkE b c y)) = true from h)
      simp only [Bool.and_eq_true] at hh
      obtain ⟨⟨h1, h2⟩, h3⟩ := hh
      have e1 := of_decide_eq_true h1
      subst e1
      exact s_bin K.op (opK_ok K (iha c X K) h2) (opK_ok K (ihb c X K) h3)
    all_goals (intro x; first | (intro h; cases h; done) | (intro y h; cases h; done))
  | neg a iha =>
    intro c X K
    refine .ofE (fun x h => ?_) ?_ ?_ ?_ ?_ ?_ ?_ ?_ ?_
    · obtain ⟨x, p, rfl, hh⟩ := hNeg_ok (show hNeg x (chkE a c) = true from h)
      exact s_neg ((iha c X K).e _ hh)
    all_goals (intro x; first | (intro h; cases h; done) | (intro y h; cases h; done))
  | cmp op a b iha ihb =>
    intro c X K
    refine .ofT (fun x h => (k_cmpE K (iha c X K) (ihb c X K) h).1) (fun x h => ⟨(k_cmpE K (iha c X K) (ihb c X K) h).2, fun ⟨_, _, _, z⟩ => ?_⟩) ?_ ?_ ?_ ?_ ?_ ?_ ?_
    · obtain ⟨_, _, _, _, e1, _⟩ := hCmp_ok (show hCmp x _ = true from h)
      rw [e1] at z
      cases z
    all_goals (intro x; first | (intro h; cases h; done) | (intro y h; cases h; done))
  | chain o1 o2 a b d iha ihb ihd =>
    intro c X K
    refine .ofT (fun x h => (k_chain K (iha c X K) (ihb c X K) (ihd c X K) h).1) (fun x h => ⟨(k_chain K (iha c X K) (ihb c X K) (ihd c X K) h).2, fun ⟨_, _, _, z⟩ => ?_⟩) ?_ ?_ ?_ ?_ ?_ ?_ ?_
    · obtain ⟨_, _, _, _, _, _, e1, _⟩ := hCmp2_ok (show hCmp2 x _ = true from h)
      rw [e1] at z
      cases z
    all_goals (intro x; first | (intro h; cases h; done) | (intro y h; cases h; done))
  | and a b iha ihb =>
    intro c X K
    refine .ofT (fun x h => k_and (iha c X K) (ihb c X K) h) (fun x h => ⟨t_pw (k_andT (iha c X K) (ihb c X K) h), fun _ => k_andT (iha c X K) (ihb c X K) h⟩) ?_ ?_ ?_ ?_ ?_ ?_ ?_
    all_goals (intro x; first | (intro h; cases h; done) | (intro y h; cases h; done))
  | or a b iha ihb =>
    intro c X K
    refine .ofT (fun x h => k_or (iha c X K) (ihb c X K) h) (fun x h => ⟨t_pw (k_orT (iha c X K) (ihb c X K) h), fun _ => k_orT (iha c X K) (ihb c X K) h⟩) ?_ ?_ ?_ ?_ ?_ ?_ ?_
    all_goals (intro x; first | (intro h; cases h; done) | (intro y h; cases h; done))
  | not a iha =>
    intro c X K
    refine .ofT (fun x h => ?_) (fun x h => ?_) ?_ ?_ ?_ ?_ ?_ ?_ ?_
    · obtain ⟨x, p, rfl, hh⟩ := hNot_ok (show hNot x (chkE a c) = true from h)
      exact s_not ((iha c X K).e _ hh)
    · obtain ⟨x, p, rfl, hh⟩ := hNot_ok (show hNot x (chkT a c) = true from h)
      exact ⟨t_not ((iha c X K).t _ hh).1, fun ⟨_, _, _, z⟩ => by cases z⟩
    all_goals (intro x; first | (intro h; cases h; done) | (intro y h; cases h; done))
  | ife t a b iht iha ihb =>
    intro c X K
    refine .ofE (fun x h => ?_) ?_ ?_ ?_ ?_ ?_ ?_ ?_ ?_
    · obtain ⟨z, x, y, p, rfl, hh⟩ := hIf_ok (show hIf x (fun z x y => chkT t c z && chkE a c x && chkE b c y) = true from h)
      simp only [Bool.and_eq_true] at hh
      exact s_ife ((iht c X K).t _ hh.1.1).1 ((iha c X K).e _ hh.1.2) ((ihb c X K).e _ hh.2)
    all_goals (intro x; first | (intro h; cases h; done) | (intro y h; cases h; done))
  | tup es ih =>
    intro c X K
    refine .ofE (fun x h => ?_) ?_ ?_ ?_ ?_ ?_ ?_ ?_ ?_
    · obtain ⟨l, j, p, rfl, hh⟩ := hTup_ok (show hTup x (fun l => chkA es c l) = true from h)
      exact s_tup ((ih c X K).a _ hh)
    all_goals (intro x; first | (intro h; cases h; done) | (intro y h; cases h; done))
  | lst es ih =>
    intro c X K
    refine .ofE (fun x h => ?_) ?_ ?_ ?_ ?_ ?_ ?_ ?_ ?_
    · obtain ⟨l, p, rfl, hh⟩ := hLst_ok (show hLst x (fun l => chkA es c l) = true from h)
      exact s_lst ((ih c X K).a _ hh)
    all_goals (intro x; first | (intro h; cases h; done) | (intro y h; cases h; done))
  | dnew =>
    intro c X K
    refine .ofE (fun x h => ?_) ?_ ?_ ?_ ?_ ?_ ?_ ?_ ?_
    · obtain ⟨p, rfl⟩ := hDict0_ok (show hDict0 x = true from h)
      exact s_dnew
    all_goals (intro x; first | (intro h; cases h; done) | (intro y h; cases h; done))
  | ix a b iha ihb =>
    intro c X K
    refine .ofT (fun x h => (k_ix K (iha c X K) (ihb c X K) h).1) (fun x h => ⟨t_ixT (k_ix K (iha c X K) (ihb c X K) h).1 (k_ix K (iha c X K) (ihb c X K) h).2, fun ⟨_, _, _, z⟩ => ?_⟩) ?_ ?_ ?_ ?_ ?_ ?_ ?_
    · obtain ⟨_, _, _, e1, _⟩ := hSub_ok (show hSub x _ = true from h)
      rw [e1] at z
      cases z
    all_goals (intro x; first | (intro h; cases h; done) | (intro y h; cases h; done))
  | slc a lo hi iha ihl ihh =>
    intro c X K
    refine .ofE (fun x h => ?_) ?_ ?_ ?_ ?_ ?_ ?_ ?_ ?_
    · obtain ⟨x, l, u, p2, p, rfl, hh⟩ := hSlc_ok (show hSlc x (fun x l u => opK c a x (chkE a c x) && chkP lo c l && chkP hi c u) = true from h)
      simp only [Bool.and_eq_true] at hh
      exact s_slc (opK_ok K (iha c X K) hh.1.1) ((ihl c X K).p _ hh.1.2) ((ihh c X K).p _ hh.2)
    all_goals (intro x; first | (intro h; cases h; done) | (intro y h; cases h; done))
  | call f es ih =>
    intro c X K
    refine .ofT (fun x h => (k_call K (ih c X K) h).1) (fun x h => ⟨t_callT (k_call K (ih c X K) h).1 (k_call K (ih c X K) h).2, fun ⟨_, _, _, z⟩ => ?_⟩) ?_ ?_ ?_ ?_ ?_ ?_ ?_
    · obtain ⟨_, _, _, _, e1, _⟩ := hCall_ok (show hCall x _ = true from h)
      rw [e1] at z
      cases z
    all_goals (intro x; first | (intro h; cases h; done) | (intro y h; cases h; done))
  | callk f pm es ih =>
    intro c X K
    refine .ofT (fun x h => (k_callk K (ih c X K) h).1) (fun x h => ⟨t_callkT (k_callk K (ih c X K) h).1 (k_callk K (ih c X K) h).2, fun ⟨_, _, _, z⟩ => ?_⟩) ?_ ?_ ?_ ?_ ?_ ?_ ?_
    · obtain ⟨_, _, _, _, e1, _⟩ := hCallK_ok (show hCallK x _ = true from h)
      rw [e1] at z
      cases z
    all_goals (intro x; first | (intro h; cases h; done) | (intro y h; cases h; done))
  | bi b es ih =>
    intro c X K
    refine ⟨fun x h => (k_bi K (ih c X K) h).1, fun x h => ⟨t_biT (k_bi K (ih c X K) h).1 (k_bi K (ih c X K) h).2, fun ⟨_, _, _, z⟩ => ?_⟩, ?_, ?_, ?_, ?_, ?_, ?_, fun tg it h => k_iter K (ih c X K) h⟩
    · obtain ⟨_, _, _, _, e1, _⟩ := hCall_ok (show hCall x _ = true from h)
      rw [e1] at z
      cases z
    all_goals (intro x; first | (intro h; cases h; done) | (intro y h; cases h; done))
  | isi a ts iha =>
    intro c X K
    refine .ofT (fun x h => (k_isi K (iha c X K) h).1) (fun x h => ⟨t_isi (k_isi K (iha c X K) h).1 (k_isi K (iha c X K) h).2, fun ⟨_, _, _, z⟩ => ?_⟩) ?_ ?_ ?_ ?_ ?_ ?_ ?_
    · obtain ⟨_, _, _, _, e1, _⟩ := hCall_ok (show hCall x _ = true from h)
      rw [e1] at z
      cases z
    all_goals (intro x; first | (intro h; cases h; done) | (intro y h; cases h; done))
  | rg1 t a iha =>
    intro c X K
    refine .ofE (fun x h => k_rg1 K (iha c X K) h) ?_ ?_ ?_ ?_ ?_ ?_ ?_ ?_
    all_goals (intro x; first | (intro h; cases h; done) | (intro y h; cases h; done))
  | rg2 t a b iha ihb =>
    intro c X K
    refine .ofE (fun x h => k_rg2 K (iha c X K) (ihb c X K) h) ?_ ?_ ?_ ?_ ?_ ?_ ?_ ?_
    all_goals (intro x; first | (intro h; cases h; done) | (intro y h; cases h; done))
  | srtl a iha =>
    intro c X K
    refine .ofE (fun x h => k_srtl K (iha c X K) h) ?_ ?_ ?_ ?_ ?_ ?_ ?_ ?_
    all_goals (intro x; first | (intro h; cases h; done) | (intro y h; cases h; done))
  | dctp a iha =>
    intro c X K
    refine .ofE (fun x h => k_dctp K (iha c X K) h) ?_ ?_ ?_ ?_ ?_ ?_ ?_ ?_
    all_goals (intro x; first | (intro h; cases h; done) | (intro y h; cases h; done))
  | lset a iha =>
    intro c X K
    refine .ofE (fun x h => k_lset K (iha c X K) h) ?_ ?_ ?_ ?_ ?_ ?_ ?_ ?_
    all_goals (intro x; first | (intro h; cases h; done) | (intro y h; cases h; done))
  | frz a iha =>
    intro c X K
    refine .ofE (fun x h => s_frz ((iha c X K).e _ h)) ?_ ?_ ?_ ?_ ?_ ?_ ?_ ?_
    all_goals (intro x; first | (intro h; cases h; done) | (intro y h; cases h; done))
  | pop i =>
    intro c X K
    refine .ofE (fun x h => k_pop K h) ?_ ?_ ?_ ?_ ?_ ?_ ?_ ?_
    all_goals (intro x; first | (intro h; cases h; done) | (intro y h; cases h; done))
  | popi i a iha =>
    intro c X K
    refine .ofE (fun x h => k_popi K (iha c X K) h) ?_ ?_ ?_ ?_ ?_ ?_ ?_ ?_
    all_goals (intro x; first | (intro h; cases h; done) | (intro y h; cases h; done))
  | repL es ih =>
    intro c X K
    refine .ofE (fun x h => k_repL K (ih c X K) h) ?_ ?_ ?_ ?_ ?_ ?_ ?_ ?_
    all_goals (intro x; first | (intro h; cases h; done) | (intro y h; cases h; done))
  | get1 o k iho ihk =>
    intro c X K
    refine .ofE (fun x h => k_get1 K (iho c X K) (ihk c X K) h) ?_ ?_ ?_ ?_ ?_ ?_ ?_ ?_
    all_goals (intro x; first | (intro h; cases h; done) | (intro y h; cases h; done))
  | get2 o k d iho ihk ihd =>
    intro c X K
    refine .ofE (fun x h => k_get2 K (iho c X K) (ihk c X K) (ihd c X K) h) ?_ ?_ ?_ ?_ ?_ ?_ ?_ ?_
    all_goals (intro x; first | (intro h; cases h; done) | (intro y h; cases h; done))
  | lc own tg it cond elt _ ihi ihc ihe =>
    intro c X K
    refine .ofE (fun x h => k_lc K (ihi c X K) (ihi c) ihc ihe h) ?_ ?_ ?_ ?_ ?_ ?_ ?_ ?_
    all_goals (intro x; first | (intro h; cases h; done) | (intro y h; cases h; done))
  | dc own tg it cond k v _ ihi ihc ihk ihv =>
    intro c X K
    refine .ofE (fun x h => k_dc K (ihi c X K) ihc ihk ihv h) ?_ ?_ ?_ ?_ ?_ ?_ ?_ ?_
    all_goals (intro x; first | (intro h; cases h; done) | (intro y h; cases h; done))
  | lc2 own own1 tg it cond tg1 i1 cond1 elt _ ihi ihc _ ihc1 ihe =>
    intro c X K
    refine .ofE (fun x h => k_lc2 K (ihi c X K) ihc ihc1 ihe h) ?_ ?_ ?_ ?_ ?_ ?_ ?_ ?_
    all_goals (intro x; first | (intro h; cases h; done) | (intro y h; cases h; done))
  | nil =>
    intro c X K
    refine ⟨?_, ?_, fun es h => ?_, fun es h => ?_, fun es h => ?_, fun es h => ?_, fun es h => ?_, fun es h => ?_, ?_⟩
    · intro x h; cases h
    · intro x h; cases h
    · cases es with
      | nil => exact s_nilL
      | cons _ _ => cases h
    · cases es with
      | nil => exact s_nilA
      | cons _ _ => cases h
    · cases es with
      | nil => exact s_nilK
      | cons _ _ => cases h
    · cases es with
      | none => exact p_none
      | some _ => cases h
    · cases es with
      | nil => exact c_nil
      | cons _ _ => cases h
    · cases es with
      | nil => exact .nil
      | cons _ _ => cases h
    · intro x y h; cases h
  | cons a b iha ihb =>
    intro c X K
    refine ⟨?_, ?_, fun es h => ?_, fun es h => ?_, fun es h => ?_, fun es h => ?_, fun es h => ?_, fun es h => ?_, fun tg it h => ?_⟩
    · intro x h; cases h
    · intro x h; cases h
    · cases es with
      | nil => cases h
      | cons x r =>
        have h' : (noStar x && opK c a x (chkE a c x) && chkL b c r) = true := h
        simp only [Bool.and_eq_true] at h'
        exact s_consL (opK_ok K (iha c X K) h'.1.2) ((ihb c X K).l _ h'.2) (star_cons h'.1.1 _ _)
    · cases es with
      | nil => cases h
      | cons x r =>
        have h' : (noStar x && chkE a c x && chkA b c r) = true := h
        simp only [Bool.and_eq_true] at h'
        exact s_consA ((iha c X K).e _ h'.1.2) ((ihb c X K).a _ h'.2) (star_cons h'.1.1 _ _)
    · cases es with
      | nil => cases h
      | cons x r =>
        obtain ⟨n, x, p⟩ := x
        have h' : (opK c a x (chkE a c x) && chkK b c r) = true := h
        simp only [Bool.and_eq_true] at h'
        exact s_consK (opK_ok K (iha c X K) h'.1) ((ihb c X K).k _ h'.2)
    · cases es with
      | none =>
        have h' : (isNil b && false) = true := h
        simp at h'
      | some x =>
        have h' : (isNil b && chkE a c x) = true := h
        simp only [Bool.and_eq_true] at h'
        have e1 := isNil_ok h'.1
        subst e1
        exact p_some ((iha c X K).e _ h'.2)
    · match es, h with
      | [x], h =>
        have h' : (isNil b && chkT a c x) = true := h
        simp only [Bool.and_eq_true] at h'
        have e1 := isNil_ok h'.1
        subst e1
        exact c_one ((iha c X K).t _ h'.2).1
      | [], h =>
        have h' : (isNil b && false) = true := h
        simp at h'
      | _ :: _ :: _, h =>
        have h' : (isNil b && false) = true := h
        simp at h'
    · cases es with
      | nil => cases h
      | cons x r =>
        have h' : (noStar x && chkE a c x && chkN b c r) = true := h
        simp only [Bool.and_eq_true] at h'
        exact .cons ((iha c X K).e _ h'.1.2) h'.1.1 ((ihb c X K).n _ h'.2)
    · have h' : (isNil b && chkE a c it) = true := h
      simp only [Bool.and_eq_true] at h'
      have e1 := isNil_ok h'.1
      subst e1
      exact i_seq ((iha c X K).e _ h'.2)
end Mi
/-! The check of statements. -/
namespace Mi
open PySem L2 PyProof.Rows

/-! ### shapes of statements -/
def hAsg (s : Stmt) (k : Expr → Expr → Bool) : Bool := match s with
  | .Assign [t] x _ => k t x
  | _ => false
theorem hAsg_ok {s : Stmt} {k : Expr → Expr → Bool} (h : hAsg s k = true) : ∃ t x p, s = .Assign [t] x p ∧ k t x = true := by
  unfold hAsg at h
  split at h
  · exact ⟨_, _, _, rfl, h⟩
  · cases h
def hExpr (s : Stmt) (k : Expr → Bool) : Bool := match s with
  | .Expr x _ => k x
  | _ => false
theorem hExpr_ok {s : Stmt} {k : Expr → Bool} (h : hExpr s k = true) : ∃ x p, s = .Expr x p ∧ k x = true := by
  unfold hExpr at h
  split at h
  · exact ⟨_, _, rfl, h⟩
  · cases h
def hIfS (s : Stmt) (k : Expr → List Stmt → List Stmt → Bool) : Bool := match s with
  | .If z a b _ => k z a b
  | _ => false
theorem hIfS_ok {s : Stmt} {k : Expr → List Stmt → List Stmt → Bool} (h : hIfS s k = true) : ∃ z a b p, s = .If z a b p ∧ k z a b = true := by
  unfold hIfS at h
  split at h
  · exact ⟨_, _, _, _, rfl, h⟩
  · cases h
def hWhile (s : Stmt) (k : Expr → List Stmt → Bool) : Bool := match s with
  | .While z a [] _ => k z a
  | _ => false
theorem hWhile_ok {s : Stmt} {k : Expr → List Stmt → Bool} (h : hWhile s k = true) : ∃ z a p, s = .While z a [] p ∧ k z a = true := by
  unfold hWhile at h
  split at h
  · exact ⟨_, _, _, rfl, h⟩
  · cases h
def hFor (s : Stmt) (k : Expr → Expr → List Stmt → Bool) : Bool := match s with
  | .For t i a [] _ => k t i a
  | _ => false
theorem hFor_ok {s : Stmt} {k : Expr → Expr → List Stmt → Bool} (h : hFor s k = true) : ∃ t i a p, s = .For t i a [] p ∧ k t i a = true := by
  unfold hFor at h
  split at h
  · exact ⟨_, _, _, _, rfl, h⟩
  · cases h
def hRet (s : Stmt) (k : Option Expr → Bool) : Bool := match s with
  | .Return x _ => k x
  | _ => false
theorem hRet_ok {s : Stmt} {k : Option Expr → Bool} (h : hRet s k = true) : ∃ x p, s = .Return x p ∧ k x = true := by
  unfold hRet at h
  split at h
  · exact ⟨_, _, rfl, h⟩
  · cases h
def hAug (s : Stmt) (k : Str → Operator → Expr → Bool) : Bool := match s with
  | .AugAssign (.Name nm _) op x _ => k nm op x
  | _ => false
theorem hAug_ok {s : Stmt} {k : Str → Operator → Expr → Bool} (h : hAug s k = true) : ∃ nm p2 op x p, s = .AugAssign (.Name nm p2) op x p ∧ k nm op x = true := by
  unfold hAug at h
  split at h
  · exact ⟨_, _, _, _, _, rfl, h⟩
  · cases h
def isPass (s : Stmt) : Bool := match s with
  | .Pass _ => true
  | _ => false
def isBrk (s : Stmt) : Bool := match s with
  | .Break _ => true
  | _ => false
def isCnt (s : Stmt) : Bool := match s with
  | .Continue _ => true
  | _ => false
def isFgt : S → Bool
  | .fgt _ => true
  | _ => false

/-! ### side conditions -/
theorem sub_asg {o y : Expr} {p : Pos} (h : notSlice y = true) (env : Env) : ∀ v, assign (.Subscript o y p) env v = (do
      let ov ← holding [v] (eval o env)
      let iv ← holding [v, ov] (eval y env)
      standAt p
      holding [v, ov, iv] (setItem ov iv v)
      release [v, ov, iv] []) := by
  intro v
  cases y <;> first | rfl | cases h
def swB (c : C) (nm : Str) (l1 l2 : Nat) (scope : Scope) : Bool := lkB c.sc nm [.local] && (l1 == l2) && !(scope.names.any fun (n, k) => n == nm && (k == .local || k == .cell))
theorem lkB_loc {Φ : Phi} {c : C} {X : Cx} (K : CtxOk Φ c X) (nm : Str) : (X.env.kindOf nm == some .local) = lkB c.sc nm [.local] := by
  unfold Env.kindOf lkB
  rw [K.sc]
  cases c.sc.names.lookup nm with
  | none => rfl
  | some k => cases k <;> rfl
theorem blockFn {Φ : Phi} {c : C} {X : Cx} (K : CtxOk Φ c X) : (X.env.blockKind == .function) = true := by
  unfold Env.blockKind
  rw [K.sc, K.kind]
  rfl
theorem sw_lc {Φ : Phi} {c : C} {X : Cx} (K : CtxOk Φ c X) {elt : Expr} {gs : List Comprehension} {scope : Scope} {p p2 : Pos} {nm : Str} {l : Nat} : swapsWith (.ListComp elt gs scope p) (some (.Name nm p2)) l X.env = pure (swB c nm p2.line p.line scope) := by
  unfold swapsWith
  simp only [blockFn K, lkB_loc K, Bool.true_and, Expr.pos]
  rfl
theorem sw_dc {Φ : Phi} {c : C} {X : Cx} (K : CtxOk Φ c X) {kx vx : Expr} {gs : List Comprehension} {scope : Scope} {p p2 : Pos} {nm : Str} {l : Nat} : swapsWith (.DictComp kx vx gs scope p) (some (.Name nm p2)) l X.env = pure (swB c nm p2.line p.line scope) := by
  unfold swapsWith
  simp only [blockFn K, lkB_loc K, Bool.true_and, Expr.pos]
  rfl
/-- name = x stores as one reads it -/
def setB (c : C) (t x : Expr) : Bool := match t with
  | .Name nm p2 => (match x with
    | .ListComp _ _ scope p => !swB c nm p2.line p.line scope
    | .DictComp _ _ _ scope p => !swB c nm p2.line p.line scope
    | .SetComp _ _ _ _ => false
    | _ => true)
  | _ => true
theorem setB_ok {Φ : Phi} {c : C} {X : Cx} (K : CtxOk Φ c X) {t x : Expr} (h : setB c t x = true) (l : Nat) : swapsWith x (some t) l X.env = pure false := by
  unfold setB at h
  split at h
  · split at h
    · rw [sw_lc K]
      rw [(Bool.not_eq_true' _).mp h]
    · rw [sw_dc K]
      rw [(Bool.not_eq_true' _).mp h]
    · cases h
    · rename_i h1 h2 h3
      refine sw_plain ?_ _ _ _
      cases x <;> first | rfl | exact (h1 _ _ _ _ rfl).elim | exact (h2 _ _ _ _ _ rfl).elim | exact (h3 _ _ _ _ rfl).elim
  · rename_i h1
    refine sw_other ?_ _ _
    cases t <;> first | rfl | exact (h1 _ _ rfl).elim
/-- a row of stores goes from the left -/
def strB (c : C) (t x : Expr) : Bool := match t with
  | .Tuple ts _ _ => (match x with
    | .Tuple vs _ _ => (match swC c.sc ts vs with
      | some none => true
      | _ => false)
    | _ => true)
  | .List _ _ => false
  | _ => true
theorem strB_ok {Φ : Phi} {c : C} {X : Cx} (K : CtxOk Φ c X) {t x : Expr} (h : strB c t x = true) : swappedStores [t] x X.env = pure none := by
  unfold strB at h
  split at h
  · split at h
    · split at h
      · rename_i hs
        exact swC_ok K.sc K.kind hs
      · cases h
    · rename_i h1
      refine stores_none ?_ _
      cases x <;> first | rfl | exact (h1 _ _ _ rfl).elim
  · cases h
  · rename_i h1 h2
    refine stores_none ?_ _
    cases t <;> first | rfl | exact (h1 _ _ _ rfl).elim | exact (h2 _ _ rfl).elim
def asgLc (c : C) (i : Nat) (t x : Expr) : Bool := match t, x with
  | .Name nm p2, .ListComp _ _ scope p => decide (c.N[i]? = some nm) && swB c nm p2.line p.line scope
  | _, _ => false

def notTup (e : Expr) : Bool := match e with
  | .Tuple _ _ _ => false
  | _ => true
mutual
def chkS : S → C → Stmt → Bool
  | .skip, _, s => isPass s
  | .never, _, _ => true
  | .asg tg e, c, s => hAsg s fun t x => (chkG tg c t && chkE e c x && setB c t x && strB c t x) || (match tg, e with
    | .ref i, .lc own mt mi mc me => asgLc c i t x && chkE (.lc own mt mi mc me) c x
    | .ref i, .frz (.lc own mt mi mc me) => asgLc c i t x && chkE (.lc own mt mi mc me) c x
    | .ref i, .lc2 own own1 mt mi mc mt1 i1 mc1 me => asgLc c i t x && chkE (.lc2 own own1 mt mi mc mt1 i1 mc1 me) c x
    | .ref i, .frz (.lc2 own own1 mt mi mc mt1 i1 mc1 me) => asgLc c i t x && chkE (.lc2 own own1 mt mi mc mt1 i1 mc1 me) c x
    | _, _ => false)
  | .par i j a b, c, s => hAsg s fun t x => (match t, x with
    | .Tuple [.Name n1 q1, .Name n2 q2] _ _, .Tuple [x, y] _ _ => decide (c.N[i]? = some n1) && decide (c.N[j]? = some n2) && lkB c.sc n1 [.local] && lkB c.sc n2 [.local] && noStar x && noStar y && decide (swC c.sc [.Name n1 q1, .Name n2 q2] [x, y] = some (some [n1, n2])) && chkE a c x && chkE b c y
    | _, _ => false)
  | .par3 i j k a b d, c, s => hAsg s fun t x => (match t, x with
    | .Tuple [.Name n1 q1, .Name n2 q2, .Name n3 q3] _ _, .Tuple [x, y, z] _ _ => decide (c.N[i]? = some n1) && decide (c.N[j]? = some n2) && decide (c.N[k]? = some n3) && lkB c.sc n1 [.local] && lkB c.sc n2 [.local] && lkB c.sc n3 [.local] && noStar x && noStar y && noStar z &&
      decide (swC c.sc [.Name n1 q1, .Name n2 q2, .Name n3 q3] [x, y, z] = some (some [n1, n2, n3])) && chkE a c x && chkE b c y && chkE d c z
    | _, _ => false)
  | .sub i k e, c, s => hAsg s fun t x => hSub t fun o y => hName o (c.ld i) && notComp x && chkE e c x && chkE k c y
  | .sbp i k j e, c, s => hAsg s fun t x => (match t with
    | .Tuple [o, .Name n2 _] _ _ => notComp x && notTup x && c.st j n2 && (hSub o fun o2 y => hName o2 (c.ld i) && chkE k c y) && chkE e c x
    | _ => false)
  | .app i e, c, s => hExpr s fun x => hMeth x fun o m l => decide (m = "append") && hName o (c.ld i) && (match l with
    | [y] => noStar y && chkE e c y
    | _ => false)
  | .ext i e, c, s => hExpr s fun x => hMeth x fun o m l => decide (m = "extend") && hName o (c.ld i) && (match l with
    | [y] => noStar y && chkE e c y
    | _ => false)
  | .app1 i k e, c, s => hExpr s fun x => hMeth x fun o m l => decide (m = "append") && (hSub o fun o2 y => hName o2 (c.ld i) && chkE k c y) && (match l with
    | [y] => noStar y && chkE e c y
    | _ => false)
  | .expr e, c, s => hExpr s fun x => notComp x && chkE e c x
  | .ife t a b, c, s => hIfS s fun z l r => chkT t c z && chkB a c l && chkB b c r
  | .whil t b, c, s => hWhile s fun z l => chkT t c z && chkB b c l
  | .forr tg it b, c, s => hFor s fun t i l => notSet i && chkI it c t i && chkG tg c t && chkB b c l
  | .ret e, c, s => hRet s fun o => (match o with
    | some x => chkE e c x
    | none => false)
  | .retn, c, s => hRet s fun o => o.isNone
  | .brk, _, s => isBrk s
  | .cnt, _, s => isCnt s
  | .aug i op e, c, s => hAug s fun nm op' x => decide (op = op') && c.st i nm && chkE e c x
  | _, _, _ => false
def chkB : S → C → List Stmt → Bool
  | .skip, _, l => l.isEmpty
  | .never, _, _ => true
  | .seq a b, c, l => if isFgt a then chkB b c l else (match l with
    | s :: r => chkS a c s && chkB b c r
    | [] => false)
  | _, _, _ => false
end

/-! ### what the checks are worth -/
structure SndS (Φ : Phi) (m : S) (c : C) (X : Cx) : Prop where
  s : ∀ st, chkS m c st = true → PSp Φ X m st
  b : ∀ l, chkB m c l = true → PBp Φ X m l
section
variable {Φ : Phi} {c : C} {X : Cx} {i j k : Nat} {st : Stmt}
theorem nm_ok (K : CtxOk Φ c X) {n : Str} (h : decide (c.N[i]? = some n) = true) : X.N[i]? = some n := by
  rw [K.N]
  exact of_decide_eq_true h
theorem loc_ok (K : CtxOk Φ c X) {n : Str} (h : lkB c.sc n [.local] = true) : X.env.scope.names.lookup n = some .local := by
  rw [K.sc]
  obtain ⟨k, hk, e⟩ := lkB_some h
  simp only [List.mem_cons, List.mem_nil_iff, or_false] at hk
  subst hk
  exact e
theorem sole_plain {t e : Expr} (h : notComp e = true) (l : Nat) (env : Env) : swapsWithSole [t] e l env = pure false := sw_plain h (some t) l env
theorem k_asg (K : CtxOk Φ c X) {tg e : E} (h : hAsg st (fun t x => (chkG tg c t && chkE e c x && setB c t x && strB c t x) || (match tg, e with
    | .ref i, .lc own mt mi mc me => asgLc c i t x && chkE (.lc own mt mi mc me) c x
    | .ref i, .frz (.lc own mt mi mc me) => asgLc c i t x && chkE (.lc own mt mi mc me) c x
    | .ref i, .lc2 own own1 mt mi mc mt1 i1 mc1 me => asgLc c i t x && chkE (.lc2 own own1 mt mi mc mt1 i1 mc1 me) c x
    | .ref i, .frz (.lc2 own own1 mt mi mc mt1 i1 mc1 me) => asgLc c i t x && chkE (.lc2 own own1 mt mi mc mt1 i1 mc1 me) c x
    | _, _ => false)) = true) : PSp Φ X (.asg tg e) st := by
  obtain ⟨t, x, p, rfl, hh⟩ := hAsg_ok h
  have se := snd Φ e c X K
  have nd : X.N.Nodup := by rw [K.N]; exact K.nd
  rcases (Bool.or_eq_true _ _).mp hh with hh | hh
  · simp only [Bool.and_eq_true] at hh
    obtain ⟨⟨⟨h1, h2⟩, h3⟩, h4⟩ := hh
    obtain ⟨g1, g2⟩ := g_ok K h1
    exact p_asg (se.e _ h2) g1 (setB_ok K h3 _) (strB_ok K h4) (asg_cons g2 _ _)
  · split at hh
    · rename_i i own mt mi mc me _
      obtain ⟨h1, h2⟩ := (Bool.and_eq_true _ _).mp hh
      unfold asgLc at h1
      split at h1
      · rename_i nm p2 elt gens scope p3 _
        obtain ⟨h3, h4⟩ := (Bool.and_eq_true _ _).mp h1
        obtain ⟨ex, tgx, itx, ifs, scope', p', e1, hb⟩ := hLc_ok (show hLc (.ListComp elt gens scope p3) _ = true from h2)
        cases e1
        simp only [Bool.and_eq_true] at hb
        obtain ⟨⟨⟨⟨⟨⟨b1, b2⟩, b3⟩, b4⟩, b5⟩, b6⟩, b7⟩ := hb
        have ok := blk_ok b1
        have Kb : ∀ (s : Shared) (H : Hp) (C : Addr) (cl : List (Str × Addr)) (fp : List Addr), CtxOk Φ (c.blk scope) (X.blk s H scope (compEnvC scope cl C X.env) fp) := fun s H C cl fp => K.blk ok.kind s H C cl fp
        have ok' : BlkOk X.N X.env.scope scope (ownN c own) := by
          rw [K.N, K.sc]
          exact ok
        have hloc : lkB c.sc nm [.local] = true := by
          unfold swB at h4
          simp only [Bool.and_eq_true] at h4
          exact h4.1.1
        have := p_setLc (Φ := Φ) (i := i) (nm := nm) (p2 := p2) (p3 := p3) (pos := p) (own := ownN c own) (mt := mt) (mi := mi) (mc := mc) (me := me) K.op nd (nm_ok K h3) (loc_ok K hloc) (by rw [sw_lc K, h4]) ok' ((snd Φ mi c X K).i _ _ b4) (fun s H C cl fp => (g_ok (Kb s H C cl fp) b5).1) (fun s H C cl fp => (snd Φ mc _ _ (Kb s H C cl fp)).cc _ b6) (fun s H C cl fp => (snd Φ me _ _ (Kb s H C cl fp)).e _ b7) (folded_of b2 _)
          (by rw [ownN_snd]; exact hasAll_ok b3)
        rw [ownN_snd] at this
        exact this
      · cases h1
    · rename_i i own mt mi mc me _
      obtain ⟨h1, h2⟩ := (Bool.and_eq_true _ _).mp hh
      unfold asgLc at h1
      split at h1
      · rename_i nm p2 elt gens scope p3 _
        obtain ⟨h3, h4⟩ := (Bool.and_eq_true _ _).mp h1
        obtain ⟨ex, tgx, itx, ifs, scope', p', e1, hb⟩ := hLc_ok (show hLc (.ListComp elt gens scope p3) _ = true from h2)
        cases e1
        simp only [Bool.and_eq_true] at hb
        obtain ⟨⟨⟨⟨⟨⟨b1, b2⟩, b3⟩, b4⟩, b5⟩, b6⟩, b7⟩ := hb
        have ok := blk_ok b1
        have Kb : ∀ (s : Shared) (H : Hp) (C : Addr) (cl : List (Str × Addr)) (fp : List Addr), CtxOk Φ (c.blk scope) (X.blk s H scope (compEnvC scope cl C X.env) fp) := fun s H C cl fp => K.blk ok.kind s H C cl fp
        have ok' : BlkOk X.N X.env.scope scope (ownN c own) := by
          rw [K.N, K.sc]
          exact ok
        have hloc : lkB c.sc nm [.local] = true := by
          unfold swB at h4
          simp only [Bool.and_eq_true] at h4
          exact h4.1.1
        have := p_setLcF (Φ := Φ) (i := i) (nm := nm) (p2 := p2) (p3 := p3) (pos := p) (own := ownN c own) (mt := mt) (mi := mi) (mc := mc) (me := me) K.op nd (nm_ok K h3) (loc_ok K hloc) (by rw [sw_lc K, h4]) ok' ((snd Φ mi c X K).i _ _ b4) (fun s H C cl fp => (g_ok (Kb s H C cl fp) b5).1) (fun s H C cl fp => (snd Φ mc _ _ (Kb s H C cl fp)).cc _ b6) (fun s H C cl fp => (snd Φ me _ _ (Kb s H C cl fp)).e _ b7) (folded_of b2 _)
          (by rw [ownN_snd]; exact hasAll_ok b3)
        rw [ownN_snd] at this
        exact this
      · cases h1
    · rename_i i own own1 mt mi mc mt1 i1 mc1 me _
      obtain ⟨h1, h2⟩ := (Bool.and_eq_true _ _).mp hh
      unfold asgLc at h1
      split at h1
      · rename_i nm p2 elt gens scope p3 _
        obtain ⟨h3, h4⟩ := (Bool.and_eq_true _ _).mp h1
        obtain ⟨ex, tgx, itx, ifs, tg1x, it1x, ifs1, scope', p', e1, hb⟩ := hLc2_ok (show hLc2 (.ListComp elt gens scope p3) _ = true from h2)
        cases e1
        simp only [Bool.and_eq_true] at hb
        obtain ⟨⟨⟨⟨⟨⟨⟨⟨⟨⟨⟨b1, b2⟩, b3⟩, b3b⟩, b3c⟩, b4⟩, b5⟩, b6⟩, b7⟩, b8⟩, b9⟩, b10⟩ := hb
        obtain ⟨nm1, p1, rfl, b7⟩ := hName_ok b7
        have ok := blk_ok b1
        have Kb : ∀ (s : Shared) (H : Hp) (C : Addr) (cl : List (Str × Addr)) (fp : List Addr), CtxOk Φ (c.blk scope) (X.blk s H scope (compEnvC scope cl C X.env) fp) := fun s H C cl fp => K.blk ok.kind s H C cl fp
        have ok' : BlkOk X.N X.env.scope scope (ownN c own) := by
          rw [K.N, K.sc]
          exact ok
        have hloc : lkB c.sc nm [.local] = true := by
          unfold swB at h4
          simp only [Bool.and_eq_true] at h4
          exact h4.1.1
        have := p_setLc2 (Φ := Φ) (i := i) (nm := nm) (p1 := p1) (p2 := p2) (p3 := p3) (pos := p) (own := ownN c own) (ow1 := own1) (mt := mt) (mi := mi) (mc := mc) (mt1 := mt1) (i1 := i1) (mc1 := mc1) (me := me) K.op nd (nm_ok K h3) (loc_ok K hloc) (by rw [sw_lc K, h4]) ok' ((snd Φ mi c X K).i _ _ b4) (fun s H C cl fp => (g_ok (Kb s H C cl fp) b5).1) (fun s H C cl fp => (snd Φ mc _ _ (Kb s H C cl fp)).cc _ b6)
          (fun s H C cl fp => by
            obtain ⟨g1, g2, g3, g4⟩ := ld_ok (Kb s H C cl fp) b7
            exact pi_fz g1 g2 g3 g4)
          (fun s H C cl fp => (g_ok (Kb s H C cl fp) b8).1) (fun s H C cl fp => (snd Φ mc1 _ _ (Kb s H C cl fp)).cc _ b9) (fun s H C cl fp => (snd Φ me _ _ (Kb s H C cl fp)).e _ b10) (folded_of b2 _)
          (by rw [ownN_snd]; exact hasAll_ok b3b) (by rw [ownN_snd]; exact hasAll_ok b3) (hasAll_ok b3c)
        rw [ownN_snd] at this
        exact this
      · cases h1
    · rename_i i own own1 mt mi mc mt1 i1 mc1 me _
      obtain ⟨h1, h2⟩ := (Bool.and_eq_true _ _).mp hh
      unfold asgLc at h1
      split at h1
      · rename_i nm p2 elt gens scope p3 _
        obtain ⟨h3, h4⟩ := (Bool.and_eq_true _ _).mp h1
        obtain ⟨ex, tgx, itx, ifs, tg1x, it1x, ifs1, scope', p', e1, hb⟩ := hLc2_ok (show hLc2 (.ListComp elt gens scope p3) _ = true from h2)
        cases e1
        simp only [Bool.and_eq_true] at hb
        obtain ⟨⟨⟨⟨⟨⟨⟨⟨⟨⟨⟨b1, b2⟩, b3⟩, b3b⟩, b3c⟩, b4⟩, b5⟩, b6⟩, b7⟩, b8⟩, b9⟩, b10⟩ := hb
        obtain ⟨nm1, p1, rfl, b7⟩ := hName_ok b7
        have ok := blk_ok b1
        have Kb : ∀ (s : Shared) (H : Hp) (C : Addr) (cl : List (Str × Addr)) (fp : List Addr), CtxOk Φ (c.blk scope) (X.blk s H scope (compEnvC scope cl C X.env) fp) := fun s H C cl fp => K.blk ok.kind s H C cl fp
        have ok' : BlkOk X.N X.env.scope scope (ownN c own) := by
          rw [K.N, K.sc]
          exact ok
        have hloc : lkB c.sc nm [.local] = true := by
          unfold swB at h4
          simp only [Bool.and_eq_true] at h4
          exact h4.1.1
        have := p_setLc2F (Φ := Φ) (i := i) (nm := nm) (p1 := p1) (p2 := p2) (p3 := p3) (pos := p) (own := ownN c own) (ow1 := own1) (mt := mt) (mi := mi) (mc := mc) (mt1 := mt1) (i1 := i1) (mc1 := mc1) (me := me) K.op nd (nm_ok K h3) (loc_ok K hloc) (by rw [sw_lc K, h4]) ok' ((snd Φ mi c X K).i _ _ b4) (fun s H C cl fp => (g_ok (Kb s H C cl fp) b5).1) (fun s H C cl fp => (snd Φ mc _ _ (Kb s H C cl fp)).cc _ b6)
          (fun s H C cl fp => by
            obtain ⟨g1, g2, g3, g4⟩ := ld_ok (Kb s H C cl fp) b7
            exact pi_fz g1 g2 g3 g4)
          (fun s H C cl fp => (g_ok (Kb s H C cl fp) b8).1) (fun s H C cl fp => (snd Φ mc1 _ _ (Kb s H C cl fp)).cc _ b9) (fun s H C cl fp => (snd Φ me _ _ (Kb s H C cl fp)).e _ b10) (folded_of b2 _)
          (by rw [ownN_snd]; exact hasAll_ok b3b) (by rw [ownN_snd]; exact hasAll_ok b3) (hasAll_ok b3c)
        rw [ownN_snd] at this
        exact this
      · cases h1
    · cases hh
theorem k_par (K : CtxOk Φ c X) {a b : E} (h : hAsg st (fun t x => (match t, x with
    | .Tuple [.Name n1 q1, .Name n2 q2] _ _, .Tuple [x, y] _ _ => decide (c.N[i]? = some n1) && decide (c.N[j]? = some n2) && lkB c.sc n1 [.local] && lkB c.sc n2 [.local] && noStar x && noStar y && decide (swC c.sc [.Name n1 q1, .Name n2 q2] [x, y] = some (some [n1, n2])) && chkE a c x && chkE b c y
    | _, _ => false)) = true) : PSp Φ X (.par i j a b) st := by
  obtain ⟨t, x, p, rfl, hh⟩ := hAsg_ok h
  have nd : X.N.Nodup := by rw [K.N]; exact K.nd
  split at hh
  · simp only [Bool.and_eq_true] at hh
    obtain ⟨⟨⟨⟨⟨⟨⟨⟨h1, h2⟩, h3⟩, h4⟩, h5⟩, h6⟩, h7⟩, h8⟩, h9⟩ := hh
    exact p_par K.op nd (nm_ok K h1) (nm_ok K h2) (loc_ok K h3) (loc_ok K h4) ((snd Φ a c X K).e _ h8) ((snd Φ b c X K).e _ h9) (star_cons h5 _ _) (star_cons h6 _ _) (swC_ok K.sc K.kind (of_decide_eq_true h7)) (sole_plain rfl _ _)
  · cases hh
theorem k_par3 (K : CtxOk Φ c X) {a b d : E} (h : hAsg st (fun t x => (match t, x with
    | .Tuple [.Name n1 q1, .Name n2 q2, .Name n3 q3] _ _, .Tuple [x, y, z] _ _ => decide (c.N[i]? = some n1) && decide (c.N[j]? = some n2) && decide (c.N[k]? = some n3) && lkB c.sc n1 [.local] && lkB c.sc n2 [.local] && lkB c.sc n3 [.local] && noStar x && noStar y && noStar z &&
      decide (swC c.sc [.Name n1 q1, .Name n2 q2, .Name n3 q3] [x, y, z] = some (some [n1, n2, n3])) && chkE a c x && chkE b c y && chkE d c z
    | _, _ => false)) = true) : PSp Φ X (.par3 i j k a b d) st := by
  obtain ⟨t, x, p, rfl, hh⟩ := hAsg_ok h
  have nd : X.N.Nodup := by rw [K.N]; exact K.nd
  split at hh
  · simp only [Bool.and_eq_true] at hh
    obtain ⟨⟨⟨⟨⟨⟨⟨⟨⟨⟨⟨⟨h1, h2⟩, h3⟩, h4⟩, h5⟩, h6⟩, h7⟩, h8⟩, h9⟩, h10⟩, h11⟩, h12⟩, h13⟩ := hh
    exact p_par3 K.op nd (nm_ok K h1) (nm_ok K h2) (nm_ok K h3) (loc_ok K h4) (loc_ok K h5) (loc_ok K h6) ((snd Φ a c X K).e _ h11) ((snd Φ b c X K).e _ h12) ((snd Φ d c X K).e _ h13) (star_cons h7 _ _) (star_cons h8 _ _) (star_cons h9 _ _) (swC_ok K.sc K.kind (of_decide_eq_true h10)) (sole_plain rfl _ _)
  · cases hh
theorem k_sub (K : CtxOk Φ c X) {a b : E} (h : hAsg st (fun t x => hSub t fun o y => hName o (c.ld i) && notComp x && chkE a c x && chkE b c y) = true) : PSp Φ X (.sub i b a) st := by
  obtain ⟨t, x, p, rfl, hh⟩ := hAsg_ok h
  obtain ⟨o, y, p2, rfl, hy, h2⟩ := hSub_ok hh
  simp only [Bool.and_eq_true] at h2
  obtain ⟨⟨⟨h3, h4⟩, h5⟩, h6⟩ := h2
  obtain ⟨nm, np, rfl, h7⟩ := hName_ok h3
  obtain ⟨g1, g2, g3, g4⟩ := ld_ok K h7
  exact p_sub K.op g1 g2 g3 g4 ((snd Φ a c X K).e _ h5) ((snd Φ b c X K).e _ h6) (sole_plain h4 _ _) (stores_none rfl _) (asg_cons rfl _ _) (sub_asg hy _)
theorem k_sbp (K : CtxOk Φ c X) {a b : E} (h : hAsg st (fun t x => (match t with
    | .Tuple [o, .Name n2 _] _ _ => notComp x && notTup x && c.st j n2 && (hSub o fun o2 y => hName o2 (c.ld i) && chkE b c y) && chkE a c x
    | _ => false)) = true) : PSp Φ X (.sbp i b j a) st := by
  obtain ⟨t, x, p, rfl, hh⟩ := hAsg_ok h
  split at hh
  · simp only [Bool.and_eq_true] at hh
    obtain ⟨⟨⟨⟨h1, h2⟩, h3⟩, h4⟩, h5⟩ := hh
    obtain ⟨o2, y, p2, rfl, hy, h6⟩ := hSub_ok h4
    obtain ⟨h7, h8⟩ := (Bool.and_eq_true _ _).mp h6
    obtain ⟨nm, np, rfl, h9⟩ := hName_ok h7
    obtain ⟨g1, g2, g3, g4⟩ := ld_ok K h9
    obtain ⟨k1, k2, k3⟩ := st_ok K h3
    exact p_sbp K.op (by rw [K.N]; exact K.nd) g1 g2 g3 g4 k1 k2 k3 ((snd Φ a c X K).e _ h5) ((snd Φ b c X K).e _ h8) (sole_plain h1 _ _) (stores_none (by cases x <;> first | rfl | cases h2) _) (sub_asg hy _)
  · cases hh
theorem k_app (K : CtxOk Φ c X) {a : E} (h : hExpr st (fun x => hMeth x fun o m l => decide (m = "append") && hName o (c.ld i) && (match l with
    | [y] => noStar y && chkE a c y
    | _ => false)) = true) : PSp Φ X (.app i a) st := by
  obtain ⟨x, p, rfl, hh⟩ := hExpr_ok h
  obtain ⟨o, m, ap, es, cp, rfl, hl, h2⟩ := hMeth_ok hh
  simp only [Bool.and_eq_true] at h2
  obtain ⟨⟨h1, h3⟩, h5⟩ := h2
  have e1 := of_decide_eq_true h1
  subst e1
  obtain ⟨nm, np, rfl, h4⟩ := hName_ok h3
  obtain ⟨g1, g2, g3, g4⟩ := ld_ok K h4
  split at h5
  · obtain ⟨h6, h7⟩ := (Bool.and_eq_true _ _).mp h5
    exact p_app g1 g2 g3 g4 hl ((snd Φ a c X K).e _ h7) (star_one h6 _)
  · cases h5
theorem k_ext (K : CtxOk Φ c X) {a : E} (h : hExpr st (fun x => hMeth x fun o m l => decide (m = "extend") && hName o (c.ld i) && (match l with
    | [y] => noStar y && chkE a c y
    | _ => false)) = true) : PSp Φ X (.ext i a) st := by
  obtain ⟨x, p, rfl, hh⟩ := hExpr_ok h
  obtain ⟨o, m, ap, es, cp, rfl, hl, h2⟩ := hMeth_ok hh
  simp only [Bool.and_eq_true] at h2
  obtain ⟨⟨h1, h3⟩, h5⟩ := h2
  have e1 := of_decide_eq_true h1
  subst e1
  obtain ⟨nm, np, rfl, h4⟩ := hName_ok h3
  obtain ⟨g1, g2, g3, g4⟩ := ld_ok K h4
  split at h5
  · obtain ⟨h6, h7⟩ := (Bool.and_eq_true _ _).mp h5
    exact p_ext g1 g2 g3 g4 hl ((snd Φ a c X K).e _ h7) (star_one h6 _)
  · cases h5
theorem k_app1 (K : CtxOk Φ c X) {a b : E} (h : hExpr st (fun x => hMeth x fun o m l => decide (m = "append") && (hSub o fun o2 y => hName o2 (c.ld i) && chkE b c y) && (match l with
    | [y] => noStar y && chkE a c y
    | _ => false)) = true) : PSp Φ X (.app1 i b a) st := by
  obtain ⟨x, p, rfl, hh⟩ := hExpr_ok h
  obtain ⟨o, m, ap, es, cp, rfl, hl, h2⟩ := hMeth_ok hh
  simp only [Bool.and_eq_true] at h2
  obtain ⟨⟨h1, h3⟩, h5⟩ := h2
  have e1 := of_decide_eq_true h1
  subst e1
  obtain ⟨o2, y, p2, rfl, hy, h8⟩ := hSub_ok h3
  obtain ⟨h9, h10⟩ := (Bool.and_eq_true _ _).mp h8
  obtain ⟨nm, np, rfl, h4⟩ := hName_ok h9
  obtain ⟨g1, g2, g3, g4⟩ := ld_ok K h4
  split at h5
  · obtain ⟨h6, h7⟩ := (Bool.and_eq_true _ _).mp h5
    exact p_app1 K.op g1 g2 g3 g4 hl ((snd Φ b c X K).e _ h10) (notSlice_ix hy) ((snd Φ a c X K).e _ h7) (star_one h6 _)
  · cases h5
theorem SndS.ofS {m : S} (hs : ∀ st, chkS m c st = true → PSp Φ X m st) (hb : ∀ l, chkB m c l = true → False) : SndS Φ m c X := ⟨hs, fun l h => (hb l h).elim⟩
theorem sndS (Φ : Phi) : ∀ (m : S) (c : C) (X : Cx), CtxOk Φ c X → PassesOwn (model X.prog X.w) X.A X.env X.xe → SndS Φ m c X := by
  intro m
  induction m with
  | skip =>
    intro c X K P
    refine ⟨fun st h => ?_, fun l h => ?_⟩
    · cases st <;> first | exact p_pass | cases h
    · cases l with
      | nil => exact b_nil
      | cons _ _ => cases h
  | never => exact fun c X K P => ⟨fun st h => p_never, fun l h => b_never⟩
  | seq a b iha ihb =>
    intro c X K P
    refine ⟨fun st h => (by cases h), fun l h => ?_⟩
    have fg : isFgt a = true → chkB b c l = true → PBp Φ X (.seq a b) l := fun hf h' => by
      cases a with
      | fgt is => exact b_fgt ((ihb c X K P).b _ h')
      | _ => cases hf
    cases l with
    | nil =>
      have h' : (if isFgt a then chkB b c [] else false) = true := h
      split at h'
      · rename_i hf
        exact fg hf h'
      · cases h'
    | cons s r =>
      have h' : (if isFgt a then chkB b c (s :: r) else chkS a c s && chkB b c r) = true := h
      split at h'
      · rename_i hf
        exact fg hf h'
      · obtain ⟨h1, h2⟩ := (Bool.and_eq_true _ _).mp h'
        exact b_cons ((iha c X K P).s _ h1) ((ihb c X K P).b _ h2)
  | asg tg e => exact fun c X K P => .ofS (fun st h => k_asg K h) fun l h => by cases h
  | par i j a b => exact fun c X K P => .ofS (fun st h => k_par K h) fun l h => by cases h
  | par3 i j k a b d => exact fun c X K P => .ofS (fun st h => k_par3 K h) fun l h => by cases h
  | sub i k e => exact fun c X K P => .ofS (fun st h => k_sub K h) fun l h => by cases h
  | sbp i k j e => exact fun c X K P => .ofS (fun st h => k_sbp K h) fun l h => by cases h
  | app i e => exact fun c X K P => .ofS (fun st h => k_app K h) fun l h => by cases h
  | app1 i k e => exact fun c X K P => .ofS (fun st h => k_app1 K h) fun l h => by cases h
  | ext i e => exact fun c X K P => .ofS (fun st h => k_ext K h) fun l h => by cases h
  | expr e =>
    intro c X K P
    refine .ofS (fun st h => ?_) fun l h => by cases h
    obtain ⟨x, p, rfl, hh⟩ := hExpr_ok (show hExpr st (fun x => notComp x && chkE e c x) = true from h)
    obtain ⟨h1, h2⟩ := (Bool.and_eq_true _ _).mp hh
    exact p_expr ((snd Φ e c X K).e _ h2) (sw_plain h1 _ _ _)
  | ife t a b iha ihb =>
    intro c X K P
    refine .ofS (fun st h => ?_) fun l h => by cases h
    obtain ⟨z, l, r, p, rfl, hh⟩ := hIfS_ok (show hIfS st (fun z l r => chkT t c z && chkB a c l && chkB b c r) = true from h)
    simp only [Bool.and_eq_true] at hh
    exact p_ife ((snd Φ t c X K).t _ hh.1.1).1 ((iha c X K P).b _ hh.1.2) ((ihb c X K P).b _ hh.2)
  | whil t b ihb =>
    intro c X K P
    refine .ofS (fun st h => ?_) fun l h => by cases h
    obtain ⟨z, l, p, rfl, hh⟩ := hWhile_ok (show hWhile st (fun z l => chkT t c z && chkB b c l) = true from h)
    simp only [Bool.and_eq_true] at hh
    exact p_while P ((snd Φ t c X K).t _ hh.1).1 ((ihb c X K P).b _ hh.2)
  | forr tg it b ihb =>
    intro c X K P
    refine .ofS (fun st h => ?_) fun l h => by cases h
    obtain ⟨t, i, l, p, rfl, hh⟩ := hFor_ok (show hFor st (fun t i l => notSet i && chkI it c t i && chkG tg c t && chkB b c l) = true from h)
    simp only [Bool.and_eq_true] at hh
    exact p_for K.op P ((snd Φ it c X K).i _ _ hh.1.1.2) (g_ok K hh.1.2).1 ((ihb c X K P).b _ hh.2) (folded_of hh.1.1.1 _)
  | ret e =>
    intro c X K P
    refine .ofS (fun st h => ?_) fun l h => by cases h
    obtain ⟨x, p, rfl, hh⟩ := hRet_ok (show hRet st (fun o => (match o with
      | some x => chkE e c x
      | none => false)) = true from h)
    cases x with
    | none => cases hh
    | some x => exact p_ret ((snd Φ e c X K).e _ hh)
  | retn =>
    intro c X K P
    refine .ofS (fun st h => ?_) fun l h => by cases h
    obtain ⟨x, p, rfl, hh⟩ := hRet_ok (show hRet st (fun o => o.isNone) = true from h)
    cases x with
    | none => exact p_retn
    | some x => cases hh
  | brk =>
    intro c X K P
    refine .ofS (fun st h => ?_) fun l h => by cases h
    cases st <;> first | exact p_brk | cases h
  | cnt =>
    intro c X K P
    refine .ofS (fun st h => ?_) fun l h => by cases h
    cases st <;> first | exact p_cnt | cases h
  | fgt is => exact fun c X K P => .ofS (fun st h => by cases h) fun l h => by cases h
  | aug i op e =>
    intro c X K P
    refine .ofS (fun st h => ?_) fun l h => by cases h
    obtain ⟨nm, p2, op', x, p, rfl, hh⟩ := hAug_ok (show hAug st (fun nm op' x => decide (op = op') && c.st i nm && chkE e c x) = true from h)
    simp only [Bool.and_eq_true] at hh
    obtain ⟨⟨h1, h2⟩, h3⟩ := hh
    have e1 := of_decide_eq_true h1
    subst e1
    obtain ⟨g1, g2, g3⟩ := st_ok K h2
    exact p_aug (by rw [K.N]; exact K.nd) g1 g2 g3 ((snd Φ e c X K).e _ h3)
end
end Mi
/-! A def of the text by its pure meaning. -/
namespace Mi
open PySem PySem.Spec L2 PyProof.Rows

theorem fnG_ofD {P : Program} {w : World} {K : Frg} {mg : Str → Option Value} {base : Heap} {x qual : Str} {params : Arguments} {bd : List Stmt} {scope : Scope} {f : Addr} {fd : FuncData} {N ps : List Str} {k : Nat} {sp : Sp} (F : FunD K x qual params bd scope [] [] f fd) (S : FnScope N ps scope)
    (len : ∀ vs H Q, sp vs H Q E0 → vs.length = ps.length)
    (body : ∀ (cv : Value) (A : Around) (ou : List Env) (s : Shared) (H : Hp) (vs : List V) (Q : VK), A.guards = some [] → Room k (A.deeper (envOfC qual scope s.heap.objs.size f cv)) → sp vs H Q E0 →
      ∃ t, PSs (cxOf CX0 P w K mg base N qual scope f cv A ou s H E0).nox bd t ∧ t { nx := fun _ H' => Q .non H', rt := Q } (L2.start N vs) H) : FnG P w K mg base (k + 1) f fd ps sp := by
  obtain ⟨oc, od, dV, kv, dc, pm, an, cv, ct, sl, rfl, lk, hcd, _, _⟩ := F.ex
  refine ⟨len, fun A ou s H as us vs Q hg hr e0 hb rv hsp => ?_⟩
  have hl : vs.length = ps.length := len _ _ _ hsp
  have kin : K.In s.heap := e0.mod.kin.keeps fun b o e => (e0.bs b o e).1
  have nol : s.heap.NoLimit := e0.mod.nolimit.keeps fun b o e => (e0.bs b o e).1
  have kinds : ∀ y ∈ ps.zip us, scope.names.lookup y.1 = some .local ∨ (scope.names.lookup y.1 = some .cell ∧ ((cellsFrom (s.heap.objs.size + 1) scope.names []).lookup y.1).isSome = true) := fun ⟨n, v⟩ hy =>
    (S.par n (List.of_mem_zip hy).1).elim .inl fun q => .inr ⟨q, PySem.W.cellsFrom_some _ _ _ (.inl q)⟩
  refine codeAny_call_function hr.depth (kin _ _ lk) rfl S.co S.gen rfl (PySem.W.codeRec_of kin hcd) (hb _ _ _ _ ?_)
  refine wpAny_newFunctionEnv_cells S.kind kinds fun env he s1 x1 => ?_
  subst he
  refine ⟨nol.keeps x1.toInCall.keep, codeAny_func ?_⟩
  obtain ⟨t, ht, hq⟩ := body cv A ou s H vs Q hg (hr.deeper _) hsp
  have I0 : Inv (cxOf CX0 P w K mg base N qual scope f cv A ou s H E0) [] (L2.start N vs) H s1 := inv_start S hr.hd e0 hl rv x1
  refine wpAny_mono (ht.nox.run [] s1 (L2.start N vs) H _ I0 hq) (fun fl s' hs => ?_) fun e s' hs => hs
  have fin : ∀ {τ : L2.St} {H' : Hp} {v : V} {u : Value}, Inv (cxOf CX0 P w K mg base N qual scope f cv A ou s H E0) [] τ H' s' → RelV v u → Q v H' → CE ou P w H s Q u s' :=
    fun {τ H' v u} J ru q => ⟨v, H', J.os, J.bare, J.base, J.hok, ru, q⟩
  match fl, hs with
  | .ret u, ⟨v, _, H', J, ru, q⟩ => exact fin J ru q
  | .next, ⟨_, H', J, q⟩ => exact fin (v := V.non) (u := Value.none) J rfl q
  | .brk, ⟨_, _, _, q⟩ => exact q.elim
  | .cont, ⟨_, _, _, q⟩ => exact q.elim

section
variable {K : Frg} {F H : Hp}
theorem TRs.fps : ∀ {vs : List V} {ts : List AV} {fp : List Addr}, TRs K F H vs ts fp → ∃ fs : List (List Addr), fp = fs.flatten ∧ ∀ (i : Nat) (t : AV), ts[i]? = some t → ∃ v, vs[i]? = some v ∧ TR K F H v t (fs.getD i [])
  | _, _, _, .nil => ⟨[], rfl, fun i t h => by simp at h⟩
  | _, _, _, .cons (fp := fa) h hs => by
    obtain ⟨fs, h1, h2⟩ := TRs.fps hs
    refine ⟨fa :: fs, by rw [h1]; rfl, fun i t e => ?_⟩
    cases i with
    | zero =>
      have := Option.some.inj e
      subst this
      exact ⟨_, rfl, h⟩
    | succ i => exact h2 i t (by simpa using e)
theorem flat_nd {fs : List (List Addr)} (h : fs.flatten.Nodup) (i : Nat) : (fs.getD i []).Nodup := by
  induction fs generalizing i with
  | nil => simp
  | cons f fs ih =>
    rw [List.flatten_cons] at h
    cases i with
    | zero => exact (List.nodup_append.mp h).1
    | succ i => exact ih (List.nodup_append.mp h).2.1 i
theorem flat_mem {fs : List (List Addr)} {i : Nat} {a : Addr} (h : a ∈ fs.getD i []) : a ∈ fs.flatten := by
  induction fs generalizing i with
  | nil => simp at h
  | cons f fs ih =>
    rw [List.flatten_cons]
    cases i with
    | zero => exact List.mem_append_left _ h
    | succ i => exact List.mem_append_right _ (ih h)
theorem flat_ex {fs : List (List Addr)} {a : Addr} (h : a ∈ fs.flatten) : ∃ i, a ∈ fs.getD i [] := by
  induction fs with
  | nil => simp at h
  | cons f fs ih =>
    rw [List.flatten_cons] at h
    rcases List.mem_append.mp h with h | h
    · exact ⟨0, h⟩
    · obtain ⟨i, hi⟩ := ih h
      exact ⟨i + 1, hi⟩
theorem flat_dis {fs : List (List Addr)} (h : fs.flatten.Nodup) {i j : Nat} {a : Addr} (hi : a ∈ fs.getD i []) (hj : a ∈ fs.getD j []) : i = j := by
  induction fs generalizing i j with
  | nil => simp at hi
  | cons f fs ih =>
    rw [List.flatten_cons] at h
    have dj := (List.nodup_append.mp h).2.2
    cases i with
    | zero =>
      cases j with
      | zero => rfl
      | succ j => exact (dj a hi a (flat_mem hj) rfl).elim
    | succ i =>
      cases j with
      | zero => exact (dj a hj a (flat_mem hi) rfl).elim
      | succ j => rw [ih (List.nodup_append.mp h).2.1 hi hj]
theorem startE_get {nn : Nat} {ts : List AV} {i : Nat} {t : AV} (h : (startE nn ts)[i]? = some (some t)) : ts[i]? = some t := by
  unfold startE at h
  by_cases hi : i < ts.length
  · rw [List.getElem?_append_left (by simpa using hi), List.getElem?_map] at h
    cases e : ts[i]? with
    | none => rw [e] at h; simp at h
    | some u =>
      rw [e] at h
      simpa using h
  · rw [List.getElem?_append_right (by simpa using hi)] at h
    rw [List.getElem?_replicate] at h
    split at h
    · cases h
    · cases h
theorem start_get {N : List Str} {vs : List V} {i : Nat} {v : V} (h : vs[i]? = some v) : (L2.start N vs)[i]? = some (some v) := by
  unfold L2.start
  have hi : i < vs.length := by
    rcases Nat.lt_or_ge i vs.length with h' | h'
    · exact h'
    · rw [List.getElem?_eq_none h'] at h
      cases h
  rw [List.getElem?_append_left (by simpa using hi), List.getElem?_map, h]
  rfl
/-- a def's frame at its start -/
theorem SK.entry {N : List Str} {vs : List V} {ts : List AV} {fp : List Addr} {nn : Nat} (hn : nn = N.length) (hl : vs.length = ts.length) (h : TRs K F H vs ts fp) (nd : fp.Nodup) (ap : ∀ a ∈ fp, F a = none) (ex : Ext F H) :
    ∃ fps, SK K F fps (L2.start N vs) H (startE nn ts) ∧ ∀ a, ownd fps a ↔ a ∈ fp := by
  obtain ⟨fs, rfl, h2⟩ := h.fps
  refine ⟨fun i => fs.getD i [], ⟨fun i t e => ?_, flat_nd nd, fun i j a => flat_dis nd, fun i a m => ap a (flat_mem m), fun i a m => h.there a (flat_mem m), ex, ?_⟩, fun a => ⟨fun ⟨i, m⟩ => flat_mem m, fun m => flat_ex m⟩⟩
  · obtain ⟨v, h3, h4⟩ := h2 i t (startE_get e)
    exact ⟨v, start_get h3, h4⟩
  · unfold L2.start startE
    simp [hl, hn]
/-- the values that come back -/
theorem back_trs {σ : L2.St} {fps : Fps} {env : SEnv} {vs : List V} (s : SK K F fps σ H env) : ∀ (io : List Nat) (us : List AV), io.mapM (getv env) = some us → (∀ k ∈ io, ∃ v, vs[k]? = some v ∧ σ[k]? = some (some v)) → TRs K F H (ioV io vs) us (io.map fps).flatten
  | [], us, h, _ => by
    have : us = [] := by simpa using h.symm
    subst this
    exact .nil
  | k :: io, us, h, hk => by
    rw [List.mapM_cons] at h
    cases e : getv env k with
    | none => rw [e] at h; simp at h
    | some t =>
      cases e2 : io.mapM (getv env) with
      | none => rw [e, e2] at h; simp at h
      | some r =>
        rw [e, e2] at h
        have : us = t :: r := by simpa using h.symm
        subst this
        obtain ⟨v, h1, h2⟩ := hk k List.mem_cons_self
        obtain ⟨v', h3, h4⟩ := s.slot k t (getv_some e)
        rw [h2] at h3
        cases h3
        have e3 : vs.getD k V.non = v := by simp [List.getD, h1]
        show TRs K F H (vs.getD k .non :: ioV io vs) (t :: r) (fps k ++ (io.map fps).flatten)
        rw [e3]
        exact .cons h4 (back_trs s io r e2 fun j hj => hk j (List.mem_cons_of_mem _ hj))
theorem fps_nd {σ : L2.St} {fps : Fps} {env : SEnv} (s : SK K F fps σ H env) : ∀ io : List Nat, io.Nodup → (io.map fps).flatten.Nodup
  | [], _ => List.nodup_nil
  | k :: io, h => by
    rw [List.map_cons, List.flatten_cons]
    obtain ⟨h1, h2⟩ := List.nodup_cons.mp h
    refine List.nodup_append.mpr ⟨s.nd k, fps_nd s io h2, fun x hx y hy z => ?_⟩
    subst z
    obtain ⟨l, hl, hxl⟩ := List.mem_flatten.mp hy
    obtain ⟨j, hj, rfl⟩ := List.mem_map.mp hl
    have := s.dis k j x hx hxl
    subst this
    exact h1 hj
end

/-- a def that may be called, by its pure meaning -/
def DefP (P : Program) (w : World) (K : Frg) (mg : Str → Option Value) (base : Heap) (k : Nat) (p : Str × List (List Str × List Nat)) (G : FnS) : Prop := ∃ (f : Addr) (fd : FuncData) (ps : List Str), FnG P w K mg base k f fd ps (spI K G) ∧ mg p.1 = some (.ref f) ∧ PySem.W.keepIn K (.ref f) = true ∧
  (∀ us : List Value, us.length = ps.length → bindArgs fd ⟨us, []⟩ = pure (ps.zip us)) ∧ (∀ q ∈ p.2, ∀ ws : List Value, ws.length = q.1.length → bindArgs fd ⟨[], q.1.zip ws⟩ = pure (ps.zip (permL q.2 ws))) ∧ G.io = upTo G.n G.io
/-- what is known of the module -/
structure ModP (Φ : Phi) (P : Program) (w : World) (K : Frg) (mg : Str → Option Value) (base : Heap) (k : Nat) (c : C) : Prop where
  fs : ∀ (f : Nat) (p : Str × List (List Str × List Nat)), c.fs[f]? = some p → ∃ G, DefP P w K mg base k p G ∧ Φ[f]? = some G
  gs : ∀ p ∈ c.gs, ∃ v u, mg p.1 = some u ∧ L2.RelV v u ∧ ∀ K F, Rp K F v p.2
  bs : ∀ nm ∈ c.bs, mg nm = none

theorem def_ok {Φ : Phi} {P : Program} {w : World} {K : Frg} {mg : Str → Option Value} {base : Heap} {x qual : Str} {params : Arguments} {bd : List Stmt} {scope : Scope} {f : Addr} {fd : FuncData} {ps : List Str} {k : Nat} {c : C} {d : FnD}
    (F : FunD K x qual params bd scope [] [] f fd) (S : FnScope c.N ps scope) (hsc : c.sc = scope) (hfn : c.fn = fun _ => true) (M : ModP Φ P w K mg base k c) (hn : d.n = ps.length) (hnn : d.nn = c.N.length) (hio : d.io = upTo d.n d.io) (hnm : ∀ j ∈ d.io, j ∉ d.body.names)
    (hchk : chkB d.body c bd = true) : FnG P w K mg base (k + 1) f fd ps (spI K (semOf Φ d)) := by
  refine fnG_ofD F S (fun vs H Q h => ?_) fun cv A ou s H vs Q hg hr h => ?_
  · obtain ⟨_, ts, _, _, _, _, h1, _⟩ := h
    rw [h1]
    exact hn
  · obtain ⟨F0, ts, fp, r, us, h1, h2, h3, h4, h5, h6, h7, h8⟩ := h
    have h1 : ts.length = d.n := h1
    have h2 : vs.length = d.n := h2
    have h3 : runF Φ d ts = some (r, us) := h3
    unfold runF at h3
    rw [if_pos h1] at h3
    have KX : CtxOk Φ c (cxOf CX0 P w K mg base c.N qual scope f cv A ou s H E0).nox := by
      refine ⟨rfl, S.nd, hsc.symm, by rw [hsc]; exact S.kind, hfn.symm, ⟨rfl, ?_, ?_⟩, fun g p hp => ?_, M.gs, M.bs⟩
      · have := hr.un
        show (A.deeper (envOfC qual scope s.heap.objs.size f cv)).units + 150 < cLine
        omega
      · exact hg
      · obtain ⟨G, ⟨f', fd', ps', g1, g2, g3, g4, g5, g6⟩, g7⟩ := M.fs g p hp
        exact ⟨⟨k, f', fd', ps', p.2⟩, G, ⟨g1, hr, g2, g3, g4, g5, g6⟩, g7, rfl⟩
    obtain ⟨fps0, sk0, own0⟩ := SK.entry (N := c.N) (nn := d.nn) hnn (h2.trans h1.symm) h5 h6 h7 h4
    have ionod : d.io.Nodup := by
      rw [hio]
      exact List.nodup_range.filter _
    have iolt : ∀ j ∈ d.io, j < vs.length := fun j hj => by
      rw [hio] at hj
      have := (List.mem_filter.mp hj).1
      rw [h2]
      exact List.mem_range.mp this
    -- what comes back
    have fin : ∀ {e : SEnv} {us : List AV} {r : AV} {τ : L2.St} {v : V} {F' : Hp} {fps' : Fps} {H' : Hp} {fq : List Addr}, d.io.mapM (getv e) = some us → RVs K τ e [.val r] F0 fps0 H [v] F' fps' H' fq → Keep d.body.names (L2.start c.N vs) τ →
        (∀ v F' H' fr fu, TR K F' H' v r fr → TRs K F' H' (ioV d.io vs) us fu → (fr ++ fu).Nodup → (∀ a ∈ fr ++ fu, F' a = none) → Ext F' H' → Step F0 (fun a => a ∈ fp) H F' (fun a => a ∈ fr ++ fu) H' → Q v H') → Q v H' := fun {e us r τ v F' fps' H' fq} hu rv kp q => by
      have slots : ∀ j ∈ d.io, ∃ v, vs[j]? = some v ∧ τ[j]? = some (some v) := fun j hj => by
        have hlt := iolt j hj
        refine ⟨vs[j], List.getElem?_eq_getElem hlt, ?_⟩
        rw [kp j (hnm j hj)]
        exact start_get (List.getElem?_eq_getElem hlt)
      have tr := back_trs rv.sk d.io us hu slots
      have inO : ∀ a, a ∈ (d.io.map fps').flatten → ownd fps' a := fun a m => by
        obtain ⟨l, hl, ha⟩ := List.mem_flatten.mp m
        obtain ⟨j, _, rfl⟩ := List.mem_map.mp hl
        exact ⟨j, ha⟩
      refine q v F' H' fq _ rv.rs.one_inv tr ?_ ?_ rv.sk.sub ?_
      · refine List.nodup_append.mpr ⟨rv.nd, fps_nd rv.sk _ ionod, fun x hx y hy z => ?_⟩
        subst z
        exact (rv.ap x hx).2 (inO x hy)
      · intro a m
        rcases List.mem_append.mp m with m | m
        · exact (rv.ap a m).1
        · obtain ⟨j, hj⟩ := inO a m
          exact rv.sk.free j a hj
      · refine (rv.st.more fun x hx => (own0 x).mp hx).weak fun x m => ?_
        rcases List.mem_append.mp m with m | m
        · exact .inr m
        · exact .inl (inO x m)
    have snd0 := sndS Φ d.body c _ KX PassesOwn.never
    split at h3
    · rename_i r' e he
      obtain ⟨us', hu, e1⟩ := Option.map_eq_some_iff.mp h3
      cases e1
      exact ⟨_, snd0.b _ hchk _ _ _ he, F0, fps0, sk0, fun τ v F' fps' H' fq rv kp => fin hu rv kp h8⟩
    · rename_i e he
      obtain ⟨us', hu, e1⟩ := Option.map_eq_some_iff.mp h3
      cases e1
      exact ⟨_, snd0.b _ hchk _ _ _ he, F0, fps0, sk0, fun τ F' fps' H' rv kp => fin hu (rv.dat .non) kp h8⟩
    · cases h3
end Mi
/-! All defs of a program one behind another; the law's end. -/
namespace Mi
open PySem PySem.Spec L2 PyProof.Rows

structure Row where
  x : Str
  kw : List (List Str × List Nat)
  ps : List Str
  N : List Str
  params : Arguments
  body : List Stmt
  scope : Scope
  d : FnD
def Row.p (r : Row) : Str × List (List Str × List Nat) := (r.x, r.kw)
def Row.dd (r : Row) : He.DefD := ⟨(r.x, none), r.x, r.x, r.params, r.body, r.scope, [], []⟩
def rowC (done : List (Str × List (List Str × List Nat))) (gs : List (Str × PyData)) (bs : List Str) (r : Row) : C := ⟨r.N, r.scope, fun _ => true, done, gs, bs⟩
def scopeB (N ps : List Str) (sc : Scope) : Bool := decide (sc.kind = .function) && !sc.isCoroutine && !sc.isGenerator && decide N.Nodup && decide (N.take ps.length = ps) && (ps.all fun x => lkB sc x [.local, .cell]) && sc.names.all fun y => !decide (y.2 = .free)
theorem scopeB_ok {N ps : List Str} {sc : Scope} (h : scopeB N ps sc = true) : FnScope N ps sc := by
  unfold scopeB at h
  simp only [Bool.and_eq_true] at h
  obtain ⟨⟨⟨⟨⟨⟨h1, h2⟩, h3⟩, h4⟩, h5⟩, h6⟩, h7⟩ := h
  refine ⟨of_decide_eq_true h1, by simpa using h2, by simpa using h3, of_decide_eq_true h4, of_decide_eq_true h5, fun x hx => ?_, fun y hy => ?_⟩
  · obtain ⟨k, hk, e⟩ := lkB_some (List.all_eq_true.mp h6 x hx)
    simp only [List.mem_cons, List.mem_nil_iff, or_false] at hk
    rcases hk with rfl | rfl
    · exact .inl e
    · exact .inr e
  · have := List.all_eq_true.mp h7 y hy
    simpa using this
def rowB (done : List (Str × List (List Str × List Nat))) (gs : List (Str × PyData)) (bs : List Str) (r : Row) : Bool :=
  scopeB r.N r.ps r.scope && decide (r.d.n = r.ps.length) && decide (r.d.nn = r.N.length) && decide (r.d.io = upTo r.d.n r.d.io) && (r.d.io.all fun j => !r.d.body.names.contains j) && chkB r.d.body (rowC done gs bs r) r.body
/-- how the arguments of a def of the text are bound -/
structure RowBind (r : Row) : Prop where
  pos : ∀ (kV doc pm : Value) (an : Option Addr) (cdv ct : Value) (us : List Value), us.length = r.ps.length → bindArgs (PySem.W.fnOf r.x r.x r.params r.body r.scope .none kV doc pm an cdv ct) ⟨us, []⟩ = pure (r.ps.zip us)
  kws : ∀ q ∈ r.kw, ∀ (kV doc pm : Value) (an : Option Addr) (cdv ct : Value) (ws : List Value), ws.length = q.1.length → bindArgs (PySem.W.fnOf r.x r.x r.params r.body r.scope .none kV doc pm an cdv ct) ⟨[], q.1.zip ws⟩ = pure (r.ps.zip (permL q.2 ws))

section
variable {P : Program} {w : World} {K : Frg} {mg : Str → Option Value} {base : Heap} {gs : List (Str × PyData)} {bs : List Str}
theorem DefP.mono {j k : Nat} {p : Str × List (List Str × List Nat)} {G : FnS} (h : DefP P w K mg base j p G) (hk : j ≤ k) : DefP P w K mg base k p G := by
  obtain ⟨f, fd, ps, g1, g2⟩ := h
  exact ⟨f, fd, ps, g1.mono hk, g2⟩
/-- what is known of the module's own function at a row -/
def RowAt (K : Frg) (mg : Str → Option Value) (r : Row) : Prop := ∃ (f : Addr) (fd : FuncData), FunD K r.x r.x r.params r.body r.scope [] [] f fd ∧ mg r.x = some (.ref f)
theorem row_fn {Φ : Phi} {done : List (Str × List (List Str × List Nat))} {r : Row} {k : Nat} {sc : Scope} {f : Addr} {fd : FuncData} (hr : rowB done gs bs r = true) (F : FunD K r.x r.x r.params r.body r.scope [] [] f fd) (M : ModP Φ P w K mg base k ⟨[], sc, fun _ => true, done, gs, bs⟩) :
    FnG P w K mg base (k + 1) f fd r.ps (spI K (semOf Φ r.d)) ∧ r.d.io = upTo r.d.n r.d.io := by
  unfold rowB at hr
  simp only [Bool.and_eq_true] at hr
  obtain ⟨⟨⟨⟨⟨h1, h2⟩, h3⟩, h4⟩, h5⟩, h6⟩ := hr
  have M' : ModP Φ P w K mg base k (rowC done gs bs r) := ⟨M.fs, M.gs, M.bs⟩
  exact ⟨def_ok (c := rowC done gs bs r) F (scopeB_ok h1) rfl rfl M' (of_decide_eq_true h2) (of_decide_eq_true h3) (of_decide_eq_true h4) (fun j hj => by
    have := List.all_eq_true.mp h5 j hj
    simpa using this) h6, of_decide_eq_true h4⟩
theorem row_ok {Φ : Phi} {done : List (Str × List (List Str × List Nat))} {r : Row} {k : Nat} {sc : Scope} (hr : rowB done gs bs r = true) (hb : RowBind r) (hat : RowAt K mg r) (M : ModP Φ P w K mg base k ⟨[], sc, fun _ => true, done, gs, bs⟩) : DefP P w K mg base (k + 1) r.p (semOf Φ r.d) := by
  obtain ⟨f, fd, F, hm⟩ := hat
  obtain ⟨G, hio⟩ := row_fn hr F M
  refine ⟨f, fd, r.ps, G, hm, F.kp, fun us hl => ?_, fun q hq ws hl => ?_, hio⟩
  · obtain ⟨oc, od, dV, kv, dc, pm, an, cv, ct, sl, rfl, lk, hcd, hD, _⟩ := F.ex
    rcases hD with ⟨_, rfl⟩ | ⟨e, _⟩
    · exact hb.pos _ _ _ _ _ _ us hl
    · exact absurd rfl e
  · obtain ⟨oc, od, dV, kv, dc, pm, an, cv, ct, sl, rfl, lk, hcd, hD, _⟩ := F.ex
    rcases hD with ⟨_, rfl⟩ | ⟨e, _⟩
    · exact hb.kws q hq _ _ _ _ _ _ ws hl
    · exact absurd rfl e
def rowsB (gs : List (Str × PyData)) (bs : List Str) : List (Str × List (List Str × List Nat)) → List Row → Bool
  | _, [] => true
  | done, r :: rs => rowB done gs bs r && rowsB gs bs (done ++ [r.p]) rs
theorem rows_ok : ∀ {rs : List Row} {Φ : Phi} {done : List (Str × List (List Str × List Nat))} {k : Nat} {sc : Scope}, rowsB gs bs done rs = true → (∀ r ∈ rs, RowBind r ∧ RowAt K mg r) → Φ.length = done.length → ModP Φ P w K mg base k ⟨[], sc, fun _ => true, done, gs, bs⟩ →
    ModP (linkF (rs.map (·.d)) Φ) P w K mg base (k + rs.length) ⟨[], sc, fun _ => true, done ++ rs.map (·.p), gs, bs⟩
  | [], Φ, done, k, sc, _, _, _, M => ⟨fun f p h => M.fs f p (by simpa using h), M.gs, M.bs⟩
  | r :: rs, Φ, done, k, sc, h, hat, hl, M => by
    obtain ⟨h1, h2⟩ := (Bool.and_eq_true _ _).mp (show (rowB done gs bs r && rowsB gs bs (done ++ [r.p]) rs) = true from h)
    obtain ⟨hb, ha⟩ := hat r List.mem_cons_self
    have D := row_ok h1 hb ha (k := k) ⟨M.fs, M.gs, M.bs⟩
    have M2 : ModP (Φ ++ [semOf Φ r.d]) P w K mg base (k + 1) ⟨[], sc, fun _ => true, done ++ [r.p], gs, bs⟩ := by
      refine ⟨fun f p hf => ?_, M.gs, M.bs⟩
      have hf : (done ++ [r.p])[f]? = some p := hf
      by_cases hlt : f < done.length
      · rw [List.getElem?_append_left hlt] at hf
        obtain ⟨G, g1, g2⟩ := M.fs f p hf
        refine ⟨G, g1.mono (Nat.le_succ k), ?_⟩
        rw [List.getElem?_append_left (by omega)]
        exact g2
      · have hle : done.length ≤ f := by omega
        rw [List.getElem?_append_right hle] at hf
        have e0 : f = done.length := by
          rcases Nat.eq_or_lt_of_le hle with e | e
          · exact e.symm
          · rw [List.getElem?_eq_none (by simp; omega)] at hf
            cases hf
        subst e0
        rw [Nat.sub_self] at hf
        have e1 : r.p = p := by simpa using hf
        refine ⟨semOf Φ r.d, by rw [← e1]; exact D, ?_⟩
        rw [← hl, List.getElem?_append_right (Nat.le_refl _), Nat.sub_self]
        rfl
    have q := rows_ok h2 (fun r' m => hat r' (List.mem_cons_of_mem _ m)) (by simp [hl]) M2
    have e1 : done ++ (r :: rs).map (·.p) = (done ++ [r.p]) ++ rs.map (·.p) := by simp
    have e2 : k + (r :: rs).length = k + 1 + rs.length := by simp; omega
    rw [e1, e2]
    exact q
end

/-! ### the law's call -/
theorem call_end {P : Program} {w : World} {K : Frg} {mg mb : Str → Option Value} {k : Nat} {fa a : Addr} {fd : FuncData} {x : Str} {G : FnS} {s₁ : Shared} {us : List Value} {ns : List Int} (hG : G.n = 1 ∧ G.io = []) (KX : K.In s₁.heap)
    (n1 : s₁.heap.Ns mainGlobals mg) (n2 : s₁.heap.Ns builtinsNs mb) (n3 : ∀ x : Str, x ≠ "__name__" → mb x = bootBuiltins x) (n4 : s₁.heap.NoLimit) (n5 : s₁.gens = #[])
    (obj : s₁.heap.get? a = some { cls := .type "list", data := .seq us.toArray }) (hin : IntsAre us ns) (few : ns.length ≤ sizeLine) (room : Room k callerA)
    (F : ∀ base : Heap, K.In base → base.Ns mainGlobals mg → FnG P w K mg base k fa fd [x] (spI K G)) (bnd : ∀ (s : Shared) (u : Value), BindsTo s fd ⟨[u], []⟩ [(x, u)]) (law : G.sem [.d (.list (ns.map .int))] = some (.d (.bool true), [])) :
    codeAny (model P w) callerA (.call (.ref fa) ⟨[.ref a], []⟩) (fun r s' => r = .ok (.ret (.bool true)) ∧ OldK s₁.heap s'.heap ∧ s'.os = s₁.os ∧ AllBare s'.gens) s₁ := by
  have go : ∀ H : Hp, Only H → SqL K H a (ns.map V.int) → HOk P w H s₁.heap → (∀ b, H b ≠ none → b = a) → (H a ≠ none → K.lookup a = none) →
      codeAny (model P w) callerA (.call (.ref fa) ⟨[.ref a], []⟩) (fun r s' => r = .ok (.ret (.bool true)) ∧ OldK s₁.heap s'.heap ∧ s'.os = s₁.os ∧ AllBare s'.gens) s₁ := by
    intro H only hs hok atA hK
    have clear : ∀ {b : Addr} {o : Obj}, s₁.heap.get? b = some o → (b = a → H a = none) → H b = none := fun {b o} e z => by
      cases q : H b with
      | none => rfl
      | some v =>
        have eb := atA b (by rw [q]; simp)
        subst eb
        rw [z rfl] at q
        cases q
    have nsH : ∀ {b : Addr} {m : Str → Option Value}, s₁.heap.Ns b m → (hidT s₁.heap H).Ns b m := fun {b m} ⟨o, es, ep, e, d, r⟩ => by
      refine ⟨o, es, ep, hidT_get e (clear e fun z => ?_), d, r⟩
      subst z
      rw [obj] at e
      cases e
      exact (nomatch (show Data.seq us.toArray _ = Data.dict es ep from d))
    have inH : K.In (hidT s₁.heap H) := fun b o e => hidT_get (KX b o e) (clear (KX b o e) fun z => by
      subst z
      cases q : H b with
      | none => rfl
      | some v =>
        rw [hK (by rw [q]; simp)] at e
        cases e)
    have e0 : Env0 P w K mg (hidT s₁.heap H) callerA [] s₁ H := by
      refine ⟨rfl, ⟨inH, nsH n1, ⟨mb, nsH n2, n3⟩, ?_⟩, fun b o e => of_hidT e, Nat.le_of_eq (hidT_size _ _), trivial, fun b hb => (nomatch (show b ∈ ([] : List Addr) from hb)), hok, .of_eq n5⟩
      obtain ⟨mc, c1, c2⟩ := n4
      exact ⟨mc, nsH c1, c2⟩
    have sp : spI K G [.ref a] H (fun v _ => v = .bl true) E0 := by
      refine ⟨H, [.d (.list (ns.map .int))], [], .d (.bool true), [], hG.1.symm, hG.1.symm, law, Ext.refl H, TRs.cons (fp := []) (.d (.lst hs (RpL.ofInts ns))) .nil, List.nodup_nil, fun _ m => (nomatch m), fun v F' H' fr fu t1 _ _ _ _ _ => t1.bl⟩
    refine codeAny_mono ((F _ inH (nsH n1)).run callerA [] s₁ H ⟨[.ref a], []⟩ [.ref a] [.ref a] _ rfl room e0 (bnd s₁ (.ref a)) (.cons rfl .nil) sp) fun r s' h => ?_
    match r, h with
    | .ok (.ret u), ⟨v, H', os, bare, un, hok', ru, q⟩ =>
      have q' : v = .bl true := q
      subst q'
      have eu : u = Value.bool true := ru
      subst eu
      refine ⟨rfl, OldK.of_keep fun b o e => ?_, os, bare⟩
      cases hb : H b with
      | none => exact un.keep b o e hb (fun z => (nomatch (show b ∈ ([] : List Addr) from z))) (fun z => nomatch z)
      | some v =>
        rcases only b with z | ⟨ob, xs, z⟩
        · rw [hb] at z
          cases z
        · obtain ⟨e1, _⟩ := hok b _ z
          obtain ⟨e2, _⟩ := hok' b _ (un.frzs b ob _ z)
          rw [e] at e1
          cases e1
          exact e2
    | .ok .next, h => exact False.elim h
    | .ok .brk, h => exact False.elim h
    | .ok .cont, h => exact False.elim h
    | .error e, h => exact False.elim h
  have hv := vals_ints hin
  cases hk : K.lookup a with
  | some o =>
    have e := KX a o hk
    rw [obj] at e
    cases e
    refine go (fun _ => none) (fun _ => .inl rfl) (.inr ⟨_, us.toArray, _, hk, rfl, rfl, rfl, ?_, by simpa using hv⟩) (fun b u z => (nomatch (show (none : Option HO) = some u from z))) (fun b z => absurd rfl z) fun z => absurd rfl z
    rw [List.size_toArray, hin.length]
    exact few
  | none =>
    have one : ∀ b, (fun b => if b = a then some (HO.frz { cls := .type "list", data := .seq us.toArray } (.lst (ns.map V.int))) else none) b = some (HO.frz { cls := .type "list", data := .seq us.toArray } (.lst (ns.map V.int))) ∧ b = a ∨
        (fun b => if b = a then some (HO.frz { cls := .type "list", data := .seq us.toArray } (.lst (ns.map V.int))) else none) b = none ∧ b ≠ a := fun b => by
      by_cases hb : b = a
      · exact .inl ⟨if_pos hb, hb⟩
      · exact .inr ⟨if_neg hb, hb⟩
    refine go (fun b => if b = a then some (.frz { cls := .type "list", data := .seq us.toArray } (.lst (ns.map V.int))) else none) (fun b => ?_) (.inl (.inr ⟨_, if_pos rfl⟩)) (fun b u z => ?_) (fun b z => ?_) fun _ => hk
    · rcases one b with ⟨h1, _⟩ | ⟨h1, _⟩
      · exact .inr ⟨_, _, h1⟩
      · exact .inl h1
    · rcases one b with ⟨h1, rfl⟩ | ⟨h1, _⟩
      · have z' := h1.symm.trans z
        cases z'
        exact ⟨obj, by rw [List.length_map]; exact few, us, _, hv, obj⟩
      · have z' := h1.symm.trans z
        cases z'
    · rcases one b with ⟨_, h1⟩ | ⟨h1, _⟩
      · exact h1
      · exact absurd h1 z

/-- the walk of a law whose defs all have their pure meaning -/
theorem walk_end {l : PySem.W.OpenLaw} {n : Nat} {q : Program} {loose : List Str} {XP : (Str → Option Value) → Heap → Prop} {YP : World → Heap → Prop} {d : DefRec} {gs : List (Str × PyData)} {bs : List Str} {rs : List Row} {r : Row} {G : FnS}
    (hn : l.most = some n) (hn2 : n ≤ sizeLine) (hdf : d.params.defaults = []) (few : rs.length + 1 ≤ 60) (hname : d.name = r.x) (hps : ∃ x, r.ps = [x]) (hd : r.d.n = 1 ∧ r.d.io = [])
    (hB : rowsB gs bs [] (rs ++ [r]) = true) (hb : ∀ t ∈ rs ++ [r], RowBind t)
    (facts : ∀ (w : World) (mg : Str → Option Value) (h : Heap), YP w h → h.Ns mainGlobals mg → ∃ K : Frg, K.In h ∧ (∀ t ∈ rs ++ [r], RowAt K mg t) ∧ (∀ p ∈ gs, ∃ v u, mg p.1 = some u ∧ L2.RelV v u ∧ ∀ K F, Rp K F v p.2) ∧ ∀ nm ∈ bs, mg nm = none)
    (law : ∀ ns : List Int, ns.length ≤ n → runF (linkF (rs.map (·.d)) []) r.d [.d (.list (ns.map .int))] = some (.d (.bool true), [])) :
    PySem.W.WalkO q loose XP YP l.row.toRowW d [] (fun f vs => PySem.call f vs) := by
  refine Att.attach_call hn hdf fun w s₀ s₁ mg mb fa o pm cd doc a vs ns G0 Y ho hd0 hcd hmg hobj hints hlen hg => ?_
  obtain ⟨K, KX, fA, fG, fB⟩ := facts w mg _ Y G0.T.g
  obtain ⟨x, hx⟩ := hps
  obtain ⟨f, fd, F, hm⟩ := fA r (by simp)
  have ef : f = fa := by
    rw [hname, hm] at hmg
    cases hmg
    rfl
  subst ef
  have d1 : callerA.depth + 3 * 60 + 5 < recursionLimit := by decide
  have d2 : callerA.units + 16 * 60 + 200 < cLine := by decide
  have room : Room (rs.length + 1) callerA := ⟨rfl, by omega, by omega⟩
  refine call_end (k := rs.length + 1) (G := semOf (linkF (rs.map fun t : Row => t.d) []) r.d) (x := x) (fd := fd) hd KX G0.T.g G0.T.b G0.T.builtins G0.T.nolimit hg hobj hints (Nat.le_trans hlen hn2) room (fun base inB nsB => ?_) (fun s u => ?_) (law ns hlen)
  · have split : ∀ {done : List (Str × List (List Str × List Nat))} {l1 : List Row}, rowsB gs bs done (l1 ++ [r]) = true → rowsB gs bs done l1 = true ∧ rowB (done ++ l1.map (·.p)) gs bs r = true := fun {done l1} h => by
      induction l1 generalizing done with
      | nil =>
        have h' : (rowB done gs bs r && true) = true := h
        rw [Bool.and_true] at h'
        refine ⟨rfl, ?_⟩
        rw [List.map_nil, List.append_nil]
        exact h'
      | cons t ts ih =>
        obtain ⟨h1, h2⟩ := (Bool.and_eq_true _ _).mp (show (rowB done gs bs t && rowsB gs bs (done ++ [t.p]) (ts ++ [r])) = true from h)
        obtain ⟨h3, h4⟩ := ih h2
        refine ⟨(Bool.and_eq_true _ _).mpr ⟨h1, h3⟩, ?_⟩
        rw [List.map_cons]
        simpa using h4
    obtain ⟨b1, b2⟩ := split hB
    have M0 : ModP [] l.prog w K mg base 0 ⟨[], r.scope, fun _ => true, [], gs, bs⟩ := ⟨fun f p h => by simp at h, fG, fB⟩
    have M1 := rows_ok (K := K) (mg := mg) (P := l.prog) (w := w) (base := base) b1 (fun t ht => ⟨hb t (by simp [ht]), fA t (by simp [ht])⟩) rfl M0
    have b2' : rowB (rs.map (·.p)) gs bs r = true := by simpa using b2
    rw [List.nil_append, Nat.zero_add] at M1
    have FG := (row_fn (r := r) (k := rs.length) b2' F M1).1
    rw [hx] at FG
    exact FG
  · have b := FunD.bindsA (ps := [x]) F (fun kV dc pm an cv ct us hl => by
      have := (hb r (by simp)).pos kV dc pm an cv ct us (by rw [hx]; exact hl)
      rw [hx] at this
      exact this) s [u] rfl
    exact b
end Mi
namespace K22
open PySem L2 Mi
/-! ### the text by places -/
def top (i : Nat) : Stmt := PySem.Challenge.pw_deadmade_k22_whole_depths_and_losses.main.body.getD i (.Pass ⟨0, 0, 0, 0⟩)
def gs : List (Str × PyData) := [("MOST_BOUND", (.int 99999)), ("BREAKER", (.str "breaker")), ("LINK", (.str "link")), ("FEED", (.str "feed")), ("MAYBE", (.str "maybe")), ("MOST_PHASE", (.int 9)), ("MOST_LOAD", (.int 9999)), ("MOST_BARS", (.int 60)), ("MOST_SWITCHES", (.int 90)), ("MOST_SOURCES", (.int 12)), ("MOST_CUSTOMERS", (.int 40))]
def bs : List Str := ["len", "abs", "int", "max", "min", "divmod", "list", "tuple", "sorted", "set", "all", "repr", "range", "enumerate", "zip", "isinstance", "bool", "str", "dict"]
/-- _law_draw(pot, many); 0 pot, 1 many, 2 digit -/
def b0 : S := (.seq (.ife (.cmp .Gt (.ix (.ref 0) (.lit (.int 0))) (.lit (.int 0))) (.seq (.sbp 0 (.lit (.int 0)) 2 (.bi .divmod (.cons (.ix (.ref 0) (.lit (.int 0))) (.cons (.ref 1) .nil)))) (.seq (.ret (.var 2)) .skip)) .skip) (.seq (.sub 0 (.lit (.int 1)) (.bin .Mod (.bi .int (.cons (.bin .Add (.bin .Mult (.ix (.ref 0) (.lit (.int 1))) (.lit (.int 39373))) (.lit (.int 277))) .nil)) (.lit (.int 2147483587)))) (.seq (.ret (.bin .Mod (.bi .int (.cons (.bin .FloorDiv (.bin .Mod (.bi .int (.cons (.bin .Mult (.ix (.ref 0) (.lit (.int 1))) (.ix (.ref 0) (.lit (.int 1)))) .nil)) (.lit (.int 2147483563))) (.lit (.int 19))) .nil)) (.ref 1))) .skip)))
def d0 : FnD := ⟨3, 2, [0], b0⟩
def r0 : Row := ⟨"_law_draw", [], ["pot", "many"], ["pot", "many", "digit"], defArgs (top 51), defBody (top 51), defScope (top 51), d0⟩
/-- _law_pick(pot, some); 0 pot, 1 some -/
def b1 : S := (.seq (.ret (.ix (.ref 1) (.call 0 (.cons (.ref 0) (.cons (.bi .len (.cons (.ref 1) .nil)) .nil))))) .skip)
def d1 : FnD := ⟨2, 2, [0], b1⟩
def r1 : Row := ⟨"_law_pick", [], ["pot", "some"], ["pot", "some"], defArgs (top 52), defBody (top 52), defScope (top 52), d1⟩
/-- _law_mixed(pot, some); 0 pot, 1 some, 2 left, 3 found -/
def b2 : S := (.seq (.par 2 3 (.bi .list (.cons (.ref 1) .nil)) (.lst .nil)) (.seq (.whil (.cmp .NotEq (.ref 2) (.lst .nil)) (.seq (.app 3 (.popi 2 (.call 0 (.cons (.ref 0) (.cons (.bi .len (.cons (.ref 2) .nil)) .nil))))) .skip)) (.seq (.ret (.mv 3)) .skip)))
def d2 : FnD := ⟨4, 2, [0], b2⟩
def r2 : Row := ⟨"_law_mixed", [], ["pot", "some"], ["pot", "some", "left", "found"], defArgs (top 53), defBody (top 53), defScope (top 53), d2⟩
/-- _law_net(pot, most, lots); 0 pot, 1 most, 2 lots, 3 turn, 4 bars, 5 switches, 6 sources, 7 customers, 8 bound, 9 switch, 10 source, 11 customer, 12 one, 13 other -/
def b3 : S := (.seq (.asg (.tup (.cons (.ref 4) (.cons (.ref 5) (.cons (.ref 6) (.cons (.ref 7) .nil))))) (.tup (.cons (.bin .Add (.lit (.int 1)) (.call 0 (.cons (.ref 0) (.cons (.var 1) .nil)))) (.cons (.lst .nil) (.cons (.lst .nil) (.cons (.lst .nil) .nil)))))) (.seq (.forr (.ref 3) (.bi .range1 (.cons (.ife (.cmp .Gt (.ref 4) (.lit (.int 1))) (.call 0 (.cons (.ref 0) (.cons (.bin .Add (.ref 2) (.lit (.int 1))) .nil))) (.lit (.int 0))) .nil)) (.seq (.asg (.tup (.cons (.ref 12) (.cons (.ref 13) .nil))) (.frz (.slc (.call 2 (.cons (.ref 0) (.cons (.rg1 false (.var 4)) .nil))) .nil (.cons (.lit (.int 2)) .nil)))) (.seq (.asg (.ref 8) (.call 1 (.cons (.ref 0) (.cons (.lst (.cons (.lit .none) (.cons (.lit .none) (.cons (.bin .Add (.lit (.int 1)) (.call 0 (.cons (.ref 0) (.cons (.lit (.int 30)) .nil)))) .nil)))) .nil)))) (.seq (.asg (.ref 9) (.tup (.cons (.var 12) (.cons (.var 13) (.cons (.call 1 (.cons (.ref 0) (.cons (.lst (.cons (.lit (.str "breaker")) (.cons (.lit (.str "breaker")) (.cons (.lit (.str "link")) .nil)))) .nil))) (.cons (.var 8) .nil)))))) (.seq (.app 5 (.ife (.cmp .Eq (.call 0 (.cons (.ref 0) (.cons (.lit (.int 9)) .nil))) (.lit (.int 0))) (.tup .nil) (.var 9))) (.seq (.fgt [3, 8, 9, 12, 13]) .skip)))))) (.seq (.forr (.ref 3) (.bi .range1 (.cons (.call 0 (.cons (.ref 0) (.cons (.lit (.int 4)) .nil))) .nil)) (.seq (.asg (.ref 10) (.tup (.cons (.call 0 (.cons (.ref 0) (.cons (.var 4) .nil))) (.cons (.call 1 (.cons (.ref 0) (.cons (.lst (.cons (.lit (.int 0)) (.cons (.lit (.int 0)) (.cons (.lit (.int 0)) (.cons (.lit (.int 1)) .nil))))) .nil))) (.cons (.call 1 (.cons (.ref 0) (.cons (.lst (.cons (.lit (.str "feed")) (.cons (.lit (.str "feed")) (.cons (.lit (.str "maybe")) .nil)))) .nil))) .nil))))) (.seq (.app 6 (.ife (.cmp .Eq (.call 0 (.cons (.ref 0) (.cons (.lit (.int 9)) .nil))) (.lit (.int 0))) (.tup .nil) (.var 10))) (.seq (.fgt [3, 10]) .skip)))) (.seq (.forr (.ref 3) (.bi .range1 (.cons (.call 0 (.cons (.ref 0) (.cons (.lit (.int 5)) .nil))) .nil)) (.seq (.asg (.ref 11) (.tup (.cons (.call 0 (.cons (.ref 0) (.cons (.var 4) .nil))) (.cons (.bin .Add (.lit (.int 1)) (.call 0 (.cons (.ref 0) (.cons (.lit (.int 9)) .nil)))) .nil)))) (.seq (.app 7 (.ife (.cmp .Eq (.call 0 (.cons (.ref 0) (.cons (.lit (.int 9)) .nil))) (.lit (.int 0))) (.tup .nil) (.var 11))) (.seq (.fgt [3, 11]) .skip)))) (.seq (.ret (.tup (.cons (.lit (.str "net")) (.cons (.var 4) (.cons (.bi .tuple (.cons (.ref 5) .nil)) (.cons (.bi .tuple (.cons (.ref 6) .nil)) (.cons (.bi .tuple (.cons (.ref 7) .nil)) .nil))))))) .skip)))))
def d3 : FnD := ⟨14, 3, [0], b3⟩
def r3 : Row := ⟨"_law_net", [], ["pot", "most", "lots"], ["pot", "most", "lots", "turn", "bars", "switches", "sources", "customers", "bound", "switch", "source", "customer", "one", "other"], defArgs (top 54), defBody (top 54), defScope (top 54), d3⟩
/-- _law_switches(net); 0 net, 1 at, 2 switch -/
def b4 : S := (.seq (.ret (.lc [1, 2] (.tup (.cons (.ref 1) (.cons (.ref 2) .nil))) (.bi .enum (.cons (.ix (.ref 0) (.lit (.int 2))) .nil)) (.cons (.cmp .NotEq (.ref 2) (.tup .nil)) .nil) (.var 1))) .skip)
def d4 : FnD := ⟨3, 1, [], b4⟩
def r4 : Row := ⟨"_law_switches", [], ["net"], ["net", "at", "switch"], defArgs (top 55), defBody (top 55), defScope (top 55), d4⟩
/-- _law_feeds(net); 0 net, 1 source -/
def b5 : S := (.seq (.ret (.lc [1] (.ref 1) (.cons (.ix (.ref 0) (.lit (.int 3))) .nil) (.cons (.and (.cmp .NotEq (.ref 1) (.tup .nil)) (.cmp .Eq (.ix (.ref 1) (.lit (.int 2))) (.lit (.str "feed")))) .nil) (.ix (.ref 1) (.lit (.int 0))))) .skip)
def d5 : FnD := ⟨2, 1, [], b5⟩
def r5 : Row := ⟨"_law_feeds", [], ["net"], ["net", "source"], defArgs (top 56), defBody (top 56), defScope (top 56), d5⟩
/-- _law_lots(some); 0 some, 1 found, 2 one, 3 lot -/
def b6 : S := (.seq (.asg (.ref 1) (.frz (.lst (.cons (.frz (.lst .nil)) .nil)))) (.seq (.forr (.ref 2) (.cons (.var 0) .nil) (.seq (.asg (.ref 1) (.frz (.bin .Add (.ref 1) (.lc [3] (.ref 3) (.cons (.var 1) .nil) .nil (.frz (.bin .Add (.ref 3) (.lst (.cons (.var 2) .nil)))))))) (.seq (.fgt [2]) .skip))) (.seq (.ret (.srtl (.var 1))) .skip)))
def d6 : FnD := ⟨4, 1, [], b6⟩
def r6 : Row := ⟨"_law_lots", [], ["some"], ["some", "found", "one", "lot"], defArgs (top 58), defBody (top 58), defScope (top 58), d6⟩
/-- _law_reach(net, usable_v, begins, out); 0 net, 1 usable_v, 2 begins, 3 out, 4 found, 5 left, 6 bar, 7 one, 8 other, 9 at, 10 end -/
def b7 : S := (.seq (.par 4 5 (.lst .nil) (.lc [6] (.ref 6) (.cons (.var 2) .nil) (.cons (.cmp .NotIn (.ref 6) (.ref 3)) .nil) (.var 6))) (.seq (.whil (.cmp .NotEq (.ref 5) (.lst .nil)) (.seq (.asg (.ref 6) (.pop 5)) (.seq (.ife (.cmp .NotIn (.ref 6) (.ref 4)) (.seq (.app 4 (.var 6)) (.seq (.forr (.tup (.cons (.ref 7) (.cons (.ref 8) .nil))) (.cons (.lc [9] (.ref 9) (.cons (.var 1) .nil) (.cons (.cmp .In (.ref 6) (.slc (.ix (.ix (.ref 0) (.lit (.int 2))) (.ref 9)) .nil (.cons (.lit (.int 2)) .nil))) .nil) (.frz (.slc (.ix (.ix (.ref 0) (.lit (.int 2))) (.ref 9)) .nil (.cons (.lit (.int 2)) .nil)))) .nil) (.seq (.ext 5 (.lc [10] (.ref 10) (.cons (.lst (.cons (.var 7) (.cons (.var 8) .nil))) .nil) (.cons (.cmp .NotIn (.ref 10) (.ref 3)) .nil) (.var 10))) (.seq (.fgt [7, 8]) .skip))) (.seq (.fgt [7, 8]) .skip))) .skip) (.seq (.fgt [6, 7, 8]) .skip)))) (.seq (.ret (.bi .sorted (.cons (.ref 4) .nil))) .skip)))
def d7 : FnD := ⟨11, 4, [], b7⟩
def r7 : Row := ⟨"_law_reach", [], ["net", "usable_v", "begins", "out"], ["net", "usable_v", "begins", "out", "found", "left", "bar", "one", "other", "at", "end"], defArgs (top 57), defBody (top 57), defScope (top 57), d7⟩
/-- _law_depths(net); 0 net, 1 lost, 2 feeds, 3 found, 4 reached, 5 bar, 6 at -/
def b8 : S := (.seq (.par 2 3 (.frz (.call 5 (.cons (.var 0) .nil))) (.bin .Mult (.lst (.cons (.lit .none) .nil)) (.ix (.ref 0) (.lit (.int 1))))) (.seq (.forr (.ref 1) (.cons (.call 6 (.cons (.call 4 (.cons (.var 0) .nil)) .nil)) .nil) (.seq (.asg (.ref 4) (.frz (.call 7 (.cons (.var 0) (.cons (.lc [6] (.ref 6) (.cons (.call 4 (.cons (.var 0) .nil)) .nil) (.cons (.cmp .NotIn (.ref 6) (.ref 1)) .nil) (.var 6)) (.cons (.var 2) (.cons (.lst .nil) .nil))))))) (.seq (.forr (.ref 5) (.bi .range1 (.cons (.ix (.ref 0) (.lit (.int 1))) .nil)) (.seq (.ife (.and (.cmp .NotIn (.ref 5) (.ref 4)) (.cmp .Is (.ix (.ref 3) (.ref 5)) (.lit .none))) (.seq (.sub 3 (.var 5) (.bi .len (.cons (.ref 1) .nil))) .skip) .skip) (.seq (.fgt [5]) .skip))) (.seq (.fgt [1, 4, 5]) .skip)))) (.seq (.ret (.mv 3)) .skip)))
def d8 : FnD := ⟨7, 1, [], b8⟩
def r8 : Row := ⟨"_law_depths", [], ["net"], ["net", "lost", "feeds", "found", "reached", "bar", "at"], defArgs (top 59), defBody (top 59), defScope (top 59), d8⟩
/-- is_integer(value); 0 value -/
def b9 : S := (.seq (.ret (.and (.isi (.ref 0) [.int]) (.not (.isi (.ref 0) [.bool])))) .skip)
def d9 : FnD := ⟨1, 1, [], b9⟩
def r9 : Row := ⟨"is_integer", [], ["value"], ["value"], defArgs (top 8), defBody (top 8), defScope (top 8), d9⟩
/-- is_within(value, least, most); 0 value, 1 least, 2 most -/
def b10 : S := (.seq (.ret (.and (.call 9 (.cons (.var 0) .nil)) (.chain .LtE .LtE (.ref 1) (.ref 0) (.ref 2)))) .skip)
def d10 : FnD := ⟨3, 3, [], b10⟩
def r10 : Row := ⟨"is_within", [], ["value", "least", "most"], ["value", "least", "most"], defArgs (top 10), defBody (top 10), defScope (top 10), d10⟩
/-- is_word(value, some); 0 value, 1 some -/
def b11 : S := (.seq (.ret (.and (.isi (.ref 0) [.str]) (.cmp .In (.ref 0) (.ref 1)))) .skip)
def d11 : FnD := ⟨2, 2, [], b11⟩
def r11 : Row := ⟨"is_word", [], ["value", "some"], ["value", "some"], defArgs (top 23), defBody (top 23), defScope (top 23), d11⟩
/-- is_part(value, most); 0 value, 1 most -/
def b12 : S := (.seq (.ret (.and (.isi (.ref 0) [.tup]) (.cmp .LtE (.bi .len (.cons (.ref 0) .nil)) (.ref 1)))) .skip)
def d12 : FnD := ⟨2, 2, [], b12⟩
def r12 : Row := ⟨"is_part", [], ["value", "most"], ["value", "most"], defArgs (top 29), defBody (top 29), defScope (top 29), d12⟩
/-- is_bound(value); 0 value -/
def b13 : S := (.seq (.ret (.or (.cmp .Is (.ref 0) (.lit .none)) (.call 10 (.cons (.var 0) (.cons (.lit (.int 1)) (.cons (.glob 0 (.int 99999)) .nil)))))) .skip)
def d13 : FnD := ⟨1, 1, [], b13⟩
def r13 : Row := ⟨"is_bound", [], ["value"], ["value"], defArgs (top 24), defBody (top 24), defScope (top 24), d13⟩
/-- is_switch_of(bars, value); 0 bars, 1 value, 2 one, 3 other, 4 kind, 5 bound -/
def b14 : S := (.seq (.ife (.or (.not (.isi (.ref 1) [.tup])) (.cmp .NotIn (.bi .len (.cons (.ref 1) .nil)) (.tup (.cons (.lit (.int 0)) (.cons (.lit (.int 4)) .nil))))) (.seq (.ret (.lit (.bool false))) .skip) .skip) (.seq (.ife (.cmp .Eq (.ref 1) (.tup .nil)) (.seq (.ret (.lit (.bool true))) .skip) .skip) (.seq (.asg (.tup (.cons (.ref 2) (.cons (.ref 3) (.cons (.ref 4) (.cons (.ref 5) .nil))))) (.var 1)) (.seq (.ife (.or (.not (.call 10 (.cons (.var 2) (.cons (.lit (.int 0)) (.cons (.bin .Sub (.ref 0) (.lit (.int 1))) .nil))))) (.or (.not (.call 10 (.cons (.var 3) (.cons (.lit (.int 0)) (.cons (.bin .Sub (.ref 0) (.lit (.int 1))) .nil))))) (.cmp .Eq (.ref 2) (.ref 3)))) (.seq (.ret (.lit (.bool false))) .skip) .skip) (.seq (.ret (.and (.call 11 (.cons (.var 4) (.cons (.tup (.cons (.glob 1 (.str "breaker")) (.cons (.glob 2 (.str "link")) .nil))) .nil))) (.call 13 (.cons (.var 5) .nil)))) .skip)))))
def d14 : FnD := ⟨6, 2, [], b14⟩
def r14 : Row := ⟨"is_switch_of", [], ["bars", "value"], ["bars", "value", "one", "other", "kind", "bound"], defArgs (top 25), defBody (top 25), defScope (top 25), d14⟩
/-- is_source_of(bars, value); 0 bars, 1 value, 2 bar, 3 phase, 4 sort -/
def b15 : S := (.seq (.ife (.or (.not (.isi (.ref 1) [.tup])) (.cmp .NotIn (.bi .len (.cons (.ref 1) .nil)) (.tup (.cons (.lit (.int 0)) (.cons (.lit (.int 3)) .nil))))) (.seq (.ret (.lit (.bool false))) .skip) .skip) (.seq (.ife (.cmp .Eq (.ref 1) (.tup .nil)) (.seq (.ret (.lit (.bool true))) .skip) .skip) (.seq (.asg (.tup (.cons (.ref 2) (.cons (.ref 3) (.cons (.ref 4) .nil)))) (.var 1)) (.seq (.ret (.and (.call 10 (.cons (.var 2) (.cons (.lit (.int 0)) (.cons (.bin .Sub (.ref 0) (.lit (.int 1))) .nil)))) (.and (.call 10 (.cons (.var 3) (.cons (.lit (.int 0)) (.cons (.glob 5 (.int 9)) .nil)))) (.call 11 (.cons (.var 4) (.cons (.tup (.cons (.glob 3 (.str "feed")) (.cons (.glob 4 (.str "maybe")) .nil))) .nil)))))) .skip))))
def d15 : FnD := ⟨5, 2, [], b15⟩
def r15 : Row := ⟨"is_source_of", [], ["bars", "value"], ["bars", "value", "bar", "phase", "sort"], defArgs (top 26), defBody (top 26), defScope (top 26), d15⟩
/-- is_customer_of(bars, value); 0 bars, 1 value -/
def b16 : S := (.seq (.ife (.or (.not (.isi (.ref 1) [.tup])) (.cmp .NotIn (.bi .len (.cons (.ref 1) .nil)) (.tup (.cons (.lit (.int 0)) (.cons (.lit (.int 2)) .nil))))) (.seq (.ret (.lit (.bool false))) .skip) .skip) (.seq (.ret (.or (.cmp .Eq (.ref 1) (.tup .nil)) (.and (.call 10 (.cons (.ix (.ref 1) (.lit (.int 0))) (.cons (.lit (.int 0)) (.cons (.bin .Sub (.ref 0) (.lit (.int 1))) .nil)))) (.call 10 (.cons (.ix (.ref 1) (.lit (.int 1))) (.cons (.lit (.int 1)) (.cons (.glob 6 (.int 9999)) .nil))))))) .skip))
def d16 : FnD := ⟨2, 2, [], b16⟩
def r16 : Row := ⟨"is_customer_of", [], ["bars", "value"], ["bars", "value"], defArgs (top 27), defBody (top 27), defScope (top 27), d16⟩
/-- flaw(value); 0 value, 1 word, 2 bars, 3 switches, 4 sources, 5 customers, 6 one -/
def b17 : S := (.seq (.ife (.or (.not (.isi (.ref 0) [.tup])) (.or (.cmp .NotEq (.bi .len (.cons (.ref 0) .nil)) (.lit (.int 5))) (.not (.call 11 (.cons (.ix (.ref 0) (.lit (.int 0))) (.cons (.tup (.cons (.lit (.str "net")) .nil)) .nil)))))) (.seq (.ret (.lit (.str "form"))) .skip) .skip) (.seq (.asg (.tup (.cons (.ref 1) (.cons (.ref 2) (.cons (.ref 3) (.cons (.ref 4) (.cons (.ref 5) .nil)))))) (.var 0)) (.seq (.ife (.not (.call 10 (.cons (.var 2) (.cons (.lit (.int 1)) (.cons (.glob 7 (.int 60)) .nil))))) (.seq (.ret (.lit (.str "bars"))) .skip) .skip) (.seq (.ife (.or (.not (.call 12 (.cons (.var 3) (.cons (.glob 8 (.int 90)) .nil)))) (.not (.bi .all (.cons (.lc [6] (.ref 6) (.cons (.var 3) .nil) .nil (.call 14 (.cons (.var 2) (.cons (.var 6) .nil)))) .nil)))) (.seq (.ret (.lit (.str "switches"))) .skip) .skip) (.seq (.ife (.or (.not (.call 12 (.cons (.var 4) (.cons (.glob 9 (.int 12)) .nil)))) (.not (.bi .all (.cons (.lc [6] (.ref 6) (.cons (.var 4) .nil) .nil (.call 15 (.cons (.var 2) (.cons (.var 6) .nil)))) .nil)))) (.seq (.ret (.lit (.str "sources"))) .skip) .skip) (.seq (.ife (.or (.not (.call 12 (.cons (.var 5) (.cons (.glob 10 (.int 40)) .nil)))) (.not (.bi .all (.cons (.lc [6] (.ref 6) (.cons (.var 5) .nil) .nil (.call 16 (.cons (.var 2) (.cons (.var 6) .nil)))) .nil)))) (.seq (.ret (.lit (.str "customers"))) .skip) .skip) (.seq (.ret (.lit .none)) .skip)))))))
def d17 : FnD := ⟨7, 1, [], b17⟩
def r17 : Row := ⟨"flaw", [], ["value"], ["value", "word", "bars", "switches", "sources", "customers", "one"], defArgs (top 28), defBody (top 28), defScope (top 28), d17⟩
/-- check_net(net); 0 net -/
def b18 : S := (.seq (.ife (.cmp .IsNot (.call 17 (.cons (.var 0) .nil)) (.lit .none)) .never .skip) .skip)
def d18 : FnD := ⟨1, 1, [], b18⟩
def r18 : Row := ⟨"check_net", [], ["net"], ["net"], defArgs (top 30), defBody (top 30), defScope (top 30), d18⟩
/-- is_list(value); 0 value -/
def b19 : S := (.seq (.ret (.isi (.ref 0) [.lst, .tup])) .skip)
def d19 : FnD := ⟨1, 1, [], b19⟩
def r19 : Row := ⟨"is_list", [], ["value"], ["value"], defArgs (top 11), defBody (top 11), defScope (top 11), d19⟩
/-- is_count(value); 0 value -/
def b20 : S := (.seq (.ret (.and (.call 9 (.cons (.var 0) .nil)) (.cmp .GtE (.ref 0) (.lit (.int 0))))) .skip)
def d20 : FnD := ⟨1, 1, [], b20⟩
def r20 : Row := ⟨"is_count", [], ["value"], ["value"], defArgs (top 9), defBody (top 9), defScope (top 9), d20⟩
/-- are_switches(net, value); 0 net, 1 value, 2 one, 3 other -/
def b21 : S := (.seq (.ife (.or (.not (.call 19 (.cons (.var 1) .nil))) (.not (.bi .all (.cons (.lc [2] (.ref 2) (.cons (.var 1) .nil) .nil (.and (.call 20 (.cons (.var 2) .nil)) (.cmp .Lt (.ref 2) (.bi .len (.cons (.ix (.ref 0) (.lit (.int 2))) .nil))))) .nil)))) (.seq (.ret (.lit (.bool false))) .skip) .skip) (.seq (.ret (.and (.bi .all (.cons (.lc [2] (.ref 2) (.cons (.var 1) .nil) .nil (.cmp .NotEq (.ix (.ix (.ref 0) (.lit (.int 2))) (.ref 2)) (.tup .nil))) .nil)) (.bi .all (.cons (.lc [2, 3] (.tup (.cons (.ref 2) (.cons (.ref 3) .nil))) (.bi .zip (.cons (.var 1) (.cons (.frz (.slc (.ref 1) (.cons (.lit (.int 1)) .nil) .nil)) .nil))) .nil (.cmp .Lt (.ref 2) (.ref 3))) .nil)))) .skip))
def d21 : FnD := ⟨4, 2, [], b21⟩
def r21 : Row := ⟨"are_switches", [], ["net", "value"], ["net", "value", "one", "other"], defArgs (top 43), defBody (top 43), defScope (top 43), d21⟩
/-- check_lost(net, lost); 0 net, 1 lost -/
def b22 : S := (.seq (.ife (.not (.call 21 (.cons (.var 0) (.cons (.var 1) .nil)))) .never .skip) .skip)
def d22 : FnD := ⟨2, 2, [], b22⟩
def r22 : Row := ⟨"check_lost", [], ["net", "lost"], ["net", "lost"], defArgs (top 44), defBody (top 44), defScope (top 44), d22⟩
/-- joined_to(table, begun); 0 table, 1 begun, 2 found, 3 wave, 4 later, 5 bar, 6 place, 7 other -/
def b23 : S := (.seq (.par 2 3 (.bi .list (.cons (.ref 1) .nil)) (.frz (.bi .list (.cons (.ref 1) .nil)))) (.seq (.whil (.cmp .NotEq (.ref 3) (.lst .nil)) (.seq (.asg (.ref 4) (.lst .nil)) (.seq (.forr (.ref 5) (.cons (.var 3) .nil) (.seq (.forr (.tup (.cons (.ref 6) (.cons (.ref 7) .nil))) (.cons (.ix (.ref 0) (.ref 5)) .nil) (.seq (.ife (.cmp .NotIn (.ref 7) (.ref 2)) (.seq (.app 2 (.var 7)) (.seq (.app 4 (.var 7)) .skip)) .skip) (.seq (.fgt [6, 7]) .skip))) (.seq (.fgt [5, 6, 7]) .skip))) (.seq (.asg (.ref 3) (.mv 4)) (.seq (.fgt [4, 5, 6, 7]) .skip))))) (.seq (.ret (.bi .sorted (.cons (.ref 2) .nil))) .skip)))
def d23 : FnD := ⟨8, 2, [], b23⟩
def r23 : Row := ⟨"joined_to", [], ["table", "begun"], ["table", "begun", "found", "wave", "later", "bar", "place", "other"], defArgs (top 36), defBody (top 36), defScope (top 36), d23⟩
/-- usable(net); 0 net, 1 place, 2 switch -/
def b24 : S := (.seq (.ret (.lc [1, 2] (.tup (.cons (.ref 1) (.cons (.ref 2) .nil))) (.bi .enum (.cons (.ix (.ref 0) (.lit (.int 2))) .nil)) (.cons (.cmp .NotEq (.ref 2) (.tup .nil)) .nil) (.tup (.cons (.var 1) (.cons (.ix (.ref 2) (.lit (.int 0))) (.cons (.ix (.ref 2) (.lit (.int 1))) .nil)))))) .skip)
def d24 : FnD := ⟨3, 1, [], b24⟩
def r24 : Row := ⟨"usable", [], ["net"], ["net", "place", "switch"], defArgs (top 33), defBody (top 33), defScope (top 33), d24⟩
/-- next_table(net, lost); 0 net, 1 lost, 2 found, 3 place, 4 one, 5 other, 6 bar -/
def b25 : S := (.seq (.asg (.ref 2) (.lc [6] (.ref 6) (.bi .range1 (.cons (.ix (.ref 0) (.lit (.int 1))) .nil)) .nil (.lst .nil))) (.seq (.forr (.tup (.cons (.ref 3) (.cons (.ref 4) (.cons (.ref 5) .nil)))) (.cons (.call 24 (.cons (.var 0) .nil)) .nil) (.seq (.ife (.cmp .NotIn (.ref 3) (.ref 1)) (.seq (.app1 2 (.var 4) (.tup (.cons (.var 3) (.cons (.var 5) .nil)))) (.seq (.app1 2 (.var 5) (.tup (.cons (.var 3) (.cons (.var 4) .nil)))) .skip)) .skip) (.seq (.fgt [3, 4, 5]) .skip))) (.seq (.ret (.mv 2)) .skip)))
def d25 : FnD := ⟨7, 2, [], b25⟩
def r25 : Row := ⟨"next_table", [], ["net", "lost"], ["net", "lost", "found", "place", "one", "other", "bar"], defArgs (top 35), defBody (top 35), defScope (top 35), d25⟩
/-- feed_bars(net); 0 net, 1 source -/
def b26 : S := (.seq (.ret (.bi .sset (.cons (.lc [1] (.ref 1) (.cons (.ix (.ref 0) (.lit (.int 3))) .nil) (.cons (.and (.cmp .NotEq (.ref 1) (.tup .nil)) (.cmp .Eq (.ix (.ref 1) (.lit (.int 2))) (.lit (.str "feed")))) .nil) (.ix (.ref 1) (.lit (.int 0)))) .nil))) .skip)
def d26 : FnD := ⟨2, 1, [], b26⟩
def r26 : Row := ⟨"feed_bars", [], ["net"], ["net", "source"], defArgs (top 34), defBody (top 34), defScope (top 34), d26⟩
/-- reached_behind(net, lost); 0 net, 1 lost -/
def b27 : S := (.seq (.ret (.call 23 (.cons (.call 25 (.cons (.var 0) (.cons (.var 1) .nil))) (.cons (.call 26 (.cons (.var 0) .nil)) .nil)))) .skip)
def d27 : FnD := ⟨2, 2, [], b27⟩
def r27 : Row := ⟨"reached_behind", [], ["net", "lost"], ["net", "lost"], defArgs (top 37), defBody (top 37), defScope (top 37), d27⟩
/-- behind_loss(net, lost); 0 net, 1 lost -/
def b28 : S := (.seq (.expr (.call 18 (.cons (.var 0) .nil))) (.seq (.expr (.call 22 (.cons (.var 0) (.cons (.var 1) .nil)))) (.seq (.ret (.call 27 (.cons (.var 0) (.cons (.var 1) .nil)))) .skip)))
def d28 : FnD := ⟨2, 2, [], b28⟩
def r28 : Row := ⟨"behind_loss", [(["lost", "net"], [1, 0])], ["net", "lost"], ["net", "lost"], defArgs (top 45), defBody (top 45), defScope (top 45), d28⟩
/-- check_bar(net, bar); 0 net, 1 bar -/
def b29 : S := (.seq (.ife (.not (.call 10 (.cons (.var 1) (.cons (.lit (.int 0)) (.cons (.bin .Sub (.ix (.ref 0) (.lit (.int 1))) (.lit (.int 1))) .nil))))) .never .skip) .skip)
def d29 : FnD := ⟨2, 2, [], b29⟩
def r29 : Row := ⟨"check_bar", [], ["net", "bar"], ["net", "bar"], defArgs (top 31), defBody (top 31), defScope (top 31), d29⟩
/-- can_go(net, flow, place, bar); 0 net, 1 flow, 2 place, 3 bar -/
def b30 : S := (.seq (.ret (.ife (.cmp .Eq (.ix (.ix (.ix (.ref 0) (.lit (.int 2))) (.ref 2)) (.lit (.int 0))) (.ref 3)) (.cmp .Lt (.ix (.ref 1) (.ref 2)) (.lit (.int 1))) (.cmp .Gt (.ix (.ref 1) (.ref 2)) (.neg (.lit (.int 1)))))) .skip)
def d30 : FnD := ⟨4, 4, [1], b30⟩
def r30 : Row := ⟨"can_go", [], ["net", "flow", "place", "bar"], ["net", "flow", "place", "bar"], defArgs (top 38), defBody (top 38), defScope (top 38), d30⟩
/-- further_way(net, table, flow, goal); 0 net, 1 table, 2 flow, 3 goal, 4 led, 5 wave, 6 later, 7 bar, 8 found, 9 here, 10 place, 11 other -/
def b31 : S := (.seq (.par 4 5 (.dctp (.lc [7] (.ref 7) (.cons (.call 26 (.cons (.var 0) .nil)) .nil) .nil (.tup (.cons (.var 7) (.cons (.lit .none) .nil))))) (.frz (.call 26 (.cons (.var 0) .nil)))) (.seq (.whil (.and (.cmp .NotEq (.ref 5) (.lst .nil)) (.cmp .NotIn (.ref 3) (.ref 4))) (.seq (.asg (.ref 6) (.lst .nil)) (.seq (.forr (.ref 7) (.cons (.var 5) .nil) (.seq (.forr (.tup (.cons (.ref 10) (.cons (.ref 11) .nil))) (.cons (.ix (.ref 1) (.ref 7)) .nil) (.seq (.ife (.and (.cmp .NotIn (.ref 11) (.ref 4)) (.call 30 (.cons (.var 0) (.cons (.ref 2) (.cons (.var 10) (.cons (.var 7) .nil)))))) (.seq (.sub 4 (.var 11) (.tup (.cons (.var 10) (.cons (.var 7) .nil)))) (.seq (.app 6 (.var 11)) .skip)) .skip) (.seq (.fgt [10, 11]) .skip))) (.seq (.fgt [7, 10, 11]) .skip))) (.seq (.asg (.ref 5) (.mv 6)) (.seq (.fgt [6, 7, 10, 11]) .skip))))) (.seq (.ife (.cmp .NotIn (.ref 3) (.ref 4)) (.seq (.ret (.lit .none)) .skip) .skip) (.seq (.par 8 9 (.lst .nil) (.var 3)) (.seq (.whil (.cmp .IsNot (.ix (.ref 4) (.ref 9)) (.lit .none)) (.seq (.app 8 (.ix (.ref 4) (.ref 9))) (.seq (.asg (.ref 9) (.ix (.ix (.ref 4) (.ref 9)) (.lit (.int 1)))) .skip))) (.seq (.ret (.mv 8)) .skip))))))
def d31 : FnD := ⟨12, 4, [2], b31⟩
def r31 : Row := ⟨"further_way", [], ["net", "table", "flow", "goal"], ["net", "table", "flow", "goal", "led", "wave", "later", "bar", "found", "here", "place", "other"], defArgs (top 39), defBody (top 39), defScope (top 39), d31⟩
/-- depth_of(net, bar); 0 net, 1 bar, 2 way, 3 table, 4 flow, 5 many, 6 place, 7 near -/
def b32 : S := (.seq (.ife (.cmp .In (.ref 1) (.call 26 (.cons (.var 0) .nil))) (.seq (.ret (.lit .none)) .skip) .skip) (.seq (.par3 3 4 5 (.frz (.call 25 (.cons (.var 0) (.cons (.lst .nil) .nil)))) (.bin .Mult (.lst (.cons (.lit (.int 0)) .nil)) (.bi .len (.cons (.ix (.ref 0) (.lit (.int 2))) .nil))) (.lit (.int 0))) (.seq (.asg (.ref 2) (.frz (.call 31 (.cons (.var 0) (.cons (.var 3) (.cons (.ref 4) (.cons (.var 1) .nil))))))) (.seq (.whil (.cmp .IsNot (.ref 2) (.lit .none)) (.seq (.asg (.ref 5) (.bin .Add (.ref 5) (.lit (.int 1)))) (.seq (.forr (.tup (.cons (.ref 6) (.cons (.ref 7) .nil))) (.cons (.var 2) .nil) (.seq (.sub 4 (.var 6) (.bin .Add (.ix (.ref 4) (.ref 6)) (.ife (.cmp .Eq (.ix (.ix (.ix (.ref 0) (.lit (.int 2))) (.ref 6)) (.lit (.int 0))) (.ref 7)) (.lit (.int 1)) (.neg (.lit (.int 1)))))) (.seq (.fgt [6, 7]) .skip))) (.seq (.asg (.ref 2) (.frz (.call 31 (.cons (.var 0) (.cons (.var 3) (.cons (.ref 4) (.cons (.var 1) .nil))))))) (.seq (.fgt [6, 7]) .skip))))) (.seq (.ret (.var 5)) .skip)))))
def d32 : FnD := ⟨8, 2, [], b32⟩
def r32 : Row := ⟨"depth_of", [], ["net", "bar"], ["net", "bar", "way", "table", "flow", "many", "place", "near"], defArgs (top 40), defBody (top 40), defScope (top 40), d32⟩
/-- supply_depth(net, bar); 0 net, 1 bar -/
def b33 : S := (.seq (.expr (.call 18 (.cons (.var 0) .nil))) (.seq (.expr (.call 29 (.cons (.var 0) (.cons (.var 1) .nil)))) (.seq (.ret (.call 32 (.cons (.var 0) (.cons (.var 1) .nil)))) .skip)))
def d33 : FnD := ⟨2, 2, [], b33⟩
def r33 : Row := ⟨"supply_depth", [(["bar", "net"], [1, 0])], ["net", "bar"], ["net", "bar"], defArgs (top 46), defBody (top 46), defScope (top 46), d33⟩
/-- told_customers(net); 0 net, 1 customer -/
def b34 : S := (.seq (.ret (.lc [1] (.ref 1) (.cons (.ix (.ref 0) (.lit (.int 4))) .nil) (.cons (.cmp .NotEq (.ref 1) (.tup .nil)) .nil) (.var 1))) .skip)
def d34 : FnD := ⟨2, 1, [], b34⟩
def r34 : Row := ⟨"told_customers", [], ["net"], ["net", "customer"], defArgs (top 42), defBody (top 42), defScope (top 42), d34⟩
/-- weakest(net); 0 net, 1 bars, 2 rows, 3 least, 4 bar, 5 depth, 6 load -/
def b35 : S := (.seq (.expr (.call 18 (.cons (.var 0) .nil))) (.seq (.asg (.ref 1) (.frz (.bi .sset (.cons (.lc [4, 6] (.tup (.cons (.ref 4) (.cons (.ref 6) .nil))) (.cons (.call 34 (.cons (.var 0) .nil)) .nil) (.cons (.cmp .NotIn (.ref 4) (.call 26 (.cons (.var 0) .nil))) .nil) (.var 4)) .nil)))) (.seq (.asg (.ref 2) (.frz (.lc [4] (.ref 4) (.cons (.var 1) .nil) .nil (.tup (.cons (.call 32 (.cons (.var 0) (.cons (.var 4) .nil))) (.cons (.var 4) .nil)))))) (.seq (.ife (.cmp .Eq (.ref 2) (.lst .nil)) (.seq (.ret (.tup (.cons (.lit .none) (.cons (.lst .nil) .nil)))) .skip) .skip) (.seq (.asg (.ref 3) (.ix (.bi .min1 (.cons (.ref 2) .nil)) (.lit (.int 0)))) (.seq (.ret (.tup (.cons (.var 3) (.cons (.lc [5, 4] (.tup (.cons (.ref 5) (.cons (.ref 4) .nil))) (.cons (.var 2) .nil) (.cons (.cmp .Eq (.ref 5) (.ref 3)) .nil) (.var 4)) .nil)))) .skip))))))
def d35 : FnD := ⟨7, 1, [], b35⟩
def r35 : Row := ⟨"weakest", [], ["net"], ["net", "bars", "rows", "least", "bar", "depth", "load"], defArgs (top 48), defBody (top 48), defScope (top 48), d35⟩
/-- is_deep(depth, number); 0 depth, 1 number -/
def b36 : S := (.seq (.ret (.or (.cmp .Is (.ref 0) (.lit .none)) (.cmp .GtE (.ref 0) (.ref 1)))) .skip)
def d36 : FnD := ⟨2, 2, [], b36⟩
def r36 : Row := ⟨"is_deep", [], ["depth", "number"], ["depth", "number"], defArgs (top 41), defBody (top 41), defScope (top 41), d36⟩
/-- holds(net, bar, number); 0 net, 1 bar, 2 number -/
def b37 : S := (.seq (.expr (.call 18 (.cons (.var 0) .nil))) (.seq (.expr (.call 29 (.cons (.var 0) (.cons (.var 1) .nil)))) (.seq (.ife (.not (.call 20 (.cons (.var 2) .nil))) .never .skip) (.seq (.ret (.call 36 (.cons (.call 32 (.cons (.var 0) (.cons (.var 1) .nil))) (.cons (.var 2) .nil)))) .skip))))
def d37 : FnD := ⟨3, 3, [], b37⟩
def r37 : Row := ⟨"holds", [], ["net", "bar", "number"], ["net", "bar", "number"], defArgs (top 47), defBody (top 47), defScope (top 47), d37⟩
/-- _law_right(pot); 0 pot, 1 net, 2 bar, 3 turn, 4 some, 5 least, 6 shown, 7 every, 8 feeds, 9 due, 10 numbers, 11 good, 12 lost, 13 reached, 14 told, 15 customer, 16 number, 17 at -/
def b38 : S := (.seq (.asg (.ref 1) (.call 3 (.cons (.ref 0) (.cons (.lit (.int 6)) (.cons (.lit (.int 8)) .nil))))) (.seq (.par 6 7 (.bi .repr (.cons (.ref 1) .nil)) (.frz (.call 4 (.cons (.var 1) .nil)))) (.seq (.asg (.tup (.cons (.ref 8) (.cons (.ref 9) .nil))) (.tup (.cons (.frz (.call 5 (.cons (.var 1) .nil))) (.cons (.frz (.call 8 (.cons (.var 1) .nil))) .nil)))) (.seq (.ife (.cmp .NotEq (.bi .repr (.cons (.lc [2] (.ref 2) (.bi .range1 (.cons (.ix (.ref 1) (.lit (.int 1))) .nil)) .nil (.call 33 (.cons (.var 1) (.cons (.var 2) .nil)))) .nil)) (.bi .repr (.cons (.ref 9) .nil))) (.seq (.ret (.lit (.bool false))) .skip) .skip) (.seq (.forr (.ref 2) (.bi .range1 (.cons (.ix (.ref 1) (.lit (.int 1))) .nil)) (.seq (.ife (.cmp .NotEq (.bi .repr (.cons (.callk 33 [1, 0] (.cons (.var 2) (.cons (.var 1) .nil))) .nil)) (.bi .repr (.cons (.ix (.ref 9) (.ref 2)) .nil))) (.seq (.ret (.lit (.bool false))) .skip) .skip) (.seq (.asg (.ref 10) (.frz (.bin .Add (.lst (.cons (.lit (.int 0)) (.cons (.lit (.int 1)) (.cons (.lit (.int 2)) (.cons (.lit (.int 3)) (.cons (.bin .Pow (.lit (.int 10)) (.lit (.int 6))) .nil)))))) (.ife (.cmp .Is (.ix (.ref 9) (.ref 2)) (.lit .none)) (.lst .nil) (.lst (.cons (.ix (.ref 9) (.ref 2)) (.cons (.bin .Add (.ix (.ref 9) (.ref 2)) (.lit (.int 1))) .nil))))))) (.seq (.asg (.ref 11) (.frz (.lc [16] (.ref 16) (.cons (.var 10) .nil) .nil (.or (.cmp .Is (.ix (.ref 9) (.ref 2)) (.lit .none)) (.cmp .GtE (.ix (.ref 9) (.ref 2)) (.ref 16)))))) (.seq (.ife (.cmp .NotEq (.bi .repr (.cons (.lc [16] (.ref 16) (.cons (.var 10) .nil) .nil (.call 37 (.cons (.var 1) (.cons (.var 2) (.cons (.var 16) .nil))))) .nil)) (.bi .repr (.cons (.ref 11) .nil))) (.seq (.ret (.lit (.bool false))) .skip) .skip) (.seq (.fgt [2, 10, 11]) .skip)))))) (.seq (.forr (.ref 3) (.bi .range1 (.cons (.lit (.int 4)) .nil)) (.seq (.asg (.ref 12) (.frz (.bi .sorted (.cons (.slc (.call 2 (.cons (.ref 0) (.cons (.var 7) .nil))) .nil (.cons (.call 0 (.cons (.ref 0) (.cons (.lit (.int 4)) .nil))) .nil)) .nil)))) (.seq (.asg (.ref 13) (.frz (.call 7 (.cons (.var 1) (.cons (.lc [17] (.ref 17) (.cons (.var 7) .nil) (.cons (.cmp .NotIn (.ref 17) (.ref 12)) .nil) (.var 17)) (.cons (.var 8) (.cons (.lst .nil) .nil))))))) (.seq (.asg (.ref 14) (.lst (.cons (.call 28 (.cons (.var 1) (.cons (.var 12) .nil))) (.cons (.callk 28 [1, 0] (.cons (.bi .tuple (.cons (.ref 12) .nil)) (.cons (.var 1) .nil))) .nil)))) (.seq (.ife (.cmp .NotEq (.bi .repr (.cons (.ref 14) .nil)) (.repL (.cons (.ref 13) (.cons (.ref 13) .nil)))) (.seq (.ret (.lit (.bool false))) .skip) .skip) (.seq (.app1 14 (.lit (.int 0)) (.lit .none)) (.seq (.ife (.cmp .NotEq (.bi .repr (.cons (.call 28 (.cons (.var 1) (.cons (.var 12) .nil))) .nil)) (.bi .repr (.cons (.ref 13) .nil))) (.seq (.ret (.lit (.bool false))) .skip) .skip) (.seq (.fgt [3, 12, 13, 14]) .skip)))))))) (.seq (.asg (.ref 4) (.frz (.lc [15] (.ref 15) (.cons (.ix (.ref 1) (.lit (.int 4))) .nil) (.cons (.and (.cmp .NotEq (.ref 15) (.tup .nil)) (.cmp .IsNot (.ix (.ref 9) (.ix (.ref 15) (.lit (.int 0)))) (.lit .none))) .nil) (.ix (.ref 15) (.lit (.int 0)))))) (.seq (.asg (.ref 4) (.frz (.bi .sset (.cons (.ref 4) .nil)))) (.seq (.asg (.ref 5) (.ife (.cmp .NotEq (.ref 4) (.lst .nil)) (.bi .min1 (.cons (.lc [2] (.ref 2) (.cons (.var 4) .nil) .nil (.ix (.ref 9) (.ref 2))) .nil)) (.lit .none))) (.seq (.ret (.and (.cmp .Eq (.bi .repr (.cons (.call 35 (.cons (.var 1) .nil)) .nil)) (.bi .repr (.cons (.tup (.cons (.var 5) (.cons (.frz (.lc [2] (.ref 2) (.cons (.var 4) .nil) (.cons (.cmp .Eq (.ix (.ref 9) (.ref 2)) (.ref 5)) .nil) (.var 2))) .nil))) .nil))) (.cmp .Eq (.bi .repr (.cons (.ref 1) .nil)) (.ref 6)))) .skip))))))))))
def d38 : FnD := ⟨18, 1, [0], b38⟩
def r38 : Row := ⟨"_law_right", [], ["pot"], ["pot", "net", "bar", "turn", "some", "least", "shown", "every", "feeds", "due", "numbers", "good", "lost", "reached", "told", "customer", "number", "at"], defArgs (top 60), defBody (top 60), defScope (top 60), d38⟩
/-- _law_pot(script, k); 0 script, 1 k, 2 cell -/
def b39 : S := (.seq (.asg (.ref 2) (.bin .Add (.bin .Mult (.lit (.int 271)) (.ref 1)) (.lit (.int 7919)))) (.seq (.ife (.cmp .Lt (.ref 1) (.bi .len (.cons (.ref 0) .nil))) (.seq (.asg (.ref 2) (.bi .abs (.cons (.ix (.ref 0) (.ref 1)) .nil))) .skip) .skip) (.seq (.ret (.lst (.cons (.bi .max2 (.cons (.lit (.int 0)) (.cons (.bin .Sub (.ref 2) (.bin .Pow (.lit (.int 10)) (.lit (.int 18)))) .nil))) (.cons (.bin .Add (.bin .Mod (.bi .int (.cons (.bin .Add (.bin .Add (.bin .Mult (.bin .Mod (.bi .int (.cons (.ref 2) .nil)) (.lit (.int 2147483549))) (.lit (.int 40014))) (.bin .Mult (.lit (.int 7919)) (.ref 1))) (.lit (.int 61))) .nil)) (.lit (.int 2147483563))) (.lit (.int 1))) .nil)))) .skip)))
def d39 : FnD := ⟨3, 2, [], b39⟩
def r39 : Row := ⟨"_law_pot", [], ["script", "k"], ["script", "k", "cell"], defArgs (top 50), defBody (top 50), defScope (top 50), d39⟩
/-- law(script); 0 script, 1 k -/
def b40 : S := (.seq (.ret (.bi .all (.cons (.lc [1] (.ref 1) (.bi .range1 (.cons (.bi .max2 (.cons (.lit (.int 1)) (.cons (.bi .min2 (.cons (.lit (.int 2)) (.cons (.bi .len (.cons (.ref 0) .nil)) .nil))) .nil))) .nil)) .nil (.call 38 (.cons (.call 39 (.cons (.var 0) (.cons (.var 1) .nil))) .nil))) .nil))) .skip)
def d40 : FnD := ⟨2, 1, [], b40⟩
def r40 : Row := ⟨"law", [], ["script"], ["script", "k"], defArgs (top 61), defBody (top 61), defScope (top 61), d40⟩
def rows : List Row := [r0, r1, r2, r3, r4, r5, r6, r7, r8, r9, r10, r11, r12, r13, r14, r15, r16, r17, r18, r19, r20, r21, r22, r23, r24, r25, r26, r27, r28, r29, r30, r31, r32, r33, r34, r35, r36, r37, r38, r39]
def rL : Row := r40
end K22
namespace K22
open PySem L2 Mi

/-- the list that draws go from -/
def Pot (t : AV) : Prop := ∃ a b : Int, t = .own [.d (.int a), .d (.int b)] ∧ 0 ≤ a ∧ 0 ≤ b ∧ b < 2 ^ 64
def IsDraw (G : FnS) : Prop := G.n = 2 ∧ G.io = [0] ∧ ∀ t (m : Int), Pot t → 0 < m → m < 1073741824 → ∃ d u, G.sem [t, .d (.int m)] = some (.d (.int d), [u]) ∧ 0 ≤ d ∧ d < m ∧ Pot u
theorem draw_ok (Φ : Phi) : IsDraw (semOf Φ d0) := by
  refine ⟨rfl, rfl, ?_⟩
  rintro t m ⟨a, b, rfl, ha, hb, hb2⟩ hm hm2
  by_cases h : 0 < a
  · refine ⟨a % m, .own [.d (.int (a / m)), .d (.int b)], ?_, Int.emod_nonneg _ (by omega), Int.emod_lt_of_pos _ hm, a / m, b, rfl, Int.ediv_nonneg ha (by omega), hb, hb2⟩
    simp [semOf, runF, d0, b0, startE, exS, evT, evE, opd, look, getv, ixV, atI, ixN, cmpV, intCmp, evL, biV, okDiv, AV.dat, h, hm, hm2]
  · have e : a = 0 := by omega
    subst e
    have k1 : 0 ≤ (b * 39373 + 277) % 2147483587 := Int.emod_nonneg _ (by decide)
    have k2 : (b * 39373 + 277) % 2147483587 < 2147483587 := Int.emod_lt_of_pos _ (by decide)
    generalize hc : (b * 39373 + 277) % 2147483587 = c at k1 k2
    refine ⟨(c * c % 2147483563 / 19) % m, .own [.d (.int 0), .d (.int c)], ?_, Int.emod_nonneg _ (by omega), Int.emod_lt_of_pos _ hm, 0, c, rfl, Int.le_refl 0, k1, by omega⟩
    have q1 : okMul b 39373 = true := by
      unfold okMul
      simp
    have q2 : okMul c c = true := by
      unfold okMul
      simp
      omega
    simp [semOf, runF, d0, b0, startE, exS, evT, evE, opd, look, getv, ixV, atI, ixN, cmpV, intCmp, evL, biV, okDiv, AV.dat, binV, setIx, q1, q2, hc, hm, hm2]
theorem call_draw {Φ : Phi} {k : Nat} {G : FnS} (hG : IsDraw G) {env : SEnv} {i : Nat} {t : AV} {m : Int} (ht : getv env i = some t) (hp : Pot t) (h0 : 0 < m) (h1 : m < 1073741824) : ∃ d u, callV G [.slot i, .val (.d (.int m))] env = some (.d (.int d), env.set i (some u)) ∧ 0 ≤ d ∧ d < m ∧ Pot u := by
  obtain ⟨g1, g2, g3⟩ := hG
  obtain ⟨d, u, e, h2, h3, h4⟩ := g3 t m hp h0 h1
  refine ⟨d, u, ?_, h2, h3, h4⟩
  simp [callV, g1, g2, prepA, ht, e, putB, AV.dat]
def IsPick (G : FnS) : Prop := G.n = 2 ∧ G.io = [0] ∧ ∀ t (xs : List PyData), Pot t → xs ≠ [] → xs.length < 1000 → ∃ x u, G.sem [t, .d (.list xs)] = some (.d x, [u]) ∧ x ∈ xs ∧ Pot u
theorem pick_ok (Φ : Phi) {G : FnS} (h0 : Φ[0]? = some G) (hG : IsDraw G) : IsPick (semOf Φ d1) := by
  refine ⟨rfl, rfl, ?_⟩
  intro t xs hp hne hl
  have hpos : 0 < xs.length := List.length_pos_iff.mpr hne
  obtain ⟨d, u, e, h1, h2, h3⟩ := call_draw (Φ := Φ) (k := 0) hG (env := [some t, some (.d (.list xs))]) (i := 0) (m := (xs.length : Int)) rfl hp (by omega) (by omega)
  have hlt : d.toNat < xs.length := by omega
  refine ⟨xs[d.toNat], u, ?_, List.getElem_mem _, h3⟩
  have hat : atI xs d = some xs[d.toNat] := by
    unfold atI ixN
    rw [if_pos h1, if_pos h2]
    exact List.getElem?_eq_getElem hlt
  simp [semOf, runF, d1, b1, startE, exS, evE, opd, look, getv, evL, biV, h0, ixV, hat]
  simp [getv] at e
  simp [e, hat, AV.dat]
/-- data that may be compared: no dicts within, at most n deep -/
def Dk (n : Nat) (x : PyData) : Prop := x.canLay0 = true ∧ x.depth ≤ n
theorem Dk.mono {m n : Nat} {x : PyData} (h : Dk m x) (hmn : m ≤ n) : Dk n x := ⟨h.1, Nat.le_trans h.2 hmn⟩
theorem dk_all {n : Nat} : ∀ {xs : List PyData}, (∀ x ∈ xs, Dk n x) → PyData.canLayAll0 xs = true ∧ PyData.depthAll xs ≤ n
  | [], _ => ⟨by simp [PyData.canLayAll0], by simp [PyData.depthAll]⟩
  | x :: xs, h => by
    obtain ⟨h1, h2⟩ := dk_all fun y m => h y (List.mem_cons_of_mem _ m)
    obtain ⟨h3, h4⟩ := h x List.mem_cons_self
    exact ⟨by simp [PyData.canLayAll0, h1, h3], by simp only [PyData.depthAll]; omega⟩
theorem dk_list {n : Nat} {xs : List PyData} (h : ∀ x ∈ xs, Dk n x) : Dk (n + 1) (.list xs) := by
  obtain ⟨h1, h2⟩ := dk_all h
  exact ⟨by simp [PyData.canLay0, h1], by simp only [PyData.depth]; omega⟩
theorem dk_tuple {n : Nat} {xs : List PyData} (h : ∀ x ∈ xs, Dk n x) : Dk (n + 1) (.tuple xs) := by
  obtain ⟨h1, h2⟩ := dk_all h
  exact ⟨by simp [PyData.canLay0, h1], by simp only [PyData.depth]; omega⟩
theorem dk_int (i : Int) : Dk 0 (.int i) := ⟨by simp [PyData.canLay0], by simp [PyData.depth]⟩
theorem dk_str {s : Str} (h : PyData.strOk s = true) : Dk 0 (.str s) := ⟨by simp [PyData.canLay0, h], by simp [PyData.depth]⟩
theorem dk_none : Dk 0 .none := ⟨by simp [PyData.canLay0], by simp [PyData.depth]⟩
theorem dk_bool (b : Bool) : Dk 0 (.bool b) := ⟨by simp [PyData.canLay0], by simp [PyData.depth]⟩
theorem Dk.ok {n : Nat} {x : PyData} (h : Dk n x) (hn : n ≤ 60) : eqOk x = true := by
  unfold eqOk SeqAt.shaped
  rw [h.1, decide_eq_true (show x.depth ≤ 64 by have := h.2; omega)]
  rfl
theorem eqv_nil (xs : List PyData) : PyData.eqv (.list xs) (.list []) = xs.isEmpty := by
  cases xs <;> simp [PyData.eqv, PyData.eqvAll]

theorem while_step (c : SEnv → Option (Bool × SEnv)) (b : SEnv → Option (Fl × SEnv)) (env : SEnv) : whileI c b env = (do
    let (k, e1) ← c env
    if k then do
      let (f, e2) ← b e1
      match f with
      | .nx => whileI c b e2
      | .ct => whileI c b e2
      | .bk => some (.nx, e2)
      | .rt t => some (.rt t, e2)
    else some (.nx, e1)) := by
  rw [whileI] <;> rfl
theorem while_t {c : SEnv → Option (Bool × SEnv)} {b : SEnv → Option (Fl × SEnv)} {env e1 e2 : SEnv} (h1 : c env = some (true, e1)) (h2 : b e1 = some (.nx, e2)) : whileI c b env = whileI c b e2 := by
  rw [while_step c b env]
  simp [h1, h2]
theorem while_f {c : SEnv → Option (Bool × SEnv)} {b : SEnv → Option (Fl × SEnv)} {env e1 : SEnv} (h1 : c env = some (false, e1)) : whileI c b env = some (.nx, e1) := by
  rw [while_step c b env]
  simp [h1]
theorem seq_nx {Φ : Phi} {a b : S} {env e1 : SEnv} (h : exS Φ a env = some (.nx, e1)) : exS Φ (.seq a b) env = exS Φ b e1 := by
  simp [exS, h]
theorem seq_rt {Φ : Phi} {a b : S} {env e1 : SEnv} {r : AV} (h : exS Φ a env = some (.rt r, e1)) : exS Φ (.seq a b) env = some (.rt r, e1) := by
  simp [exS, h]
theorem run_rt {Φ : Phi} {d : FnD} {ts us : List AV} {r : AV} {e : SEnv} (hl : ts.length = d.n) (h : exS Φ d.body (startE d.nn ts) = some (.rt r, e)) (hu : d.io.mapM (getv e) = some us) : (semOf Φ d).sem ts = some (r, us) := by
  show runF Φ d ts = _
  unfold runF
  rw [if_pos hl, h]
  simp [hu]
def IsMixed (G : FnS) : Prop := G.n = 2 ∧ G.io = [0] ∧ ∀ t (ns : List Int), Pot t → ns.length < 1000 → ∃ (ms : List Int) (u : AV), G.sem [t, .d (.list (ns.map .int))] = some (.own (ms.map fun i => .d (.int i)), [u]) ∧ ms.Perm ns ∧ Pot u
theorem mixed_loop (Φ : Phi) {G : FnS} (h0 : Φ[0]? = some G) (hG : IsDraw G) (z : Option AV) : ∀ (k : Nat) (ns fs : List Int) (t : AV), ns.length = k → ns.length + fs.length < 1000 → Pot t → ∃ (ms : List Int) (u : AV), ms.Perm ns ∧ Pot u ∧
    whileI (evT Φ (.cmp .NotEq (.ref 2) (.lst .nil))) (exS Φ (.seq (.app 3 (.popi 2 (.call 0 (.cons (.ref 0) (.cons (.bi .len (.cons (.ref 2) .nil)) .nil))))) .skip)) [some t, z, some (.own (ns.map fun i => .d (.int i))), some (.own (fs.map fun i => .d (.int i)))] =
      some (.nx, [some u, z, some (.own []), some (.own ((fs ++ ms).map fun i => .d (.int i)))]) := by
  intro k
  induction k with
  | zero =>
    intro ns fs t hl _ hp
    have : ns = [] := List.length_eq_zero_iff.mp hl
    subst this
    refine ⟨[], t, .refl _, hp, ?_⟩
    have e1 : eqOk (.list []) = true := by decide
    refine (@while_f _ _ _ [some t, z, some (.own []), some (.own (fs.map fun i => .d (.int i)))] ?_).trans (by simp)
    simp [evT, evE, evA, opd, look, getv, fitL, LIM, cmpV, AV.dat, datL, e1, eqv_nil]
  | succ k ih =>
    intro ns fs t hl hsm hp
    obtain ⟨d, u, e, h1, h2, h3⟩ := call_draw (Φ := Φ) (k := 0) hG (env := [some t, z, some (.own (ns.map fun i => .d (.int i))), some (.own (fs.map fun i => .d (.int i)))]) (i := 0) (m := (ns.length : Int)) rfl hp (by omega) (by omega)
    have hlt : d.toNat < ns.length := by omega
    obtain ⟨ms, u2, g1, g2, g3⟩ := ih (ns.eraseIdx d.toNat) (fs ++ [ns[d.toNat]]) u (by rw [List.length_eraseIdx_of_lt hlt]; omega) (by rw [List.length_eraseIdx_of_lt hlt, List.length_append, List.length_singleton]; omega) h3
    refine ⟨ns[d.toNat] :: ms, u2, ?_, g2, ?_⟩
    · refine (List.Perm.cons _ g1).trans ?_
      rw [List.eraseIdx_eq_take_drop_succ]
      refine List.perm_middle.symm.trans ?_
      rw [List.getElem_cons_drop, List.take_append_drop]
    · have e1 : eqOk (.list []) = true := by decide
      have e2 : eqOk (.list (datL (ns.map fun i => .d (.int i)))) = true := by
        have : datL (ns.map fun i => AV.d (.int i)) = ns.map .int := by
          rw [← datL_leaf (ns.map .int), List.map_map]
          rfl
        rw [this]
        exact (dk_list (n := 0) fun x m => by
          obtain ⟨i, _, rfl⟩ := List.mem_map.mp m
          exact dk_int i).ok (by decide)
      have e3 : PyData.eqv (.list (datL (ns.map fun i => .d (.int i)))) (.list []) = false := by
        cases ns with
        | nil => cases hl
        | cons n ns => simp [datL, AV.dat, PyData.eqv, PyData.eqvAll]
      have e4 : (decide (-(2 ^ 62) ≤ d ∧ d < 2 ^ 62)) = true := by
        rw [decide_eq_true_eq]
        omega
      have e5 : ixN ns.length d = some d.toNat := by
        unfold ixN
        rw [if_pos h1, if_pos h2]
      have e6 : (ns.map fun i => AV.d (.int i))[d.toNat]? = some (.d (.int ns[d.toNat])) := by
        rw [List.getElem?_map, List.getElem?_eq_getElem hlt]
        rfl
      have e7 : (ns.map fun i => AV.d (.int i)).eraseIdx d.toNat = (ns.eraseIdx d.toNat).map fun i => AV.d (.int i) := by
        rw [List.eraseIdx_eq_take_drop_succ, List.eraseIdx_eq_take_drop_succ, List.map_append, List.map_take, List.map_drop]
      have e8 : fitL ((fs.map fun i => AV.d (.int i)).length + 1) = true := by
        unfold fitL LIM
        rw [decide_eq_true_eq, List.length_map]
        omega
      have e' : callV G [.slot 0, .val (.d (.int (ns.length : Int)))] [some t, z, some (.own (ns.map fun i => .d (.int i))), some (.own (fs.map fun i => .d (.int i)))] = some (.d (.int d), [some u, z, some (.own (ns.map fun i => .d (.int i))), some (.own (fs.map fun i => .d (.int i)))]) := e
      have r1 : (-4611686018427387904 ≤ d ∧ d < 4611686018427387904) := by omega
      have r2 : ns[d.toNat]? = some ns[d.toNat] := List.getElem?_eq_getElem hlt
      have r3 : fs.length + 1 ≤ 1000000 := by omega
      have r4 : fs.length ≤ 999999 := by omega
      rw [while_t (e1 := [some t, z, some (.own (ns.map fun i => .d (.int i))), some (.own (fs.map fun i => .d (.int i)))]) (e2 := [some u, z, some (.own ((ns.eraseIdx d.toNat).map fun i => .d (.int i))), some (.own ((fs ++ [ns[d.toNat]]).map fun i => .d (.int i)))]) ?_ ?_, g3]
      · simp
      · simp [evT, evE, evA, opd, look, getv, fitL, LIM, cmpV, AV.dat, datL, e1, e2, e3]
      · simp [exS, evE, evL, opd, look, getv, fitL, LIM, isOwn, biV, h0, e', e5, e7, r1, r2, r3, r4]
theorem mixed_ok (Φ : Phi) {G : FnS} (h0 : Φ[0]? = some G) (hG : IsDraw G) : IsMixed (semOf Φ d2) := by
  refine ⟨rfl, rfl, ?_⟩
  intro t ns hp hl
  obtain ⟨ms, u, g1, g2, g3⟩ := mixed_loop Φ h0 hG (some (.d (.list (ns.map .int)))) ns.length ns [] t rfl (by simpa using hl) hp
  refine ⟨ms, u, ?_, g1, g2⟩
  refine run_rt (e := [some u, some (.d (.list (ns.map .int))), some (.own []), none]) rfl ?_ (by simp [d2, getv])
  show exS Φ b2 _ = _
  unfold b2
  refine (seq_nx (e1 := [some t, some (.d (.list (ns.map .int))), some (.own (ns.map fun i => .d (.int i))), some (.own [])]) ?_).trans ?_
  · simp [exS, evE, evA, evL, opd, look, getv, biV, AV.seq?, fr, fitL, LIM, startE, d2, Function.comp_def]
  · refine (seq_nx (e1 := [some u, some (.d (.list (ns.map .int))), some (.own []), some (.own (ms.map fun i => .d (.int i)))]) ?_).trans ?_
    · exact g3
    · exact seq_rt (by simp [exS, evE, getv])
end K22
namespace K22
open PySem L2 Mi

/-! draws and picks as expressions, the pot in slot 0 -/
theorem ev_draw {Φ : Phi} {k : Nat} {G : FnS} (h0 : Φ[k]? = some G) (hG : IsDraw G) {t : AV} {rest : SEnv} (hp : Pot t) {em : E} {m : Int} (hm : opd em (evE Φ em) (some t :: rest) = some (.val (.d (.int m)), some t :: rest)) (h1 : 0 < m) (h2 : m < 1073741824) :
    ∃ d u, evE Φ (.call k (.cons (.ref 0) (.cons em .nil))) (some t :: rest) = some (.d (.int d), some u :: rest) ∧ 0 ≤ d ∧ d < m ∧ Pot u := by
  obtain ⟨d, u, e, g1, g2, g3⟩ := call_draw (Φ := Φ) (k := k) hG (env := some t :: rest) (i := 0) (m := m) rfl hp h1 h2
  refine ⟨d, u, ?_, g1, g2, g3⟩
  have e' : callV G [.slot 0, .val (.d (.int m))] (some t :: rest) = some (.d (.int d), some u :: rest) := e
  have o1 : ∀ f, opd (.ref 0) f (some t :: rest) = some (.slot 0, some t :: rest) := fun f => by simp [opd, getv]
  simp only [evE, evL, h0, o1, hm, Option.bind_eq_bind, Option.bind_some, e']
theorem call_pick {G : FnS} (hG : IsPick G) {t : AV} {rest : SEnv} {xs : List PyData} {o : AV} (ho : o.dat = .list xs) (hp : Pot t) (hne : xs ≠ []) (hl : xs.length < 1000) : ∃ x u, callV G [.slot 0, .val o] (some t :: rest) = some (.d x, some u :: rest) ∧ x ∈ xs ∧ Pot u := by
  obtain ⟨g1, g2, g3⟩ := hG
  obtain ⟨x, u, e, h2, h3⟩ := g3 t xs hp hne hl
  refine ⟨x, u, ?_, h2, h3⟩
  simp [callV, g1, g2, prepA, getv, e, putB, ho]
theorem ev_pick {Φ : Phi} {k : Nat} {G : FnS} (h0 : Φ[k]? = some G) (hG : IsPick G) {t t2 : AV} {rest rest2 : SEnv} {em : E} {xs : List PyData} {o : AV} (ho : o.dat = .list xs) (hm : opd em (evE Φ em) (some t :: rest) = some (.val o, some t2 :: rest2)) (hp : Pot t2) (h1 : xs ≠ []) (h2 : xs.length < 1000) :
    ∃ x u, evE Φ (.call k (.cons (.ref 0) (.cons em .nil))) (some t :: rest) = some (.d x, some u :: rest2) ∧ x ∈ xs ∧ Pot u := by
  obtain ⟨x, u, e, g1, g2⟩ := call_pick (rest := rest2) hG ho hp h1 h2
  refine ⟨x, u, ?_, g1, g2⟩
  have o1 : ∀ f, opd (.ref 0) f (some t :: rest) = some (.slot 0, some t :: rest) := fun f => by simp [opd, getv]
  simp only [evE, evL, h0, o1, hm, Option.bind_eq_bind, Option.bind_some, e]
end K22
namespace K22
open PySem L2 Mi

/-! comprehensions and loops over lists -/
/-- a comprehension whose turns leave the state as it was -/
theorem lc_pure {f : PyData → SEnv → Option (Option AV × SEnv)} {env : SEnv} (g : PyData → Option AV) : ∀ {xs : List PyData}, (∀ x ∈ xs, f x env = some (g x, env)) → lcLoop f xs env = some (xs.filterMap g, env)
  | [], _ => rfl
  | x :: xs, h => by
    have h1 := h x List.mem_cons_self
    have h2 := lc_pure g (xs := xs) fun y m => h y (List.mem_cons_of_mem _ m)
    unfold lcLoop
    simp only [h1, h2, Option.bind_eq_bind, Option.bind_some, List.filterMap_cons]
    cases g x <;> rfl
/-- a comprehension that changes the state: I stays true of it, each item made is P -/
theorem lc_inv {f : PyData → SEnv → Option (Option AV × SEnv)} (I : SEnv → Prop) (P : AV → Prop) : ∀ {xs : List PyData} {env : SEnv}, I env → (∀ x ∈ xs, ∀ e, I e → ∃ o e', f x e = some (o, e') ∧ I e' ∧ ∀ t, o = some t → P t) → ∃ ts e', lcLoop f xs env = some (ts, e') ∧ I e' ∧ ts.length ≤ xs.length ∧ ∀ t ∈ ts, P t
  | [], env, h, _ => ⟨[], env, rfl, h, Nat.le_refl _, fun _ m => nomatch m⟩
  | x :: xs, env, h, hs => by
    obtain ⟨o, e1, h1, h2, h3⟩ := hs x List.mem_cons_self env h
    obtain ⟨ts, e2, h4, h5, h6, h7⟩ := lc_inv I P (xs := xs) h2 fun y m => hs y (List.mem_cons_of_mem _ m)
    unfold lcLoop
    simp only [h1, h4, Option.bind_eq_bind, Option.bind_some]
    cases o with
    | none => exact ⟨ts, e2, rfl, h5, by simp only [List.length_cons]; omega, h7⟩
    | some t =>
      refine ⟨t :: ts, e2, rfl, h5, by simp only [List.length_cons]; omega, fun u m => ?_⟩
      rcases List.mem_cons.mp m with rfl | m
      · exact h3 _ rfl
      · exact h7 u m
/-- a for whose turns all go on -/
theorem for_inv {b : PyData → SEnv → Option (Fl × SEnv)} (I : Nat → SEnv → Prop) : ∀ {xs : List PyData} {k : Nat} {env : SEnv}, I k env → (∀ (i : Nat) (x : PyData), xs[i]? = some x → ∀ e, I (k + i) e → ∃ f e', b x e = some (f, e') ∧ (f = .nx ∨ f = .ct) ∧ I (k + i + 1) e') → ∃ e', forI b xs env = some (.nx, e') ∧ I (k + xs.length) e'
  | [], k, env, h, _ => ⟨env, rfl, h⟩
  | x :: xs, k, env, h, hs => by
    obtain ⟨f, e1, h1, h2, h3⟩ := hs 0 x rfl env h
    obtain ⟨e2, h4, h5⟩ := for_inv I (xs := xs) (k := k + 1) (env := e1) h3 fun i y hy e he => by
      obtain ⟨f, e', a1, a2, a3⟩ := hs (i + 1) y (by simpa using hy) e (by rw [show k + (i + 1) = k + 1 + i by omega]; exact he)
      exact ⟨f, e', a1, a2, by rw [show k + (i + 1) + 1 = k + 1 + i + 1 by omega] at a3; exact a3⟩
    refine ⟨e2, ?_, by rw [List.length_cons, show k + (xs.length + 1) = k + 1 + xs.length by omega]; exact h5⟩
    unfold forI
    rcases h2 with rfl | rfl <;> simp only [h1, Option.bind_eq_bind, Option.bind_some, h4]
end K22
namespace K22
open PySem L2 Mi

/-! the package's small checks -/
def IsInteger (G : FnS) : Prop := G.n = 1 ∧ G.io = [] ∧ ∀ x : PyData, G.sem [.d x] = some (.d (.bool (match x with
  | .int _ => true
  | _ => false)), [])
theorem integer_ok (Φ : Phi) : IsInteger (semOf Φ d9) := by
  refine ⟨rfl, rfl, fun x => ?_⟩
  refine run_rt (e := [some (.d x)]) rfl ?_ rfl
  show exS Φ b9 _ = _
  cases x <;> simp [b9, d9, exS, evE, opd, look, getv, startE, isiD, AV.dat]
/-- a call of a def that changes nothing, its arguments frozen -/
theorem call_d {G : FnS} {xs : List PyData} {env : SEnv} {r : AV} (hn : G.n = xs.length) (hio : G.io = []) (h : G.sem (xs.map .d) = some (r, [])) : callV G (xs.map fun x => .val (.d x)) env = some (r, env) := by
  have key : ∀ (l : List PyData) (k : Nat), prepA [] k (l.map fun x => .val (.d x)) env = some (l.map .d, [], env) := by
    intro l
    induction l with
    | nil => intro k; rfl
    | cons x l ih => intro k; simp [prepA, ih (k + 1), AV.dat]
  simp [callV, hn, hio, key, h, putB]
def IsWithin (G : FnS) : Prop := G.n = 3 ∧ G.io = [] ∧ ∀ (x : PyData) (a b : Int), G.sem [.d x, .d (.int a), .d (.int b)] = some (.d (.bool (match x with
  | .int i => decide (a ≤ i) && decide (i ≤ b)
  | _ => false)), [])
theorem within_ok (Φ : Phi) {G : FnS} (h12 : Φ[9]? = some G) (hG : IsInteger G) : IsWithin (semOf Φ d10) := by
  refine ⟨rfl, rfl, fun x a b => ?_⟩
  obtain ⟨g1, g2, g3⟩ := hG
  have e : ∀ env : SEnv, callV G [.val (.d x)] env = some (.d (.bool (match x with
    | .int _ => true
    | _ => false)), env) := fun env => call_d (xs := [x]) g1 g2 (g3 x)
  refine run_rt (e := [some (.d x), some (.d (.int a)), some (.d (.int b))]) rfl ?_ rfl
  show exS Φ b10 _ = _
  cases x with
  | int i =>
    by_cases h : a ≤ i
    · simp [b10, d10, exS, evE, evL, opd, look, getv, startE, h12, e, AV.dat, cmpV, intCmp, h]
    · simp [b10, d10, exS, evE, evL, opd, look, getv, startE, h12, e, AV.dat, cmpV, intCmp, h]
  | _ => simp [b10, d10, exS, evE, evL, opd, look, getv, startE, h12, e, AV.dat]
end K22
namespace K22
open PySem L2 Mi

/-- is_word of a text among texts -/
def IsWord (G : FnS) : Prop := G.n = 2 ∧ G.io = [] ∧ ∀ (s : Str) (ws : List PyData), (∀ w ∈ ws, ∃ z, w = .str z) → G.sem [.d (.str s), .d (.tuple ws)] = some (.d (.bool (ws.any fun w => PyData.eqv w (.str s))), [])
theorem word_ok (Φ : Phi) : IsWord (semOf Φ d11) := by
  refine ⟨rfl, rfl, fun s ws hw => ?_⟩
  refine run_rt (e := [some (.d (.str s)), some (.d (.tuple ws))]) rfl ?_ rfl
  show exS Φ b11 _ = _
  have h1 : ∀ x ∈ ws, flatD x = true := fun x m => by
    obtain ⟨z, rfl⟩ := hw x m
    rfl
  have hv : inVal false (.d (.str s)) (.d (.tuple ws)) = some (ws.any fun w => PyData.eqv w (.str s)) := by
    have h2 : ws.all flatD = true := List.all_eq_true.mpr h1
    have h3 : flatD (.str s) = true := rfl
    simp only [inVal, AV.at?, AV.lst?, AV.tup?, AV.dat, h2, h3, Bool.and_self, if_true]
    rfl
  simp [b11, d11, exS, evE, opd, look, getv, startE, isiD, AV.dat, cmpV, hv]
def IsPart (G : FnS) : Prop := G.n = 2 ∧ G.io = [] ∧ ∀ (xs : List PyData) (m : Int), G.sem [.d (.tuple xs), .d (.int m)] = some (.d (.bool (decide ((xs.length : Int) ≤ m))), [])
theorem part_ok (Φ : Phi) : IsPart (semOf Φ d12) := by
  refine ⟨rfl, rfl, fun xs m => ?_⟩
  refine run_rt (e := [some (.d (.tuple xs)), some (.d (.int m))]) rfl ?_ rfl
  show exS Φ b12 _ = _
  simp [b12, d12, exS, evE, evL, opd, look, getv, startE, isiD, AV.dat, cmpV, intCmp, biV]
def IsBound (G : FnS) : Prop := G.n = 1 ∧ G.io = [] ∧ G.sem [.d .none] = some (.d (.bool true), []) ∧ ∀ i : Int, 1 ≤ i → i ≤ 99999 → G.sem [.d (.int i)] = some (.d (.bool true), [])
theorem bound_ok (Φ : Phi) {G : FnS} (h13 : Φ[10]? = some G) (hG : IsWithin G) : IsBound (semOf Φ d13) := by
  obtain ⟨g1, g2, g3⟩ := hG
  refine ⟨rfl, rfl, ?_, fun i h1 h2 => ?_⟩
  · refine run_rt (e := [some (.d .none)]) rfl ?_ rfl
    show exS Φ b13 _ = _
    simp [b13, d13, exS, evE, opd, look, getv, startE, AV.dat, cmpV, isNoneD]
  · refine run_rt (e := [some (.d (.int i))]) rfl ?_ rfl
    show exS Φ b13 _ = _
    have e : ∀ env : SEnv, callV G [.val (.d (.int i)), .val (.d (.int 1)), .val (.d (.int 99999))] env = some (.d (.bool true), env) := fun env => by
      have := call_d (xs := [.int i, .int 1, .int 99999]) (env := env) g1 g2 (g3 (.int i) 1 99999)
      simpa [h1, h2] using this
    simp [b13, d13, exS, evE, evL, opd, look, getv, startE, AV.dat, cmpV, isNoneD, h13, e]
end K22
namespace K22
open PySem L2 Mi

/-! what a net is -/
def SwD (n : Int) (x : PyData) : Prop := x = .tuple [] ∨ ∃ (a b : Int) (k : Str) (d : PyData), x = .tuple [.int a, .int b, .str k, d] ∧ 0 ≤ a ∧ a < n ∧ 0 ≤ b ∧ b < n ∧ a ≠ b ∧ (k = "breaker" ∨ k = "link") ∧ (d = .none ∨ ∃ z : Int, d = .int z ∧ 1 ≤ z ∧ z ≤ 99999)
def SoD (n : Int) (x : PyData) : Prop := x = .tuple [] ∨ ∃ (a p : Int) (s : Str), x = .tuple [.int a, .int p, .str s] ∧ 0 ≤ a ∧ a < n ∧ 0 ≤ p ∧ p ≤ 9 ∧ (s = "feed" ∨ s = "maybe")
def CuD (n : Int) (x : PyData) : Prop := x = .tuple [] ∨ ∃ (a l : Int), x = .tuple [.int a, .int l] ∧ 0 ≤ a ∧ a < n ∧ 1 ≤ l ∧ l ≤ 9999
def netV (n : Int) (sw so cu : List PyData) : PyData := .tuple [.str "net", .int n, .tuple sw, .tuple so, .tuple cu]
structure NetD (n : Int) (sw so cu : List PyData) : Prop where
  n1 : 1 ≤ n
  n2 : n ≤ 60
  s1 : sw.length ≤ 90
  s2 : so.length ≤ 12
  s3 : cu.length ≤ 40
  w1 : ∀ x ∈ sw, SwD n x
  w2 : ∀ x ∈ so, SoD n x
  w3 : ∀ x ∈ cu, CuD n x

theorem in_len {m : Int} {ks : List Int} (h : m ∈ ks) : inVal true (.d (.int m)) (.d (.tuple (ks.map .int))) = some false := by
  have h2 : (ks.map PyData.int).all flatD = true := List.all_eq_true.mpr fun x hx => by
    obtain ⟨i, _, rfl⟩ := List.mem_map.mp hx
    rfl
  have h3 : flatD (.int m) = true := rfl
  have h4 : ((ks.map PyData.int).any fun y => PyData.eqv y (.int m)) = true := List.any_eq_true.mpr ⟨.int m, List.mem_map.mpr ⟨m, h, rfl⟩, by simp [PyData.eqv]⟩
  simp only [inVal, AV.at?, AV.lst?, AV.tup?, AV.dat, h2, h3, h4, Bool.and_self, if_true]
  rfl
def IsCust (G : FnS) : Prop := G.n = 2 ∧ G.io = [] ∧ ∀ (n : Int) (x : PyData), CuD n x → G.sem [.d (.int n), .d x] = some (.d (.bool true), [])
theorem cust_ok (Φ : Phi) {G : FnS} (h13 : Φ[10]? = some G) (hG : IsWithin G) : IsCust (semOf Φ d16) := by
  obtain ⟨g1, g2, g3⟩ := hG
  refine ⟨rfl, rfl, fun n x hx => ?_⟩
  refine run_rt (e := [some (.d (.int n)), some (.d x)]) rfl ?_ rfl
  show exS Φ b16 _ = _
  have w : ∀ (i a b : Int) (env : SEnv), a ≤ i → i ≤ b → callV G [.val (.d (.int i)), .val (.d (.int a)), .val (.d (.int b))] env = some (.d (.bool true), env) := fun i a b env h1 h2 => by
    have := call_d (xs := [.int i, .int a, .int b]) (env := env) g1 g2 (g3 (.int i) a b)
    simpa [h1, h2] using this
  rcases hx with rfl | ⟨a, l, rfl, h1, h2, h3, h4⟩
  · have q := in_len (m := 0) (ks := [0, 2]) (by decide)
    have e1 : eqOk (.tuple []) = true := by decide
    have e2 : eqOk (AV.dat (.d (.tuple []))) = true := e1
    simp at q
    simp [b16, d16, exS, evT, evE, evA, evL, opd, look, getv, startE, isiD, cmpV, biV, mkTup, leafs, fitL, LIM, e2, q]
    simp [AV.dat, isiD, PyData.eqv, PyData.eqvAll, e1]
  · have q := in_len (m := 2) (ks := [0, 2]) (by decide)
    have e2 : eqOk (AV.dat (.d (.tuple [.int a, .int l]))) = true := (dk_tuple (n := 0) (xs := [.int a, .int l]) fun x hx => by
      rcases List.mem_cons.mp hx with rfl | hx
      · exact dk_int a
      · rw [List.mem_singleton.mp hx]
        exact dk_int l).ok (by decide)
    have e3 : eqOk (AV.dat (.d (.tuple []))) = true := by decide
    have w1 := fun env => w a 0 (n - 1) env h1 (by omega)
    have w2 := fun env => w l 1 9999 env h3 h4
    simp at q
    simp [b16, d16, exS, evT, evE, evA, evL, opd, look, getv, startE, isiD, cmpV, biV, mkTup, leafs, fitL, LIM, e2, e3, q, h13, w1, w2, ixV, atI, ixN, binV]
    have e4 : eqOk (.tuple [.int a, .int l]) = true := e2
    have e5 : eqOk (.tuple []) = true := e3
    simp [AV.dat, isiD, PyData.eqv, PyData.eqvAll, e4, e5, evE, evL, opd, look, getv, ixV, atI, ixN, binV, h13, w1, w2]
end K22
namespace K22
open PySem L2 Mi

def IsSrc (G : FnS) : Prop := G.n = 2 ∧ G.io = [] ∧ ∀ (n : Int) (x : PyData), SoD n x → G.sem [.d (.int n), .d x] = some (.d (.bool true), [])
theorem src_ok (Φ : Phi) {G W : FnS} (h13 : Φ[10]? = some G) (hG : IsWithin G) (h14 : Φ[11]? = some W) (hW : IsWord W) : IsSrc (semOf Φ d15) := by
  obtain ⟨g1, g2, g3⟩ := hG
  obtain ⟨v1, v2, v3⟩ := hW
  refine ⟨rfl, rfl, fun n x hx => ?_⟩
  have w : ∀ (i a b : Int) (env : SEnv), a ≤ i → i ≤ b → callV G [.val (.d (.int i)), .val (.d (.int a)), .val (.d (.int b))] env = some (.d (.bool true), env) := fun i a b env h1 h2 => by
    have := call_d (xs := [.int i, .int a, .int b]) (env := env) g1 g2 (g3 (.int i) a b)
    simpa [h1, h2] using this
  rcases hx with rfl | ⟨a, p, s, rfl, h1, h2, h3, h4, h5⟩
  · refine run_rt (e := [some (.d (.int n)), some (.d (.tuple [])), none, none, none]) rfl ?_ rfl
    show exS Φ b15 _ = _
    have q := in_len (m := 0) (ks := [0, 3]) (by decide)
    have e1 : eqOk (.tuple []) = true := by decide
    have e2 : eqOk (AV.dat (.d (.tuple []))) = true := e1
    simp at q
    simp [b15, d15, exS, evT, evE, evA, evL, opd, look, getv, startE, isiD, cmpV, biV, mkTup, leafs, fitL, LIM, e2, q]
    simp [AV.dat, isiD, PyData.eqv, PyData.eqvAll, e1]
  · refine run_rt (e := [some (.d (.int n)), some (.d (.tuple [.int a, .int p, .str s])), some (.d (.int a)), some (.d (.int p)), some (.d (.str s))]) rfl ?_ rfl
    show exS Φ b15 _ = _
    have q := in_len (m := 3) (ks := [0, 3]) (by decide)
    have sok : PyData.strOk s = true := by rcases h5 with rfl | rfl <;> decide +kernel
    have e4 : eqOk (.tuple [.int a, .int p, .str s]) = true := (dk_tuple (n := 0) (xs := [.int a, .int p, .str s]) fun x hx => by
      simp only [List.mem_cons, List.mem_nil_iff, or_false] at hx
      rcases hx with rfl | rfl | rfl
      · exact dk_int a
      · exact dk_int p
      · exact dk_str sok).ok (by decide)
    have e2 : eqOk (AV.dat (.d (.tuple [.int a, .int p, .str s]))) = true := e4
    have e5 : eqOk (.tuple []) = true := by decide
    have e3 : eqOk (AV.dat (.d (.tuple []))) = true := e5
    have w1 := fun env => w a 0 (n - 1) env h1 (by omega)
    have w2 := fun env => w p 0 9 env h3 h4
    have ww : ∀ env : SEnv, callV W [.val (.d (.str s)), .val (.d (.tuple [.str "feed", .str "maybe"]))] env = some (.d (.bool true), env) := fun env => by
      have := call_d (xs := [.str s, .tuple [.str "feed", .str "maybe"]]) (env := env) v1 v2 (v3 s [.str "feed", .str "maybe"] (by simp))
      have h : ([PyData.str "feed", PyData.str "maybe"].any fun w => PyData.eqv w (.str s)) = true := by rcases h5 with rfl | rfl <;> decide +kernel
      rw [h] at this
      simpa using this
    simp at q
    simp [b15, d15, exS, evT, evE, evA, evL, opd, look, getv, startE, isiD, cmpV, biV, mkTup, leafs, fitL, LIM, e2, e3, q, h13, h14, w1, w2, ww, binV, asgT, asgT.asgTs]
    simp [AV.dat, isiD, PyData.eqv, PyData.eqvAll, e4, e5, exS, evE, evL, evA, opd, look, getv, binV, h13, h14, w1, w2, ww, asgT, asgT.asgTs, mkTup, leafs]
end K22
namespace K22
open PySem L2 Mi

def IsSw (G : FnS) : Prop := G.n = 2 ∧ G.io = [] ∧ ∀ (n : Int) (x : PyData), SwD n x → G.sem [.d (.int n), .d x] = some (.d (.bool true), [])
theorem sw_ok (Φ : Phi) {G W B : FnS} (h13 : Φ[10]? = some G) (hG : IsWithin G) (h14 : Φ[11]? = some W) (hW : IsWord W) (h16 : Φ[13]? = some B) (hB : IsBound B) : IsSw (semOf Φ d14) := by
  obtain ⟨g1, g2, g3⟩ := hG
  obtain ⟨v1, v2, v3⟩ := hW
  obtain ⟨u1, u2, u3, u4⟩ := hB
  refine ⟨rfl, rfl, fun n x hx => ?_⟩
  have w : ∀ (i a b : Int) (env : SEnv), a ≤ i → i ≤ b → callV G [.val (.d (.int i)), .val (.d (.int a)), .val (.d (.int b))] env = some (.d (.bool true), env) := fun i a b env h1 h2 => by
    have := call_d (xs := [.int i, .int a, .int b]) (env := env) g1 g2 (g3 (.int i) a b)
    simpa [h1, h2] using this
  rcases hx with rfl | ⟨a, p, s, d, rfl, h1, h2, h3, h4, hne, h5, h6⟩
  · refine run_rt (e := [some (.d (.int n)), some (.d (.tuple [])), none, none, none, none]) rfl ?_ rfl
    show exS Φ b14 _ = _
    have q := in_len (m := 0) (ks := [0, 4]) (by decide)
    have e1 : eqOk (.tuple []) = true := by decide
    have e2 : eqOk (AV.dat (.d (.tuple []))) = true := e1
    simp at q
    simp [b14, d14, exS, evT, evE, evA, evL, opd, look, getv, startE, isiD, cmpV, biV, mkTup, leafs, fitL, LIM, e2, q]
    simp [AV.dat, isiD, PyData.eqv, PyData.eqvAll, e1]
  · refine run_rt (e := [some (.d (.int n)), some (.d (.tuple [.int a, .int p, .str s, d])), some (.d (.int a)), some (.d (.int p)), some (.d (.str s)), some (.d d)]) rfl ?_ rfl
    show exS Φ b14 _ = _
    have q := in_len (m := 4) (ks := [0, 4]) (by decide)
    have sok : PyData.strOk s = true := by rcases h5 with rfl | rfl <;> decide +kernel
    have dok : Dk 0 d := by
      rcases h6 with rfl | ⟨z, rfl, _, _⟩
      · exact dk_none
      · exact dk_int z
    have e4 : eqOk (.tuple [.int a, .int p, .str s, d]) = true := (dk_tuple (n := 0) (xs := [.int a, .int p, .str s, d]) fun x hx => by
      simp only [List.mem_cons, List.mem_nil_iff, or_false] at hx
      rcases hx with rfl | rfl | rfl | rfl
      · exact dk_int a
      · exact dk_int p
      · exact dk_str sok
      · exact dok).ok (by decide)
    have e2 : eqOk (AV.dat (.d (.tuple [.int a, .int p, .str s, d]))) = true := e4
    have e5 : eqOk (.tuple []) = true := by decide
    have e3 : eqOk (AV.dat (.d (.tuple []))) = true := e5
    have e6 : ∀ i : Int, eqOk (.int i) = true := fun i => (dk_int i).ok (by decide)
    have w1 := fun env => w a 0 (n - 1) env h1 (by omega)
    have w2 := fun env => w p 0 (n - 1) env h3 (by omega)
    have ww : ∀ env : SEnv, callV W [.val (.d (.str s)), .val (.d (.tuple [.str "breaker", .str "link"]))] env = some (.d (.bool true), env) := fun env => by
      have := call_d (xs := [.str s, .tuple [.str "breaker", .str "link"]]) (env := env) v1 v2 (v3 s [.str "breaker", .str "link"] (by simp))
      have h : ([PyData.str "breaker", PyData.str "link"].any fun w => PyData.eqv w (.str s)) = true := by rcases h5 with rfl | rfl <;> decide +kernel
      rw [h] at this
      simpa using this
    have wb : ∀ env : SEnv, callV B [.val (.d d)] env = some (.d (.bool true), env) := fun env => by
      refine call_d (xs := [d]) (env := env) u1 u2 ?_
      rcases h6 with rfl | ⟨z, rfl, z1, z2⟩
      · exact u3
      · exact u4 z z1 z2
    simp at q
    simp [b14, d14, exS, evT, evE, evA, evL, opd, look, getv, startE, isiD, cmpV, biV, mkTup, leafs, fitL, LIM, e2, e3, q, h13, h14, h16, w1, w2, ww, wb, binV, asgT, asgT.asgTs, strFit, truth, AV.isDi]
    simp [AV.dat, isiD, PyData.eqv, PyData.eqvAll, e4, e5, e6, exS, evT, evE, evL, evA, opd, look, getv, binV, cmpV, h13, h14, h16, w1, w2, ww, wb, asgT, asgT.asgTs, mkTup, leafs, strFit, truth, AV.isDi, hne]
end K22
namespace K22
open PySem L2 Mi

theorem set_same {env : SEnv} {i : Nat} {t : AV} (h : getv env i = some t) : env.set i (some t) = env := by
  have h' := getv_some h
  apply List.ext_getElem?
  intro j
  by_cases hj : i = j
  · subst hj
    rw [h', List.getElem?_set_self]
    rcases Nat.lt_or_ge i env.length with hl | hl
    · exact hl
    · rw [List.getElem?_eq_none hl] at h'
      cases h'
  · rw [List.getElem?_set_ne hj]
theorem set_none {env : SEnv} {i : Nat} (h : getv env i = none) : env.set i none = env := by
  apply List.ext_getElem?
  intro j
  by_cases hj : i = j
  · subst hj
    rcases Nat.lt_or_ge i env.length with hl | hl
    · rw [List.getElem?_set_self hl]
      unfold getv at h
      rw [List.getElem?_eq_getElem hl] at h ⊢
      simp at h
      rw [h]
    · rw [List.getElem?_eq_none hl, List.getElem?_eq_none (by simpa using hl)]
  · rw [List.getElem?_set_ne hj]
theorem wipe_none {e : SEnv} : ∀ {own : List Nat}, wipeE e own = e → ∀ i ∈ own, getv e i = none := by
  have key : ∀ (own : List Nat) (i : Nat), i ∈ own → getv (wipeE e own) i = none := by
    intro own
    induction own with
    | nil => intro i h; cases h
    | cons k own ih =>
      intro i h
      show getv ((wipeE e own).set k none) i = none
      by_cases hk : k = i
      · subst hk
        unfold getv
        rcases Nat.lt_or_ge k (wipeE e own).length with hl | hl
        · rw [List.getElem?_set_self hl]; rfl
        · rw [List.getElem?_eq_none (by simpa using hl)]; rfl
      · unfold getv
        rw [List.getElem?_set_ne hk]
        rcases List.mem_cons.mp h with h | h
        · exact absurd h.symm hk
        · exact ih i h
  intro own hw i hi
  have := key own i hi
  rwa [hw] at this
theorem putSlots_none {e : SEnv} : ∀ {own : List Nat}, (∀ i ∈ own, getv e i = none) → putSlots e e own = e
  | [], _ => rfl
  | i :: own, h => by
    show (putSlots e e own).set i (match getv e i with
      | some (.d x) => some (.d x)
      | _ => none) = e
    rw [putSlots_none fun j m => h j (List.mem_cons_of_mem _ m), h i List.mem_cons_self]
    exact set_none (h i List.mem_cons_self)
/-- a comprehension by what each turn makes -/
theorem ev_lcmap {Φ : Phi} {own : List Nat} {tg it cond elt : E} {env e1 : SEnv} {xs : List PyData} (g : PyData → Option AV) (hI : evI Φ it env = some (xs, e1, none)) (hfit : xs.length ≤ 1000000) (hw : wipeE e1 own = e1) (ht : ∀ x ∈ xs, lcTurn Φ own tg cond elt x e1 = some (g x, e1)) :
    evE Φ (.lc own tg it cond elt) env = some (.own (xs.filterMap g), e1) := by
  have h1 := lc_pure g ht
  have h2 : fitL xs.length = true := by
    unfold fitL LIM
    exact decide_eq_true hfit
  have h3 : (lcLoop (lcTurn Φ own tg cond elt) xs (wipeE e1 own)) = some (xs.filterMap g, e1) := by rw [hw]; exact h1
  unfold evE
  simp only [hI, h2, Option.bind_eq_bind, Option.bind_some, if_true]
  show (lcLoop (lcTurn Φ own tg cond elt) xs (wipeE e1 own)).bind _ = _
  rw [h3]
  simp only [Option.bind_some, hw, putSlots_none (wipe_none hw), putBack]
theorem ev_lcinv {Φ : Phi} {own : List Nat} {tg it cond elt : E} {env e1 : SEnv} {xs : List PyData} (I : SEnv → Prop) (P : AV → Prop) (hI : evI Φ it env = some (xs, e1, none)) (hfit : xs.length ≤ 1000000) (h0 : I (wipeE e1 own)) (ht : ∀ x ∈ xs, ∀ e, I e → ∃ o e', lcTurn Φ own tg cond elt x e = some (o, e') ∧ I e' ∧ ∀ t, o = some t → P t) :
    ∃ ts e2, evE Φ (.lc own tg it cond elt) env = some (.own ts, putSlots (wipeE e2 own) e1 own) ∧ I e2 ∧ ts.length ≤ xs.length ∧ ∀ t ∈ ts, P t := by
  obtain ⟨ts, e2, h1, h2, h3, h4⟩ := lc_inv (f := lcTurn Φ own tg cond elt) I P h0 ht
  refine ⟨ts, e2, ?_, h2, h3, h4⟩
  have h2 : fitL xs.length = true := by
    unfold fitL LIM
    exact decide_eq_true hfit
  unfold evE
  simp only [hI, h2, Option.bind_eq_bind, Option.bind_some, if_true]
  show (lcLoop (lcTurn Φ own tg cond elt) xs (wipeE e1 own)).bind _ = _
  rw [h1]
  simp only [Option.bind_some, putBack]
theorem dat_d (x : PyData) : AV.dat (.d x) = x := by simp [AV.dat]
theorem ev_var {Φ : Phi} {env : SEnv} {i : Nat} {x : PyData} (h : getv env i = some (.d x)) : evE Φ (.var i) env = some (.d x, env) := by
  simp only [evE, h, dat_d, set_same h]
theorem opd_var {Φ : Phi} {env : SEnv} {i : Nat} {x : PyData} (h : getv env i = some (.d x)) : opd (.var i) (evE Φ (.var i)) env = some (.val (.d x), env) := by
  have := ev_var (Φ := Φ) h
  simp only [opd, this, Option.map_some]
theorem ev_call1 {Φ : Phi} {k : Nat} {G : FnS} {a : E} {env e1 e2 : SEnv} {t r : AV} (hk : Φ[k]? = some G) (na : opd a (evE Φ a) env = some (.val t, e1)) (hc : callV G [.val t] e1 = some (r, e2)) : evE Φ (.call k (.cons a .nil)) env = some (r, e2) := by
  simp only [evE, evL, hk, na, hc, Option.bind_eq_bind, Option.bind_some]
theorem ev_call2 {Φ : Phi} {k : Nat} {G : FnS} {a b : E} {env e1 e2 e3 : SEnv} {t u r : AV} (hk : Φ[k]? = some G) (na : opd a (evE Φ a) env = some (.val t, e1)) (nb : opd b (evE Φ b) e1 = some (.val u, e2)) (hc : callV G [.val t, .val u] e2 = some (r, e3)) : evE Φ (.call k (.cons a (.cons b .nil))) env = some (r, e3) := by
  simp only [evE, evL, hk, na, nb, hc, Option.bind_eq_bind, Option.bind_some]
theorem leafs_map (xs : List PyData) : leafs (xs.map .d) = some xs := by
  induction xs with
  | nil => rfl
  | cons x xs ih => simp [leafs, ih]
theorem allBools_true {α : Type} (xs : List α) : allBools (xs.map fun _ => .bool true) = some (xs.map fun _ => true) := by
  induction xs with
  | nil => rfl
  | cons x xs ih => simp [allBools, ih]
/-- all(..) of a list of trues -/
theorem ev_all {Φ : Phi} {own : List Nat} {tg it cond elt : E} {env e1 : SEnv} {xs : List PyData} (hI : evI Φ it env = some (xs, e1, none)) (hfit : xs.length ≤ 1000000) (hw : wipeE e1 own = e1) (ht : ∀ x ∈ xs, lcTurn Φ own tg cond elt x e1 = some (some (.d (.bool true)), e1)) :
    evE Φ (.bi .all (.cons (.lc own tg it cond elt) .nil)) env = some (.d (.bool true), e1) := by
  have h1 := ev_lcmap (Φ := Φ) (cond := cond) (elt := elt) (tg := tg) (fun _ => some (.d (.bool true))) hI hfit hw ht
  have h2 : opd (.lc own tg it cond elt) (evE Φ (.lc own tg it cond elt)) env = some (.val (.own (xs.filterMap fun _ => some (.d (.bool true)))), e1) := by simp only [opd, h1, Option.map_some]
  have h3 : (xs.filterMap fun _ => some (AV.d (.bool true))) = (xs.map fun _ => PyData.bool true).map .d := by
    rw [List.map_map]
    simp [List.filterMap_eq_map']
  have h4 : biV .all [.own (xs.filterMap fun _ => some (.d (.bool true)))] = some (.d (.bool true)) := by
    rw [h3]
    simp only [biV, AV.lst?, leafs_map, Option.bind_some, allBools_true, Option.map_some, List.all_map]
    congr 3
    simp
  rw [evE, evL, h2]
  simp only [Option.bind_eq_bind, Option.bind_some]
  rw [evL]
  simp only [Option.bind_some, List.mapM_cons, List.mapM_nil, look, Option.pure_def, h4, Option.bind_eq_bind]
/-- a walk over a frozen list or tuple in a slot -/
theorem evI_var {Φ : Phi} {env : SEnv} {i : Nat} {x : PyData} {xs : List PyData} (h : getv env i = some (.d x)) (hx : x = .tuple xs ∨ x = .list xs) : evI Φ (.cons (.var i) .nil) env = some (xs, env, none) := by
  have := ev_var (Φ := Φ) h
  rcases hx with rfl | rfl <;> simp [evI, this, AV.seq?]
end K22
/-! bars that are reached, and who is kept: plain mathematics -/
namespace K22
inductive Rc (L : List (Int × Int)) (B O : List Int) : Int → Prop
  | base {b : Int} : b ∈ B → b ∉ O → Rc L B O b
  | fwd {a b : Int} : Rc L B O a → (a, b) ∈ L → b ∉ O → Rc L B O b
  | bwd {a b : Int} : Rc L B O b → (a, b) ∈ L → a ∉ O → Rc L B O a
theorem Rc.sub {L : List (Int × Int)} {B O F : List Int} (hB : ∀ b ∈ B, b ∉ O → b ∈ F) (hc : ∀ a b, (a, b) ∈ L → (a ∈ F → b ∉ O → b ∈ F) ∧ (b ∈ F → a ∉ O → a ∈ F)) {x : Int} (h : Rc L B O x) : x ∈ F := by
  induction h with
  | base h1 h2 => exact hB _ h1 h2
  | fwd _ hl ho ih => exact (hc _ _ hl).1 ih ho
  | bwd _ hl ho ih => exact (hc _ _ hl).2 ih ho
theorem Rc.congr {L : List (Int × Int)} {B O B' O' : List Int} (hB : ∀ b, b ∉ O → b ∈ B → b ∈ B') (hO : ∀ b, b ∈ O' → b ∈ O) {x : Int} (h : Rc L B O x) : Rc L B' O' x := by
  induction h with
  | base h1 h2 => exact .base (hB _ h2 h1) fun h => h2 (hO _ h)
  | fwd _ hl ho ih => exact .fwd ih hl fun h => ho (hO _ h)
  | bwd _ hl ho ih => exact .bwd ih hl fun h => ho (hO _ h)
theorem nodup_len : ∀ (m : Nat) (F : List Int), F.Nodup → (∀ x ∈ F, 0 ≤ x ∧ x < (m : Int)) → F.length ≤ m
  | 0, F, _, h => by
    cases F with
    | nil => exact Nat.le_refl _
    | cons x F =>
      have := h x List.mem_cons_self
      omega
  | m + 1, F, hn, h => by
    by_cases hm : (m : Int) ∈ F
    · have h1 := nodup_len m (F.erase (m : Int)) (hn.erase _) fun x hx => by
        have hx2 := (hn.mem_erase_iff).mp hx
        have := h x hx2.2
        have hne := hx2.1
        omega
      have h2 := List.length_erase_of_mem hm
      omega
    · have h1 := nodup_len m F hn fun x hx => by
        have := h x hx
        have hne : x ≠ (m : Int) := fun e => hm (e ▸ hx)
        omega
      omega
/-- what a step of the law's search pushes -/
def nbr (O : List Int) (P : List (Int × Int)) : List Int := P.flatMap fun p => [p.1, p.2].filter fun x => decide (x ∉ O)
theorem nbr_len (O : List Int) (P : List (Int × Int)) : (nbr O P).length ≤ 2 * P.length := by
  induction P with
  | nil => simp [nbr]
  | cons p P ih =>
    have h : nbr O (p :: P) = ([p.1, p.2].filter fun x => decide (x ∉ O)) ++ nbr O P := rfl
    have h2 := List.length_filter_le (fun x => decide (x ∉ O)) [p.1, p.2]
    simp only [List.length_cons, List.length_nil] at h2
    rw [h, List.length_append, List.length_cons]
    omega
theorem mem_nbr {O : List Int} {P : List (Int × Int)} {x : Int} : x ∈ nbr O P ↔ x ∉ O ∧ ∃ p ∈ P, x = p.1 ∨ x = p.2 := by
  simp only [nbr, List.mem_flatMap, List.mem_filter, List.mem_cons, List.not_mem_nil, or_false, decide_eq_true_eq]
  constructor
  · rintro ⟨p, h1, h2, h3⟩
    exact ⟨h3, p, h1, h2⟩
  · rintro ⟨h3, p, h1, h2⟩
    exact ⟨p, h1, h2, h3⟩
def touch (x : Int) (L : List (Int × Int)) : List (Int × Int) := L.filter fun p => decide (p.1 = x ∨ p.2 = x)
theorem mem_touch {x : Int} {L : List (Int × Int)} {p : Int × Int} : p ∈ touch x L ↔ p ∈ L ∧ (p.1 = x ∨ p.2 = x) := by
  simp [touch, List.mem_filter]
/-- the law's search: what stays true -/
structure LInv (L : List (Int × Int)) (B O F S : List Int) : Prop where
  f1 : ∀ x ∈ F, Rc L B O x
  s1 : ∀ x ∈ S, Rc L B O x
  b1 : ∀ b ∈ B, b ∉ O → b ∈ F ∨ b ∈ S
  c1 : ∀ a b, (a, b) ∈ L → (a ∈ F → b ∉ O → b ∈ F ∨ b ∈ S) ∧ (b ∈ F → a ∉ O → a ∈ F ∨ a ∈ S)
  nd : F.Nodup
theorem LInv.start {L : List (Int × Int)} {B O : List Int} : LInv L B O [] (B.filter fun b => decide (b ∉ O)) where
  f1 := fun x h => nomatch h
  s1 := fun x h => by
    obtain ⟨h1, h2⟩ := List.mem_filter.mp h
    exact .base h1 (of_decide_eq_true h2)
  b1 := fun b h1 h2 => .inr (List.mem_filter.mpr ⟨h1, decide_eq_true h2⟩)
  c1 := fun a b _ => ⟨fun h => (nomatch h), fun h => (nomatch h)⟩
  nd := List.nodup_nil
theorem LInv.old {L : List (Int × Int)} {B O F S : List Int} {x : Int} (h : LInv L B O F (S ++ [x])) (hx : x ∈ F) : LInv L B O F S := by
  have sh : ∀ y, y ∈ F ∨ y ∈ S ++ [x] → y ∈ F ∨ y ∈ S := fun y hy => by
    rcases hy with hy | hy
    · exact .inl hy
    · rcases List.mem_append.mp hy with hy | hy
      · exact .inr hy
      · rw [List.mem_singleton.mp hy]
        exact .inl hx
  exact ⟨h.f1, fun y hy => h.s1 y (List.mem_append_left _ hy), fun b h1 h2 => sh _ (h.b1 b h1 h2), fun a b hl => ⟨fun h1 h2 => sh _ ((h.c1 a b hl).1 h1 h2), fun h1 h2 => sh _ ((h.c1 a b hl).2 h1 h2)⟩, h.nd⟩
theorem LInv.new {L : List (Int × Int)} {B O F S : List Int} {x : Int} (h : LInv L B O F (S ++ [x])) (hx : x ∉ F) : LInv L B O (F ++ [x]) (S ++ nbr O (touch x L)) := by
  have hr := h.s1 x (List.mem_append_right _ (List.mem_singleton.mpr rfl))
  have sh : ∀ y, y ∈ F ∨ y ∈ S ++ [x] → y ∈ F ++ [x] ∨ y ∈ S ++ nbr O (touch x L) := fun y hy => by
    rcases hy with hy | hy
    · exact .inl (List.mem_append_left _ hy)
    · rcases List.mem_append.mp hy with hy | hy
      · exact .inr (List.mem_append_left _ hy)
      · exact .inl (List.mem_append_right _ hy)
  refine ⟨fun y hy => ?_, fun y hy => ?_, fun b h1 h2 => sh _ (h.b1 b h1 h2), fun a b hl => ⟨fun h1 h2 => ?_, fun h1 h2 => ?_⟩, ?_⟩
  · rcases List.mem_append.mp hy with hy | hy
    · exact h.f1 y hy
    · rw [List.mem_singleton.mp hy]
      exact hr
  · rcases List.mem_append.mp hy with hy | hy
    · exact h.s1 y (List.mem_append_left _ hy)
    · obtain ⟨ho, p, hp, he⟩ := mem_nbr.mp hy
      obtain ⟨hp1, hp2⟩ := mem_touch.mp hp
      obtain ⟨p1, p2⟩ := p
      rcases he with rfl | rfl <;> rcases hp2 with rfl | rfl
      · exact hr
      · exact .bwd hr hp1 ho
      · exact .fwd hr hp1 ho
      · exact hr
  · rcases List.mem_append.mp h1 with h1 | h1
    · exact sh _ ((h.c1 a b hl).1 h1 h2)
    · have e := List.mem_singleton.mp h1
      exact .inr (List.mem_append_right _ (mem_nbr.mpr ⟨h2, (a, b), mem_touch.mpr ⟨hl, .inl e⟩, .inr rfl⟩))
  · rcases List.mem_append.mp h1 with h1 | h1
    · exact sh _ ((h.c1 a b hl).2 h1 h2)
    · have e := List.mem_singleton.mp h1
      exact .inr (List.mem_append_right _ (mem_nbr.mpr ⟨h2, (a, b), mem_touch.mpr ⟨hl, .inr e⟩, .inl rfl⟩))
  · rw [List.nodup_append]
    refine ⟨h.nd, List.nodup_cons.mpr ⟨fun h => (nomatch h), List.nodup_nil⟩, fun a ha b hb => ?_⟩
    rw [List.mem_singleton.mp hb]
    rintro rfl
    exact hx ha
theorem LInv.done {L : List (Int × Int)} {B O F : List Int} (h : LInv L B O F []) {x : Int} : x ∈ F ↔ Rc L B O x := by
  have sh : ∀ y, y ∈ F ∨ y ∈ ([] : List Int) → y ∈ F := fun y hy => by
    rcases hy with hy | hy
    · exact hy
    · exact nomatch hy
  exact ⟨h.f1 x, Rc.sub (fun b h1 h2 => sh _ (h.b1 b h1 h2)) fun a b hl => ⟨fun h1 h2 => sh _ ((h.c1 a b hl).1 h1 h2), fun h1 h2 => sh _ ((h.c1 a b hl).2 h1 h2)⟩⟩
/-- bars of a net: all that is reached lies in it -/
theorem Rc.bar {L : List (Int × Int)} {B O : List Int} {n : Int} (hL : ∀ p ∈ L, (0 ≤ p.1 ∧ p.1 < n) ∧ 0 ≤ p.2 ∧ p.2 < n) (hB : ∀ b ∈ B, 0 ≤ b ∧ b < n) {x : Int} (h : Rc L B O x) : 0 ≤ x ∧ x < n := by
  induction h with
  | base h1 _ => exact hB _ h1
  | fwd _ hl _ _ => exact (hL _ hl).2
  | bwd _ hl _ _ => exact (hL _ hl).1
/-- the package's search: K is found, W of it waits -/
structure PInv (L : List (Int × Int)) (B O K W : List Int) : Prop where
  k1 : ∀ x ∈ K, Rc L B O x
  w1 : ∀ x ∈ W, x ∈ K
  b1 : ∀ b ∈ B, b ∉ O → b ∈ K
  c1 : ∀ a b, (a, b) ∈ L → (a ∈ K → a ∉ W → b ∉ O → b ∈ K) ∧ (b ∈ K → b ∉ W → a ∉ O → a ∈ K)
  nd : K.Nodup
theorem PInv.done {L : List (Int × Int)} {B O K : List Int} (h : PInv L B O K []) {x : Int} : x ∈ K ↔ Rc L B O x :=
  ⟨h.k1 x, Rc.sub h.b1 fun a b hl => ⟨fun h1 h2 => (h.c1 a b hl).1 h1 (fun m => nomatch m) h2, fun h1 h2 => (h.c1 a b hl).2 h1 (fun m => nomatch m) h2⟩⟩
/-- within the walk of one bar x, its neighbours ahead of Y seen -/
structure PMid (L : List (Int × Int)) (B O K W : List Int) (x : Int) (Y : List Int) : Prop where
  x1 : x ∈ K
  k1 : ∀ x ∈ K, Rc L B O x
  w1 : ∀ x ∈ W, x ∈ K
  b1 : ∀ b ∈ B, b ∉ O → b ∈ K
  c1 : ∀ a b, (a, b) ∈ L → (a ∈ K → a ∉ W → b ∉ O → b ∈ K ∨ (a = x ∧ b ∈ Y)) ∧ (b ∈ K → b ∉ W → a ∉ O → a ∈ K ∨ (b = x ∧ a ∈ Y))
  nd : K.Nodup
theorem PInv.mid {L : List (Int × Int)} {B O K W : List Int} {x : Int} {Y : List Int} (h : PInv L B O K (W ++ [x])) (hY : ∀ p ∈ L, (p.1 = x → p.2 ∈ Y) ∧ (p.2 = x → p.1 ∈ Y)) : PMid L B O K W x Y := by
  refine ⟨h.w1 x (List.mem_append_right _ (List.mem_singleton.mpr rfl)), h.k1, fun y hy => h.w1 y (List.mem_append_left _ hy), h.b1, fun a b hl => ⟨fun h1 h2 h3 => ?_, fun h1 h2 h3 => ?_⟩, h.nd⟩
  · by_cases e : a = x
    · exact .inr ⟨e, (hY _ hl).1 e⟩
    · refine .inl ((h.c1 a b hl).1 h1 (fun m => ?_) h3)
      rcases List.mem_append.mp m with m | m
      · exact h2 m
      · exact e (List.mem_singleton.mp m)
  · by_cases e : b = x
    · exact .inr ⟨e, (hY _ hl).2 e⟩
    · refine .inl ((h.c1 a b hl).2 h1 (fun m => ?_) h3)
      rcases List.mem_append.mp m with m | m
      · exact h2 m
      · exact e (List.mem_singleton.mp m)
theorem PMid.old {L : List (Int × Int)} {B O K W : List Int} {x y : Int} {Y : List Int} (h : PMid L B O K W x (y :: Y)) (hy : y ∈ K ∨ y ∈ O) : PMid L B O K W x Y := by
  have sh : ∀ z, z ∉ O → z ∈ y :: Y → z ∈ K ∨ z ∈ Y := fun z ho hz => by
    rcases List.mem_cons.mp hz with rfl | hz
    · exact .inl (hy.resolve_right ho)
    · exact .inr hz
  refine ⟨h.x1, h.k1, h.w1, h.b1, fun a b hl => ⟨fun h1 h2 h3 => ?_, fun h1 h2 h3 => ?_⟩, h.nd⟩
  · rcases (h.c1 a b hl).1 h1 h2 h3 with h | ⟨e, h⟩
    · exact .inl h
    · rcases sh _ h3 h with h | h
      · exact .inl h
      · exact .inr ⟨e, h⟩
  · rcases (h.c1 a b hl).2 h1 h2 h3 with h | ⟨e, h⟩
    · exact .inl h
    · rcases sh _ h3 h with h | h
      · exact .inl h
      · exact .inr ⟨e, h⟩
theorem PMid.new {L : List (Int × Int)} {B O K W : List Int} {x y : Int} {Y : List Int} (h : PMid L B O K W x (y :: Y)) (hl : (x, y) ∈ L ∨ (y, x) ∈ L) (hk : y ∉ K) (ho : y ∉ O) : PMid L B O (K ++ [y]) (W ++ [y]) x Y := by
  have hr : Rc L B O y := by
    rcases hl with hl | hl
    · exact .fwd (h.k1 x h.x1) hl ho
    · exact .bwd (h.k1 x h.x1) hl ho
  have sh : ∀ z, z ∈ y :: Y → z ∈ K ++ [y] ∨ z ∈ Y := fun z hz => by
    rcases List.mem_cons.mp hz with rfl | hz
    · exact .inl (List.mem_append_right _ (List.mem_singleton.mpr rfl))
    · exact .inr hz
  have ky : ∀ z, z ∈ K ++ [y] → z ∉ W ++ [y] → z ∈ K ∧ z ∉ W := fun z h1 h2 => by
    rcases List.mem_append.mp h1 with h1 | h1
    · exact ⟨h1, fun m => h2 (List.mem_append_left _ m)⟩
    · exact absurd (List.mem_append_right _ h1) h2
  refine ⟨List.mem_append_left _ h.x1, fun z hz => ?_, fun z hz => ?_, fun b h1 h2 => List.mem_append_left _ (h.b1 b h1 h2), fun a b hl => ⟨fun h1 h2 h3 => ?_, fun h1 h2 h3 => ?_⟩, ?_⟩
  · rcases List.mem_append.mp hz with hz | hz
    · exact h.k1 z hz
    · rw [List.mem_singleton.mp hz]
      exact hr
  · rcases List.mem_append.mp hz with hz | hz
    · exact List.mem_append_left _ (h.w1 z hz)
    · exact List.mem_append_right _ hz
  · obtain ⟨q1, q2⟩ := ky a h1 h2
    rcases (h.c1 a b hl).1 q1 q2 h3 with h | ⟨e, h⟩
    · exact .inl (List.mem_append_left _ h)
    · rcases sh _ h with h | h
      · exact .inl h
      · exact .inr ⟨e, h⟩
  · obtain ⟨q1, q2⟩ := ky b h1 h2
    rcases (h.c1 a b hl).2 q1 q2 h3 with h | ⟨e, h⟩
    · exact .inl (List.mem_append_left _ h)
    · rcases sh _ h with h | h
      · exact .inl h
      · exact .inr ⟨e, h⟩
  · rw [List.nodup_append]
    refine ⟨h.nd, List.nodup_cons.mpr ⟨fun h => (nomatch h), List.nodup_nil⟩, fun a ha b hb => ?_⟩
    rw [List.mem_singleton.mp hb]
    rintro rfl
    exact hk ha
theorem PMid.end {L : List (Int × Int)} {B O K W : List Int} {x : Int} (h : PMid L B O K W x []) : PInv L B O K W := by
  refine ⟨h.k1, h.w1, h.b1, fun a b hl => ⟨fun h1 h2 h3 => ?_, fun h1 h2 h3 => ?_⟩, h.nd⟩
  · exact ((h.c1 a b hl).1 h1 h2 h3).resolve_right fun h => nomatch h.2
  · exact ((h.c1 a b hl).2 h1 h2 h3).resolve_right fun h => nomatch h.2
end K22
namespace K22
open PySem L2 Mi

/-! tests by what they are as expressions -/
theorem evT_bi {Φ : Phi} {b : Bi} {es : E} {env e1 : SEnv} {c : Bool} (h : evE Φ (.bi b es) env = some (.d (.bool c), e1)) : evT Φ (.bi b es) env = some (c, e1) := by
  rw [evE] at h
  rw [evT]
  simp only [Option.bind_eq_bind, Option.bind_eq_some_iff, Option.some.injEq, Prod.mk.injEq] at h ⊢
  obtain ⟨⟨os, e2⟩, h1, ts, h2, r, h3, rfl, rfl⟩ := h
  exact ⟨⟨os, e2⟩, h1, ts, h2, .d (.bool c), h3, by simp [AV.dat, strFit, AV.isDi, truth]⟩
theorem evT_call {Φ : Phi} {k : Nat} {es : E} {env e1 : SEnv} {c : Bool} (h : evE Φ (.call k es) env = some (.d (.bool c), e1)) : evT Φ (.call k es) env = some (c, e1) := by
  rw [evE] at h
  rw [evT]
  simp only [Option.bind_eq_bind, Option.bind_eq_some_iff] at h ⊢
  obtain ⟨F, h0, ⟨os, e2⟩, h1, h2⟩ := h
  exact ⟨F, h0, ⟨os, e2⟩, h1, ⟨.d (.bool c), e1⟩, h2, by simp [AV.dat, strFit, AV.isDi, truth]⟩
theorem evT_callk {Φ : Phi} {k : Nat} {pm : List Nat} {es : E} {env e1 : SEnv} {c : Bool} (h : evE Φ (.callk k pm es) env = some (.d (.bool c), e1)) : evT Φ (.callk k pm es) env = some (c, e1) := by
  rw [evE] at h
  rw [evT]
  simp only [Option.bind_eq_bind, Option.bind_eq_some_iff] at h ⊢
  obtain ⟨F, h0, ⟨os, e2⟩, h1, os2, h3, h2⟩ := h
  exact ⟨F, h0, ⟨os, e2⟩, h1, os2, h3, ⟨.d (.bool c), e1⟩, h2, by simp [AV.dat, strFit, AV.isDi, truth]⟩
theorem evT_not {Φ : Phi} {a : E} {env e1 : SEnv} {k : Bool} (h : evT Φ a env = some (k, e1)) : evT Φ (.not a) env = some (!k, e1) := by
  rw [evT]
  simp only [h, Option.bind_eq_bind, Option.bind_some]
theorem evT_or_f {Φ : Phi} {a b : E} {env e1 : SEnv} (h : evT Φ a env = some (false, e1)) : evT Φ (.or a b) env = evT Φ b e1 := by
  rw [evT]
  simp [h]
theorem ife_f {Φ : Phi} {c : E} {a b : S} {env e1 : SEnv} (h : evT Φ c env = some (false, e1)) : exS Φ (.ife c a b) env = exS Φ b e1 := by
  rw [exS]
  simp [h]
theorem ife_t {Φ : Phi} {c : E} {a b : S} {env e1 : SEnv} (h : evT Φ c env = some (true, e1)) : exS Φ (.ife c a b) env = exS Φ a e1 := by
  rw [exS]
  simp [h]
theorem ife_skip {Φ : Phi} {c : E} {a : S} {env e1 : SEnv} (h : evT Φ c env = some (false, e1)) : exS Φ (.ife c a .skip) env = some (.nx, e1) := by
  rw [ife_f h, exS]
/-- a turn whose target is one name -/
theorem turn_ref {Φ : Phi} {i : Nat} {elt : E} {x : PyData} {env : SEnv} {t : AV} (hi : i < env.length) (hn : getv env i = none) (he : evE Φ elt (env.set i (some (.d x))) = some (t, env.set i (some (.d x)))) : lcTurn Φ [i] (.ref i) .nil elt x env = some (some t, env) := by
  have hw : wipeE (env.set i (some (.d x))) [i] = env := by
    show (env.set i (some (.d x))).set i none = env
    rw [List.set_set]
    exact set_none hn
  simp only [lcTurn, asgT, hi, if_true, evC, he, Option.bind_eq_bind, Option.bind_some, hw]
theorem wipe1 {env : SEnv} {i : Nat} (hn : getv env i = none) : wipeE env [i] = env := set_none hn
/-- all([f(n, one) for one in xs]), all true -/
theorem ev_all2 {Φ : Phi} {k i j : Nat} {G : FnS} {a : PyData} {v : Nat} {xs : List PyData} {y : PyData} {env : SEnv} (hk : Φ[k]? = some G) (hG : ∀ x ∈ xs, ∀ e : SEnv, callV G [.val (.d a), .val (.d x)] e = some (.d (.bool true), e)) (hv : getv env v = some (.d y)) (hy : y = .tuple xs ∨ y = .list xs) (hl : xs.length ≤ 1000000) (hj : getv env j = some (.d a)) (hi : i < env.length) (hn : getv env i = none) :
    evE Φ (.bi .all (.cons (.lc [i] (.ref i) (.cons (.var v) .nil) .nil (.call k (.cons (.var j) (.cons (.var i) .nil)))) .nil)) env = some (.d (.bool true), env) := by
  have hji : j ≠ i := by
    rintro rfl
    rw [hj] at hn
    cases hn
  refine ev_all (evI_var hv hy) hl (wipe1 hn) fun x hx => turn_ref hi hn ?_
  have e1 : getv (env.set i (some (.d x))) j = some (.d a) := by
    unfold getv
    rw [List.getElem?_set_ne (Ne.symm hji)]
    exact hj
  have e2 : getv (env.set i (some (.d x))) i = some (.d x) := by
    unfold getv
    rw [List.getElem?_set_self hi]
    rfl
  exact ev_call2 hk (opd_var e1) (opd_var e2) (hG x hx _)
def IsFlaw (G : FnS) : Prop := G.n = 1 ∧ G.io = [] ∧ ∀ (n : Int) (sw so cu : List PyData), NetD n sw so cu → G.sem [.d (netV n sw so cu)] = some (.d .none, [])
theorem flaw_ok (Φ : Phi) {G W P S1 S2 S3 : FnS} (h13 : Φ[10]? = some G) (hG : IsWithin G) (h14 : Φ[11]? = some W) (hW : IsWord W) (h15 : Φ[12]? = some P) (hP : IsPart P)
    (h17 : Φ[14]? = some S1) (hS1 : IsSw S1) (h18 : Φ[15]? = some S2) (hS2 : IsSrc S2) (h19 : Φ[16]? = some S3) (hS3 : IsCust S3) : IsFlaw (semOf Φ d17) := by
  obtain ⟨g1, g2, g3⟩ := hG
  obtain ⟨v1, v2, v3⟩ := hW
  obtain ⟨p1, p2, p3⟩ := hP
  obtain ⟨a1, a2, a3⟩ := hS1
  obtain ⟨b1', b2', b3504'⟩ := hS2
  obtain ⟨c1, c2, c3⟩ := hS3
  refine ⟨rfl, rfl, fun n sw so cu hN => ?_⟩
  have ww : ∀ env : SEnv, callV W [.val (.d (.str "net")), .val (.d (.tuple [.str "net"]))] env = some (.d (.bool true), env) := fun env => by
    have := call_d (xs := [.str "net", .tuple [.str "net"]]) (env := env) v1 v2 (v3 "net" [.str "net"] (by simp))
    have h : ([PyData.str "net"].any fun w => PyData.eqv w (.str "net")) = true := by decide +kernel
    rw [h] at this
    simpa using this
  have w : ∀ env : SEnv, callV G [.val (.d (.int n)), .val (.d (.int 1)), .val (.d (.int 60))] env = some (.d (.bool true), env) := fun env => by
    have := call_d (xs := [.int n, .int 1, .int 60]) (env := env) g1 g2 (g3 (.int n) 1 60)
    simpa [hN.n1, hN.n2] using this
  have pt : ∀ (xs : List PyData) (m : Int) (env : SEnv), (xs.length : Int) ≤ m → callV P [.val (.d (.tuple xs)), .val (.d (.int m))] env = some (.d (.bool true), env) := fun xs m env h => by
    have := call_d (xs := [.tuple xs, .int m]) (env := env) p1 p2 (p3 xs m)
    simpa [h] using this
  let e0 : SEnv := [some (.d (netV n sw so cu)), some (.d (.str "net")), some (.d (.int n)), some (.d (.tuple sw)), some (.d (.tuple so)), some (.d (.tuple cu)), none]
  have key : ∀ (f k v : Nat) (F : FnS) (xs : List PyData) (m : Int) (b : S), Φ[f]? = some F → (∀ x ∈ xs, ∀ e : SEnv, callV F [.val (.d (.int n)), .val (.d x)] e = some (.d (.bool true), e)) → getv e0 v = some (.d (.tuple xs)) → (xs.length : Int) ≤ m → m ≤ 90 → (exS Φ (.ife (.or (.not (.call 12 (.cons (.var v) (.cons (.glob k (.int m)) .nil)))) (.not (.bi .all (.cons (.lc [6] (.ref 6) (.cons (.var v) .nil) .nil (.call f (.cons (.var 2) (.cons (.var 6) .nil)))) .nil)))) b .skip) e0) = some (.nx, e0) := by
    intro f k v F xs m b hf hF hv hm hm2
    refine ife_skip ?_
    rw [evT_or_f (e1 := e0) (evT_not (k := true) (evT_call (ev_call2 h15 (opd_var hv) (e2 := e0) (u := .d (.int m)) rfl (pt xs m e0 hm))))]
    exact evT_not (k := true) (evT_bi (ev_all2 hf hF hv (.inl rfl) (by omega) rfl (by simp [e0]) rfl))
  refine run_rt (e := e0) rfl ?_ rfl
  show exS Φ b17 _ = _
  unfold b17
  refine (seq_nx (e1 := [some (.d (netV n sw so cu)), none, none, none, none, none, none]) (ife_skip ?_)).trans ?_
  · simp [netV, d17, startE, evT, evE, evL, evA, opd, look, getv, isiD, AV.dat, cmpV, biV, fitL, LIM, ixV, atI, ixN, h14, eqOk, SeqAt.shaped, PyData.canLay0, PyData.depth, PyData.eqv, mkTup, leafs, ww, strFit, truth, AV.isDi]
  refine (seq_nx (e1 := e0) ?_).trans ?_
  · simp [e0, netV, exS, evE, getv, asgT, asgT.asgTs, AV.dat]
  refine (seq_nx (e1 := e0) (ife_skip ?_)).trans ?_
  · simp [e0, evT, evE, evL, opd, look, getv, AV.dat, h13, w, strFit, truth, AV.isDi]
  have hl1 := hN.s1
  have hl2 := hN.s2
  have hl3 := hN.s3
  refine (seq_nx (e1 := e0) (key 14 8 3 S1 sw 90 _ h17 (fun x hx e => call_d (xs := [.int n, x]) a1 a2 (a3 n x (hN.w1 x hx))) rfl (by omega) (by omega))).trans ?_
  refine (seq_nx (e1 := e0) (key 15 9 4 S2 so 12 _ h18 (fun x hx e => call_d (xs := [.int n, x]) b1' b2' (b3504' n x (hN.w2 x hx))) rfl (by omega) (by omega))).trans ?_
  refine (seq_nx (e1 := e0) (key 16 10 5 S3 cu 40 _ h19 (fun x hx e => call_d (xs := [.int n, x]) c1 c2 (c3 n x (hN.w3 x hx))) rfl (by omega) (by omega))).trans ?_
  simp [exS, evE]
def IsChkNet (G : FnS) : Prop := G.n = 1 ∧ G.io = [] ∧ ∀ (n : Int) (sw so cu : List PyData), NetD n sw so cu → G.sem [.d (netV n sw so cu)] = some (.d .none, [])
theorem run_nx {Φ : Phi} {d : FnD} {ts us : List AV} {e : SEnv} (hl : ts.length = d.n) (h : exS Φ d.body (startE d.nn ts) = some (.nx, e)) (hu : d.io.mapM (getv e) = some us) : (semOf Φ d).sem ts = some (.d .none, us) := by
  show runF Φ d ts = _
  unfold runF
  rw [if_pos hl, h]
  simp [hu]
theorem chknet_ok (Φ : Phi) {G : FnS} (h20 : Φ[17]? = some G) (hG : IsFlaw G) : IsChkNet (semOf Φ d18) := by
  obtain ⟨g1, g2, g3⟩ := hG
  refine ⟨rfl, rfl, fun n sw so cu hN => ?_⟩
  have w : ∀ env : SEnv, callV G [.val (.d (netV n sw so cu))] env = some (.d .none, env) := fun env => call_d (xs := [netV n sw so cu]) (env := env) g1 g2 (g3 n sw so cu hN)
  refine run_nx (e := [some (.d (netV n sw so cu))]) rfl ?_ rfl
  show exS Φ b18 _ = _
  simp [b18, d18, startE, exS, evT, evE, evL, opd, look, getv, AV.dat, h20, w, cmpV, isNoneD]
end K22
namespace K22
open PySem L2 Mi

/-! rising lists of bars: jobs, dead bars -/
structure Ris (n : Int) (ms : List Int) : Prop where
  up : ms.Pairwise fun a b => a < b
  in_ : ∀ m ∈ ms, 0 ≤ m ∧ m < n
def jobV (ms : List Int) : PyData := .tuple (ms.map .int)
theorem ev_call3 {Φ : Phi} {k : Nat} {G : FnS} {a b c : E} {env e1 e2 e3 e4 : SEnv} {t u v r : AV} (hk : Φ[k]? = some G) (na : opd a (evE Φ a) env = some (.val t, e1)) (nb : opd b (evE Φ b) e1 = some (.val u, e2)) (nc : opd c (evE Φ c) e2 = some (.val v, e3)) (hc : callV G [.val t, .val u, .val v] e3 = some (r, e4)) : evE Φ (.call k (.cons a (.cons b (.cons c .nil)))) env = some (r, e4) := by
  simp only [evE, evL, hk, na, nb, nc, hc, Option.bind_eq_bind, Option.bind_some]
theorem zip_up : ∀ {ms : List Int}, (ms.Pairwise fun a b => a < b) → ∀ p ∈ ms.zip (ms.drop 1), p.1 < p.2
  | [], _, p, h => by simp at h
  | [a], _, p, h => by simp at h
  | a :: b :: ms, hp, p, h => by
    have e : (a :: b :: ms).zip ((a :: b :: ms).drop 1) = (a, b) :: (b :: ms).zip ((b :: ms).drop 1) := by simp
    rw [e] at h
    rcases List.mem_cons.mp h with rfl | h
    · exact (List.pairwise_cons.mp hp).1 b List.mem_cons_self
    · exact zip_up (List.pairwise_cons.mp hp).2 p h
theorem cut1 (xs : List PyData) : cutD xs (some 1) none = xs.drop 1 := by
  have h : HT.sIx xs.length xs.length none = xs.length := by simp [HT.sIx]
  unfold cutD
  rw [h]
  cases xs with
  | nil => simp
  | cons x xs =>
    have h1 : HT.sIx (x :: xs).length 0 (some 1) = 1 := by simp [HT.sIx] <;> omega
    rw [h1]
    apply List.take_of_length_le
    simp
theorem dk_job (ms : List Int) : Dk 1 (jobV ms) := dk_tuple fun x hx => by
  obtain ⟨m, _, rfl⟩ := List.mem_map.mp hx
  exact dk_int m
end K22
namespace K22
open PySem L2 Mi

theorem fmap_congr {α β : Type} {f g : α → Option β} : ∀ {l : List α}, (∀ x ∈ l, f x = g x) → l.filterMap f = l.filterMap g
  | [], _ => rfl
  | x :: l, h => by
    rw [List.filterMap_cons, List.filterMap_cons, h x List.mem_cons_self, fmap_congr fun y hy => h y (List.mem_cons_of_mem _ hy)]
/-! lists of whole numbers as values -/
def intV (F : List Int) : List AV := F.map fun i => AV.d (.int i)
def intL (F : List Int) : PyData := .list (F.map .int)
theorem dat_intV (F : List Int) : AV.dat (.own (intV F)) = intL F := by
  have : datL (intV F) = F.map .int := by
    unfold intV
    rw [← datL_leaf (F.map .int), List.map_map]
    rfl
  simp [AV.dat, this, intL]
theorem leafs_intV (F : List Int) : leafs (intV F) = some (F.map .int) := by
  have : intV F = (F.map PyData.int).map .d := by simp [intV]
  rw [this, leafs_map]
theorem dk_intL (F : List Int) : Dk 1 (intL F) := dk_list fun x hx => by
  obtain ⟨m, _, rfl⟩ := List.mem_map.mp hx
  exact dk_int m
theorem ok_intL (F : List Int) : eqOk (intL F) = true := (dk_intL F).ok (by decide)
theorem ok_int (i : Int) : eqOk (.int i) = true := (dk_int i).ok (by decide)
theorem any_int (F : List Int) (x : Int) : ((F.map PyData.int).any fun y => PyData.eqv y (.int x)) = decide (x ∈ F) := by
  rw [Bool.eq_iff_iff, decide_eq_true_eq, List.any_map, List.any_eq_true]
  constructor
  · rintro ⟨y, h1, h2⟩
    simp [PyData.eqv] at h2
    exact h2 ▸ h1
  · intro h
    exact ⟨x, h, by simp [PyData.eqv]⟩
theorem inV_list (F : List Int) (x : Int) (g : Bool) : inVal g (.d (.int x)) (.d (intL F)) = some (if g then !decide (x ∈ F) else decide (x ∈ F)) := by
  have h1 : eqOk (.list (F.map .int)) = true := ok_intL F
  simp [inVal, intL, AV.at?, AV.lst?, AV.dat, h1, ok_int, any_int, -List.any_map]
theorem inV_own (F : List Int) (x : Int) (g : Bool) : inVal g (.d (.int x)) (.own (intV F)) = some (if g then !decide (x ∈ F) else decide (x ∈ F)) := by
  have h1 : eqOk (.list (F.map .int)) = true := ok_intL F
  simp [inVal, AV.at?, AV.lst?, AV.dat, leafs_intV, h1, ok_int, any_int, -List.any_map]
theorem inV_tup (F : List Int) (x : Int) (g : Bool) : inVal g (.d (.int x)) (.d (jobV F)) = some (if g then !decide (x ∈ F) else decide (x ∈ F)) := by
  have h2 : (F.map PyData.int).all flatD = true := List.all_eq_true.mpr fun x hx => by
    obtain ⟨i, _, rfl⟩ := List.mem_map.mp hx
    rfl
  have h3 : flatD (.int x) = true := rfl
  simp only [inVal, jobV, AV.at?, AV.lst?, AV.tup?, AV.dat, h2, h3, any_int, Bool.and_self, if_true]
theorem evT_nonempty {Φ : Phi} {env : SEnv} {i : Nat} {S : List Int} (h : getv env i = some (.own (intV S))) : evT Φ (.cmp .NotEq (.ref i) (.lst .nil)) env = some (!S.isEmpty, env) := by
  have e1 : eqOk (.list []) = true := by decide
  have e2 : PyData.eqv (intL S) (.list []) = S.isEmpty := by
    unfold intL
    rw [eqv_nil]
    cases S <;> rfl
  have e3 : AV.dat (.own []) = .list [] := by simp [AV.dat, datL]
  simp [evT, evE, evA, opd, look, h, cmpV, dat_intV, ok_intL, e1, e2, e3, fitL, LIM]
theorem intV_append (F G : List Int) : intV (F ++ G) = intV F ++ intV G := by simp [intV]
theorem intV_length (F : List Int) : (intV F).length = F.length := by simp [intV]

/-! the net's switches and feeds -/
theorem net1 {n : Int} {sw so cu : List PyData} : ixV (.d (netV n sw so cu)) (.d (.int 1)) = some (.d (.int n)) := rfl
theorem net2 {n : Int} {sw so cu : List PyData} : ixV (.d (netV n sw so cu)) (.d (.int 2)) = some (.d (.tuple sw)) := rfl
theorem net3 {n : Int} {sw so cu : List PyData} : ixV (.d (netV n sw so cu)) (.d (.int 3)) = some (.d (.tuple so)) := rfl
theorem net4 {n : Int} {sw so cu : List PyData} : ixV (.d (netV n sw so cu)) (.d (.int 4)) = some (.d (.tuple cu)) := rfl
/-- position and ends of a switch -/
def swOf (p : PyData × Nat) : Option (Int × Int × Int) := match p.1 with
  | .tuple (.int a :: .int b :: _) => some ((p.2 : Int), a, b)
  | _ => none
def swU (sw : List PyData) : List (Int × Int × Int) := sw.zipIdx.filterMap swOf
def links (U : List (Int × Int × Int)) : List (Int × Int) := U.map (·.2)
def places (U : List (Int × Int × Int)) : List Int := U.map (·.1)
structure UD (n : Int) (sw : List PyData) (U : List (Int × Int × Int)) : Prop where
  at_ : ∀ u ∈ U, ∃ k d, atI sw u.1 = some (.tuple [.int u.2.1, .int u.2.2, .str k, d])
  in_ : ∀ u ∈ U, (0 ≤ u.2.1 ∧ u.2.1 < n) ∧ 0 ≤ u.2.2 ∧ u.2.2 < n
  len : U.length ≤ 90
theorem atI_nat (xs : List PyData) (i : Nat) (h : i < xs.length) : atI xs (i : Int) = xs[i]? := by
  unfold atI ixN
  rw [if_pos (by omega), if_pos (by omega)]
  simp
theorem swU_ok {n : Int} {sw so cu : List PyData} (h : NetD n sw so cu) : UD n sw (swU sw) where
  at_ := fun u hu => by
    obtain ⟨⟨x, i⟩, hp, he⟩ := List.mem_filterMap.mp hu
    have hx : sw[i]? = some x := List.mem_zipIdx_iff_getElem?.mp hp
    have hi : i < sw.length := (List.getElem?_eq_some_iff.mp hx).1
    rcases h.w1 x (List.mem_of_getElem? hx) with rfl | ⟨a, b, k, d, rfl, _⟩
    · simp [swOf] at he
    · simp [swOf] at he
      subst he
      exact ⟨k, d, by rw [atI_nat _ _ hi, hx]⟩
  in_ := fun u hu => by
    obtain ⟨⟨x, i⟩, hp, he⟩ := List.mem_filterMap.mp hu
    have hx : sw[i]? = some x := List.mem_zipIdx_iff_getElem?.mp hp
    rcases h.w1 x (List.mem_of_getElem? hx) with rfl | ⟨a, b, k, d, rfl, h1, h2, h3, h4, _⟩
    · simp [swOf] at he
    · simp [swOf] at he
      subst he
      exact ⟨⟨h1, h2⟩, h3, h4⟩
  len := by
    have h1 : (swU sw).length ≤ sw.zipIdx.length := List.length_filterMap_le _ _
    rw [List.length_zipIdx] at h1
    have := h.s1
    omega
def IsSws (G : FnS) : Prop := G.n = 1 ∧ G.io = [] ∧ ∀ (n : Int) (sw so cu : List PyData), NetD n sw so cu → G.sem [.d (netV n sw so cu)] = some (.own (intV (places (swU sw))), [])
theorem sws_ok (Φ : Phi) : IsSws (semOf Φ d4) := by
  refine ⟨rfl, rfl, fun n sw so cu hN => ?_⟩
  let e0 : SEnv := [some (.d (netV n sw so cu)), none, none]
  refine run_rt (e := e0) rfl ?_ rfl
  show exS Φ b4 e0 = _
  unfold b4
  refine seq_rt ?_
  rw [exS]
  have hI : evI Φ (.bi .enum (.cons (.ix (.ref 0) (.lit (.int 2))) .nil)) e0 = some (enumL sw, e0, none) := by
    simp [evI, evE, opd, look, getv, e0, net2, AV.seq?]
  let g : PyData → Option AV := fun x => match x with
    | .tuple [.int i, .tuple (_ :: _)] => some (.d (.int i))
    | _ => none
  have hl := hN.s1
  rw [ev_lcmap g hI (by simp [enumL]; omega) rfl fun x hx => ?_]
  · simp only [Option.bind_eq_bind, Option.bind_some]
    congr 4
    unfold enumL intV places swU
    rw [List.filterMap_map, List.map_filterMap, List.map_filterMap]
    refine fmap_congr fun p hp => ?_
    obtain ⟨x, i⟩ := p
    have hx : sw[i]? = some x := List.mem_zipIdx_iff_getElem?.mp hp
    rcases hN.w1 x (List.mem_of_getElem? hx) with rfl | ⟨a, b, k, d, rfl, _⟩ <;> simp [g, swOf]
  · obtain ⟨⟨x, i⟩, hp, rfl⟩ := List.mem_map.mp hx
    have hx : sw[i]? = some x := List.mem_zipIdx_iff_getElem?.mp hp
    have e2 : eqOk (.tuple []) = true := by decide
    rcases hN.w1 x (List.mem_of_getElem? hx) with rfl | ⟨a, b, k, d, rfl, _, _, _, _, _, hk, hd⟩
    · simp [lcTurn, asgT, asgT.asgTs, e0, evC, evT, evE, evA, opd, look, getv, cmpV, mkTup, leafs, fitL, LIM, AV.dat, e2, PyData.eqv, PyData.eqvAll, wipeE, g]
    · have sok : PyData.strOk k = true := by rcases hk with rfl | rfl <;> decide +kernel
      have dok : Dk 0 d := by
        rcases hd with rfl | ⟨z, rfl, _, _⟩
        · exact dk_none
        · exact dk_int z
      have e4 : eqOk (.tuple [.int a, .int b, .str k, d]) = true := (dk_tuple (n := 0) (xs := [.int a, .int b, .str k, d]) fun x hx => by
        simp only [List.mem_cons, List.mem_nil_iff, or_false] at hx
        rcases hx with rfl | rfl | rfl | rfl
        · exact dk_int a
        · exact dk_int b
        · exact dk_str sok
        · exact dok).ok (by decide)
      simp [lcTurn, asgT, asgT.asgTs, e0, evC, evT, evE, evA, opd, look, getv, cmpV, mkTup, leafs, fitL, LIM, AV.dat, e2, e4, PyData.eqv, PyData.eqvAll, wipeE, g]
end K22
namespace K22
open PySem L2 Mi

/-! the law's search -/
def pr (p : Int × Int) : PyData := .tuple [.int p.1, .int p.2]
def filG (p : Int → Bool) (y : PyData) : Option AV := match y with
  | .int x => if p x then some (.d (.int x)) else none
  | _ => none
theorem filG_map (p : Int → Bool) (X : List Int) : (X.map PyData.int).filterMap (filG p) = intV (X.filter p) := by
  induction X with
  | nil => rfl
  | cons x X ih =>
    cases h : p x <;> simp [filG, h, ih, intV] <;> exact ih
theorem getv_set_self {env : SEnv} {i : Nat} {o : Option AV} (h : i < env.length) : getv (env.set i o) i = o := by
  unfold getv
  rw [List.getElem?_set_self h]
  rfl
theorem getv_set_ne {env : SEnv} {i j : Nat} {o : Option AV} (h : i ≠ j) : getv (env.set i o) j = getv env j := by
  unfold getv
  rw [List.getElem?_set_ne h]
theorem wipe_set {env : SEnv} {i : Nat} {o : Option AV} (hn : getv env i = none) : wipeE (env.set i o) [i] = env := by
  show (env.set i o).set i none = env
  rw [List.set_set]
  exact set_none hn
/-- [x for x in X if p(x)] -/
theorem ev_lcfil {Φ : Phi} {i : Nat} {it c : E} {env e1 : SEnv} {X : List Int} (p : Int → Bool) (hI : evI Φ it env = some (X.map .int, e1, none)) (hl : X.length ≤ 1000000) (hi : i < e1.length) (hn : getv e1 i = none) (hc : ∀ x ∈ X, evT Φ c (e1.set i (some (.d (.int x)))) = some (p x, e1.set i (some (.d (.int x))))) :
    evE Φ (.lc [i] (.ref i) it (.cons c .nil) (.var i)) env = some (.own (intV (X.filter p)), e1) := by
  rw [← filG_map]
  refine ev_lcmap (filG p) hI (by simpa using hl) (wipe1 hn) fun y hy => ?_
  obtain ⟨x, hx, rfl⟩ := List.mem_map.mp hy
  have h1 := hc x hx
  have h2 := ev_var (Φ := Φ) (getv_set_self (o := some (.d (.int x))) hi)
  cases hp : p x <;> simp only [lcTurn, asgT, hi, if_true, evC, h1, hp, h2, Option.bind_eq_bind, Option.bind_some, wipe_set hn, filG] <;> simp
theorem evT_notin {Φ : Phi} {env : SEnv} {i j : Nat} {t u : AV} {b : Bool} (h1 : getv env i = some t) (h2 : getv env j = some u) (hv : inVal true t u = some b) : evT Φ (.cmp .NotIn (.ref i) (.ref j)) env = some (b, env) := by
  simp [evT, opd, look, h1, h2, cmpV, hv]
theorem evT_in {Φ : Phi} {env : SEnv} {i j : Nat} {t u : AV} {b : Bool} (h1 : getv env i = some t) (h2 : getv env j = some u) (hv : inVal false t u = some b) : evT Φ (.cmp .In (.ref i) (.ref j)) env = some (b, env) := by
  simp [evT, opd, look, h1, h2, cmpV, hv]
theorem slc2 (a b : Int) (c d : PyData) : slcV (.d (.tuple [.int a, .int b, c, d])) none (some 2) = some (.d (pr (a, b))) := by
  have h : cutD [.int a, .int b, c, d] none (some 2) = [.int a, .int b] := by
    simp [cutD, HT.sIx]
  simp [slcV, AV.lst?, AV.tup?, h, pr]
theorem perm_ints {G : List PyData} {F : List Int} (h : G.Perm (F.map .int)) : ∃ F' : List Int, G = F'.map .int ∧ F'.Perm F := by
  refine ⟨G.filterMap fun x => match x with
    | .int i => some i
    | _ => none, ?_, ?_⟩
  · have : ∀ x ∈ G, ∃ i, x = PyData.int i := fun x hx => by
      obtain ⟨i, _, rfl⟩ := List.mem_map.mp (h.mem_iff.mp hx)
      exact ⟨i, rfl⟩
    clear h
    induction G with
    | nil => rfl
    | cons x G ih =>
      obtain ⟨i, rfl⟩ := this x List.mem_cons_self
      have := ih fun y hy => this y (List.mem_cons_of_mem _ hy)
      simp [← this]
  · have := h.filterMap fun x => match x with
      | PyData.int i => some i
      | _ => none
    refine this.trans ?_
    rw [List.filterMap_map]
    have : ∀ F : List Int, (List.filterMap ((fun x => match x with
      | PyData.int i => some i
      | _ => none) ∘ PyData.int) F) = F := fun F => by
      induction F with
      | nil => rfl
      | cons x F ih =>
        rw [List.filterMap_cons, ih]
        rfl
    rw [this]
theorem alikes_int (F : List Int) : alikes (F.map .int) = true := by
  unfold alikes
  rw [List.all_eq_true]
  intro x hx
  obtain ⟨i, _, rfl⟩ := List.mem_map.mp hx
  rw [List.all_eq_true]
  intro y hy
  obtain ⟨j, _, rfl⟩ := List.mem_map.mp hy
  simp [PySem.W.alike]
theorem sort_ints {F : List Int} (h : F.length ≤ 1000000) : sortV (F.map .int) = some ((F.map PyData.int).mergeSort (PySem.W.dataLe false id)) := by
  have h1 : (F.map PyData.int).all plainS = true := List.all_eq_true.mpr fun x hx => by
    obtain ⟨i, _, rfl⟩ := List.mem_map.mp hx
    rfl
  have h2 := dk_all (n := 0) (xs := F.map .int) fun x hx => by
    obtain ⟨i, _, rfl⟩ := List.mem_map.mp hx
    exact dk_int i
  have h3 : shallow (F.map .int) = true := by
    unfold shallow
    rw [decide_eq_true_eq]
    omega
  have h4 : fitL (F.map PyData.int).length = true := by
    unfold fitL LIM
    rw [decide_eq_true_eq, List.length_map]
    exact h
  unfold sortV
  rw [alikes_int, h1, h2.1, h3, h4]
  simp
end K22
namespace K22
open PySem L2 Mi

/-! who is kept -/
/-! the comprehension that tells who is kept -/
/-- a call of a def that changes nothing -/
theorem call_v {G : FnS} {ts : List AV} {env : SEnv} {r : AV} (hn : G.n = ts.length) (hio : G.io = []) (h : G.sem (ts.map fun t => .d t.dat) = some (r, [])) : callV G (ts.map .val) env = some (r, env) := by
  have key : ∀ (l : List AV) (k : Nat), prepA [] k (l.map .val) env = some (l.map fun t => .d t.dat, [], env) := by
    intro l
    induction l with
    | nil => intro k; rfl
    | cons x l ih => intro k; simp [prepA, ih (k + 1)]
  simp [callV, hn, hio, key, h, putB]
theorem ok_cust {n : Int} {x : PyData} (h : CuD n x) : eqOk x = true := by
  rcases h with rfl | ⟨a, l, rfl, _⟩
  · decide
  · exact (dk_tuple (n := 0) (xs := [.int a, .int l]) fun x hx => by
      simp only [List.mem_cons, List.mem_nil_iff, or_false] at hx
      rcases hx with rfl | rfl
      · exact dk_int a
      · exact dk_int l).ok (by decide)
/-! the package's -/
end K22
namespace K22
open PySem L2 Mi

/-! clashes -/
theorem allInts_map (l : List Int) : allInts (l.map .int) = some l := by
  induction l with
  | nil => rfl
  | cons x l ih => simp [allInts, ih]
theorem opd_e {Φ : Phi} {a : E} {env e1 : SEnv} {t : AV} (ha : ∀ i, a ≠ .ref i) (h : evE Φ a env = some (t, e1)) : opd a (evE Φ a) env = some (.val t, e1) := by
  unfold opd
  cases a <;> simp [h] at ha ⊢
theorem evI_own {Φ : Phi} {a : E} {env e1 : SEnv} {X : List Int} (h : evE Φ a env = some (.own (intV X), e1)) : evI Φ (.cons a .nil) env = some (X.map .int, e1, none) := by
  simp only [evI, h, Option.bind_eq_bind, Option.bind_some, AV.seq?, leafs_intV]
theorem evT_in_e {Φ : Phi} {env e1 : SEnv} {i : Nat} {b : E} {t u : AV} {c g : Bool} (ha : ∀ i, b ≠ .ref i) (h1 : getv env i = some t) (hb : evE Φ b env = some (u, e1)) (h2 : getv e1 i = some t) (hv : inVal g t u = some c) : evT Φ (.cmp (if g then .NotIn else .In) (.ref i) b) env = some (c, e1) := by
  have := opd_e ha hb
  cases g <;> simp [evT, opd, look, h1, hb, h2, cmpV, hv]
/-- an empty list -/
theorem eq_nil {S : List Int} : cmpV .Eq (.own (intV S)) (.own []) = some S.isEmpty := by
  have e1 : eqOk (.list []) = true := by decide
  have e2 : PyData.eqv (intL S) (.list []) = S.isEmpty := by
    unfold intL
    rw [eqv_nil]
    cases S <;> rfl
  have e3 : AV.dat (.own []) = .list [] := by simp [AV.dat, datL]
  simp [cmpV, dat_intV, ok_intL, e1, e2, e3]
end K22
namespace K22
open PySem L2 Mi

/-! pairs that fit -/
theorem mem_rangeL {lo : Int} {n : Nat} {y : PyData} (h : y ∈ rangeL lo n) : ∃ j : Int, y = .int j ∧ lo ≤ j ∧ j < lo + n := by
  obtain ⟨k, hk, rfl⟩ := List.mem_map.mp h
  have := List.mem_range.mp hk
  exact ⟨lo + k, rfl, by omega, by omega⟩
theorem rangeL_get {lo : Int} {n k : Nat} {y : PyData} (h : (rangeL lo n)[k]? = some y) : y = .int (lo + k) ∧ k < n := by
  unfold rangeL at h
  rw [List.getElem?_map] at h
  by_cases hk : k < n
  · rw [List.getElem?_range hk] at h
    simp at h
    exact ⟨h.symm, hk⟩
  · rw [List.getElem?_eq_none (by simpa using hk)] at h
    cases h
theorem enumL_get {xs : List PyData} {k : Nat} {y : PyData} (h : (enumL xs)[k]? = some y) : ∃ x, xs[k]? = some x ∧ y = .tuple [.int (k : Int), x] := by
  unfold enumL at h
  rw [List.getElem?_map, List.getElem?_zipIdx] at h
  cases hx : xs[k]? with
  | none => rw [hx] at h; cases h
  | some x =>
    rw [hx] at h
    simp at h
    exact ⟨x, rfl, h.symm⟩
theorem okRg_small {i : Int} (h0 : 0 ≤ i) (h1 : i ≤ 1000) : okRg i = true := by
  unfold okRg
  rw [decide_eq_true_eq]
  omega
theorem evI_r1 {Φ : Phi} {a : E} {env e1 : SEnv} {k : Int} (h : evE Φ a env = some (.d (.int k), e1)) (ok : okRg k = true) : evI Φ (.bi .range1 (.cons a .nil)) env = some (rangeL 0 k.toNat, e1, none) := by
  rw [evI, h]
  simp only [Option.bind_eq_bind, Option.bind_some, ok, if_true]
theorem evI_r2 {Φ : Phi} {a b : E} {env e1 e2 : SEnv} {m k : Int} (h : evE Φ a env = some (.d (.int m), e1)) (h2 : evE Φ b e1 = some (.d (.int k), e2)) (ok1 : okRg m = true) (ok : okRg k = true) : evI Φ (.bi .range2 (.cons a (.cons b .nil))) env = some (rangeL m (k - m).toNat, e2, none) := by
  rw [evI, h]
  simp only [Option.bind_eq_bind, Option.bind_some, h2, ok, ok1, Bool.and_self, if_true]
theorem ev_len {Φ : Phi} {env : SEnv} {i : Nat} {t r : AV} (h : getv env i = some t) (hb : biV .len [t] = some r) : evE Φ (.bi .len (.cons (.ref i) .nil)) env = some (r, env) := by
  simp [evE, evL, opd, h, look, hb]
theorem fmap_map {α β γ : Type} (f : α → Option β) (g : β → γ) (l : List α) : (l.filterMap f).map g = l.filterMap fun x => (f x).map g := by
  rw [List.map_filterMap]
/-! the package's doors -/
theorem rangeL_len (lo : Int) (n : Nat) : (rangeL lo n).length = n := by simp [rangeL]
/-- a for whose turns keep one more -/
theorem for_grow {Φ : Phi} {tg : E} {it : E} {b : S} {env e1 : SEnv} {xs : List PyData} {Q : Nat → SEnv → Prop} (hI : evI Φ it env = some (xs, e1, none)) (h0 : Q 0 e1) (ht : ∀ k x e, k < xs.length → Q k e → ∃ e', (do let e' ← asgT tg (.d x) e; exS Φ b e') = some (.nx, e') ∧ Q (k + 1) e') :
    ∃ e', exS Φ (.forr tg it b) env = some (.nx, e') ∧ Q xs.length e' := by
  obtain ⟨e', h1, h2⟩ := for_inv (b := fun x e => do let e' ← asgT tg (.d x) e; exS Φ b e') (fun k e => Q k e) (xs := xs) (k := 0) (env := e1) h0 fun i x hx e he => by
    have hi : i < xs.length := (List.getElem?_eq_some_iff.mp hx).1
    rw [Nat.zero_add] at he
    obtain ⟨e', q1, q2⟩ := ht i x e hi he
    refine ⟨.nx, e', q1, .inl rfl, ?_⟩
    rw [Nat.zero_add]
    exact q2
  rw [Nat.zero_add] at h2
  refine ⟨e', ?_, h2⟩
  rw [exS, hI]
  simp only [heldOk, Option.bind_eq_bind, Option.bind_some, if_true]
  simp only [Option.bind_eq_bind] at h1
  rw [h1]
  rfl
theorem le_int (a b : Int) : PySem.W.dataLe false id (.int a) (.int b) = decide (a ≤ b) := by
  simp [PySem.W.dataLe, PySem.W.sortLe, PySem.W.keyToks, PyProof.Rows.lexLt, PyProof.Rows.itemOrd, PyProof.Rows.itemLt]
  by_cases h : b < a
  · have h' : ¬ a ≤ b := by omega
    simp [h, h']
  · have h' : a ≤ b := by omega
    simp [h, h']
theorem sort_up {F : List Int} (h : F.length ≤ 1000000) (hn : F.Nodup) : ∃ G : List Int, sortV (F.map .int) = some (G.map .int) ∧ G.Perm F ∧ G.Pairwise fun a b => a < b := by
  refine ⟨F.mergeSort fun a b => decide (a ≤ b), ?_, List.mergeSort_perm _ _, ?_⟩
  · rw [sort_ints h, List.map_mergeSort (s := PySem.W.dataLe false id)]
    intro a _ b _
    exact (le_int a b).symm
  · have h1 := List.pairwise_mergeSort (le := fun a b : Int => decide (a ≤ b)) (fun a b c h1 h2 => by simp at h1 h2 ⊢; omega) (fun a b => by simp; omega) F
    have h2 : (F.mergeSort fun a b => decide (a ≤ b)).Nodup := (List.mergeSort_perm F _).nodup_iff.mpr hn
    refine (h1.and h2).imp fun {a b} h => ?_
    have h3 : a ≤ b := of_decide_eq_true h.1
    have h4 : a ≠ b := h.2
    omega
end K22
namespace K22
open PySem L2 Mi

/-! what repr shows -/
def okS (s : Str) : Prop := PyData.strOk s = true
theorem okS_app {a b : Str} (ha : okS a) (hb : okS b) : okS (a ++ b) := by
  unfold okS PyData.strOk at *
  rw [show (a ++ b).cps = a.cps ++ b.cps from rfl, Array.all_append, ha, hb]
  rfl
theorem okS_textFrom : ∀ (ts : List Str) (k : Nat) (acc : Str), okS acc → (∀ t ∈ ts, okS t) → okS (textFrom k acc ts)
  | [], _, acc, ha, _ => ha
  | t :: ts, k, acc, ha, h => by
    refine okS_textFrom ts (k + 1) _ ?_ fun u hu => h u (List.mem_cons_of_mem _ hu)
    refine okS_app (okS_app ha ?_) (h t List.mem_cons_self)
    by_cases hk : k > 0
    · rw [if_pos hk]
      show PyData.strOk _ = true
      decide +kernel
    · rw [if_neg hk]
      show PyData.strOk _ = true
      decide +kernel
theorem okS_list {ts : List Str} (h : ∀ t ∈ ts, okS t) : okS (listText ts) :=
  okS_app (okS_textFrom ts 0 _ (by show PyData.strOk _ = true; decide +kernel) h) (by show PyData.strOk _ = true; decide +kernel)
theorem okS_join {s : Str} (hs : okS s) : ∀ {ts : List Str}, (∀ t ∈ ts, okS t) → okS (Str.join s ts)
  | [], _ => by show PyData.strOk Str.empty = true; decide +kernel
  | [t], h => h t List.mem_cons_self
  | t :: u :: ts, h => okS_app (okS_app (h t List.mem_cons_self) hs) (okS_join hs fun v hv => h v (List.mem_cons_of_mem _ hv))
theorem okS_tuple {ts : List Str} (h : ∀ t ∈ ts, okS t) : okS (tupleText ts) := by
  unfold tupleText
  refine okS_app (okS_app (by show PyData.strOk _ = true; decide +kernel) (okS_join (by show PyData.strOk _ = true; decide +kernel) h)) ?_
  by_cases hk : (ts.length == 1) = true
  · rw [if_pos hk]
    show PyData.strOk _ = true
    decide +kernel
  · rw [if_neg hk]
    show PyData.strOk _ = true
    decide +kernel
theorem okS_int (i : Int) : okS (PyData.shown (.int i)) := by
  show PyData.strOk (((toString i : String) : Str)) = true
  unfold PyData.strOk
  rw [Array.all_eq_true_iff_forall_mem]
  intro c hc
  rw [decide_eq_true_eq]
  rcases Nat.lt_or_ge c 0x110000 with h | h
  · exact h
  · exact absurd (Array.mem_toList_iff.mpr hc) (PyProof.Rows.int_text_free' c ⟨by omega, .inr (by omega)⟩ i)
inductive Sh : PyData → Prop
  | non : Sh .none
  | bl (b : Bool) : Sh (.bool b)
  | int {i : Int} : -999999999999 ≤ i → i ≤ 999999999999 → Sh (.int i)
  | str {s : Str} : okS s → okS (PyData.shown (.str s)) → Sh (.str s)
  | lst {xs : List PyData} : (∀ x ∈ xs, Sh x) → Sh (.list xs)
  | tup {xs : List PyData} : (∀ x ∈ xs, Sh x) → Sh (.tuple xs)
theorem mem_shownAll : ∀ {xs : List PyData} {t : Str}, t ∈ PyData.shownAll xs → ∃ x ∈ xs, t = PyData.shown x
  | [], t, h => by simp [PyData.shownAll] at h
  | x :: xs, t, h => by
    rw [PyData.shownAll] at h
    rcases List.mem_cons.mp h with rfl | h
    · exact ⟨x, List.mem_cons_self, rfl⟩
    · obtain ⟨y, hy, e⟩ := mem_shownAll h
      exact ⟨y, List.mem_cons_of_mem _ hy, e⟩
theorem Sh.text {x : PyData} (h : Sh x) : okS (PyData.shown x) := by
  induction h with
  | non => show PyData.strOk _ = true; decide +kernel
  | bl b => show PyData.strOk _ = true; cases b <;> decide +kernel
  | int _ _ => exact okS_int _
  | str _ h => exact h
  | lst _ ih =>
    rw [PyData.shown]
    exact okS_list fun t ht => by
      obtain ⟨x, hx, rfl⟩ := mem_shownAll ht
      exact ih x hx
  | tup _ ih =>
    rw [PyData.shown]
    exact okS_tuple fun t ht => by
      obtain ⟨x, hx, rfl⟩ := mem_shownAll ht
      exact ih x hx
theorem all_lay {xs : List PyData} (h : ∀ x ∈ xs, x.canLay0 = true) : PyData.canLayAll0 xs = true := by
  induction xs with
  | nil => rfl
  | cons x xs ih => simp [PyData.canLayAll0, h x List.mem_cons_self, ih fun y hy => h y (List.mem_cons_of_mem _ hy)]
theorem all_showable {xs : List PyData} (h : ∀ x ∈ xs, x.showable = true) : PyData.showableAll xs = true := by
  induction xs with
  | nil => rfl
  | cons x xs ih => simp [PyData.showableAll, h x List.mem_cons_self, ih fun y hy => h y (List.mem_cons_of_mem _ hy)]
theorem all_short {xs : List PyData} (h : ∀ x ∈ xs, PyData.intsShort 13 x = true) : PyData.intsShortAll 13 xs = true := by
  induction xs with
  | nil => rfl
  | cons x xs ih => simp [PyData.intsShortAll, h x List.mem_cons_self, ih fun y hy => h y (List.mem_cons_of_mem _ hy)]
theorem Sh.lay {x : PyData} (h : Sh x) : x.canLay0 = true ∧ x.showable = true ∧ PyData.intsShort 13 x = true := by
  induction h with
  | non => exact ⟨rfl, rfl, rfl⟩
  | bl b => exact ⟨rfl, rfl, rfl⟩
  | @int i h1 h2 =>
    refine ⟨rfl, ?_, ?_⟩
    · rw [PyData.showable, decide_eq_true_eq]
      have h3 : i.natAbs < 2 ^ 40 := by omega
      have h4 : i.natAbs.log2 < 40 := by
        by_cases h0 : i.natAbs = 0
        · rw [h0]; decide
        · exact (Nat.log2_lt h0).mpr h3
      omega
    · rw [PyData.intsShort, decide_eq_true_eq]
      exact PyData.shown_int_le2 h1 h2
  | str h1 _ => exact ⟨by rw [PyData.canLay0]; exact h1, by rw [PyData.showable], by rw [PyData.intsShort]⟩
  | lst _ ih => exact ⟨by rw [PyData.canLay0]; exact all_lay fun x hx => (ih x hx).1, by rw [PyData.showable]; exact all_showable fun x hx => (ih x hx).2.1, by rw [PyData.intsShort]; exact all_short fun x hx => (ih x hx).2.2⟩
  | tup _ ih => exact ⟨by rw [PyData.canLay0]; exact all_lay fun x hx => (ih x hx).1, by rw [PyData.showable]; exact all_showable fun x hx => (ih x hx).2.1, by rw [PyData.intsShort]; exact all_short fun x hx => (ih x hx).2.2⟩
theorem bulk_le {b : Nat} : ∀ {xs : List PyData}, (∀ x ∈ xs, PyData.bulk x ≤ b) → PyData.bulkAll xs ≤ xs.length * (b + 1)
  | [], _ => by simp [PyData.bulkAll]
  | x :: xs, h => by
    have h1 := h x List.mem_cons_self
    have h2 := bulk_le fun y hy => h y (List.mem_cons_of_mem _ hy)
    rw [PyData.bulkAll, List.length_cons, Nat.succ_mul]
    omega
/-- data that repr shows -/
structure Rp2 (b d : Nat) (x : PyData) : Prop where
  sh : Sh x
  bk : PyData.bulk x ≤ b
  dp : x.depth ≤ d
theorem Rp2.mono {b d b' d' : Nat} {x : PyData} (h : Rp2 b d x) (hb : b ≤ b') (hd : d ≤ d') : Rp2 b' d' x := ⟨h.sh, Nat.le_trans h.bk hb, Nat.le_trans h.dp hd⟩
theorem depth_all {d : Nat} : ∀ {xs : List PyData}, (∀ x ∈ xs, x.depth ≤ d) → PyData.depthAll xs ≤ d
  | [], _ => by simp [PyData.depthAll]
  | x :: xs, h => by
    have h1 := h x List.mem_cons_self
    have h2 := depth_all fun y hy => h y (List.mem_cons_of_mem _ hy)
    simp only [PyData.depthAll]
    omega
theorem rp_list {b d k : Nat} {xs : List PyData} (h : ∀ x ∈ xs, Rp2 b d x) (hk : xs.length ≤ k) : Rp2 (k * (b + 1)) (d + 1) (.list xs) := by
  refine ⟨.lst fun x hx => (h x hx).sh, ?_, ?_⟩
  · rw [PyData.bulk]
    exact Nat.le_trans (bulk_le fun x hx => (h x hx).bk) (Nat.mul_le_mul_right _ hk)
  · have := depth_all fun x hx => (h x hx).dp
    simp only [PyData.depth]
    omega
theorem rp_tuple {b d k : Nat} {xs : List PyData} (h : ∀ x ∈ xs, Rp2 b d x) (hk : xs.length ≤ k) : Rp2 (k * (b + 1)) (d + 1) (.tuple xs) := by
  refine ⟨.tup fun x hx => (h x hx).sh, ?_, ?_⟩
  · rw [PyData.bulk]
    exact Nat.le_trans (bulk_le fun x hx => (h x hx).bk) (Nat.mul_le_mul_right _ hk)
  · have := depth_all fun x hx => (h x hx).dp
    simp only [PyData.depth]
    omega
theorem rp_int {i : Int} (h1 : -999999999999 ≤ i) (h2 : i ≤ 999999999999) : Rp2 0 0 (.int i) := ⟨.int h1 h2, by simp [PyData.bulk], by simp [PyData.depth]⟩
theorem rp_none : Rp2 0 0 .none := ⟨.non, by simp [PyData.bulk], by simp [PyData.depth]⟩
theorem rp_bool (b : Bool) : Rp2 0 0 (.bool b) := ⟨.bl b, by simp [PyData.bulk], by simp [PyData.depth]⟩
theorem rp_str {s : Str} (h1 : okS s) (h2 : okS (PyData.shown (.str s))) (h3 : s.cps.size ≤ 10) : Rp2 10 0 (.str s) := ⟨.str h1 h2, by rw [PyData.bulk]; exact h3, by simp [PyData.depth]⟩
theorem repr_ok {b d : Nat} {x : PyData} (h : Rp2 b d x) (hb : b ≤ 60000) (hd : d ≤ 60) (hs : isSeqD x = true) : reprV x = some (.str (PyData.shown x)) ∧ eqOk (.str (PyData.shown x)) = true := by
  obtain ⟨h1, h2, h3⟩ := h.sh.lay
  have h4 := PyData.shown_le_bulk 13 (by decide) x (PyData.leavesShort_of_canLay0 13 x h1 h3)
  have h5 : fitL (PyData.shown x).length = true := by
    unfold fitL LIM
    rw [decide_eq_true_eq]
    have := h.bk
    have e : (13 + 2) * PyData.bulk x ≤ 15 * 60000 := Nat.mul_le_mul (Nat.le_refl _) (by omega)
    omega
  have h6 : okRepr x = true := by
    unfold okRepr
    rw [hs, h1, h2, PyData.hasDict_of_canLay x h1, decide_eq_true (show x.depth ≤ 60 from Nat.le_trans h.dp hd), h5]
    rfl
  refine ⟨by unfold reprV; rw [if_pos h6], ?_⟩
  exact (dk_str h.sh.text).ok (by decide)
theorem eqv_str (s : Str) : PyData.eqv (.str s) (.str s) = true := by simp [PyData.eqv]
/-- two texts that are the same -/
theorem ne_same {s : Str} (h : eqOk (.str s) = true) : cmpV .NotEq (.d (.str s)) (.d (.str s)) = some false := by
  simp [cmpV, AV.dat, h, eqv_str]
theorem eq_same {s : Str} (h : eqOk (.str s) = true) : cmpV .Eq (.d (.str s)) (.d (.str s)) = some true := by
  simp [cmpV, AV.dat, h, eqv_str]
/-! this law's data -/
theorem rp_word {s : Str} (h : s = "net" ∨ s = "breaker" ∨ s = "link" ∨ s = "feed" ∨ s = "maybe") : Rp2 10 0 (.str s) := by
  rcases h with rfl | rfl | rfl | rfl | rfl <;> exact rp_str (by show PyData.strOk _ = true; decide +kernel) (by show PyData.strOk _ = true; decide +kernel) (by decide +kernel)
theorem rp_sw {n : Int} (hn : n ≤ 60) {x : PyData} (h : SwD n x) : Rp2 50 1 x := by
  rcases h with rfl | ⟨a, b, k, d, rfl, h1, h2, h3, h4, _, hk, hd⟩
  · exact (rp_tuple (xs := []) (b := 0) (d := 0) (k := 0) (fun x hx => (nomatch hx)) (Nat.le_refl _)).mono (by omega) (by omega)
  · refine (rp_tuple (b := 10) (d := 0) (k := 4) (fun x hx => ?_) (by simp)).mono (by omega) (by omega)
    simp only [List.mem_cons, List.not_mem_nil, or_false] at hx
    rcases hx with rfl | rfl | rfl | rfl
    · exact (rp_int (by omega) (by omega)).mono (by omega) (by omega)
    · exact (rp_int (by omega) (by omega)).mono (by omega) (by omega)
    · exact rp_word (by rcases hk with rfl | rfl <;> simp)
    · rcases hd with rfl | ⟨z, rfl, _, _⟩
      · exact rp_none.mono (by omega) (by omega)
      · exact (rp_int (by omega) (by omega)).mono (by omega) (by omega)
theorem rp_so {n : Int} (hn : n ≤ 60) {x : PyData} (h : SoD n x) : Rp2 50 1 x := by
  rcases h with rfl | ⟨a, p, s, rfl, h1, h2, h3, h4, hk⟩
  · exact (rp_tuple (xs := []) (b := 0) (d := 0) (k := 0) (fun x hx => (nomatch hx)) (Nat.le_refl _)).mono (by omega) (by omega)
  · refine (rp_tuple (b := 10) (d := 0) (k := 3) (fun x hx => ?_) (by simp)).mono (by omega) (by omega)
    simp only [List.mem_cons, List.not_mem_nil, or_false] at hx
    rcases hx with rfl | rfl | rfl
    · exact (rp_int (by omega) (by omega)).mono (by omega) (by omega)
    · exact (rp_int (by omega) (by omega)).mono (by omega) (by omega)
    · exact rp_word (by rcases hk with rfl | rfl <;> simp)
theorem rp_cu {n : Int} (hn : n ≤ 60) {x : PyData} (h : CuD n x) : Rp2 50 1 x := by
  rcases h with rfl | ⟨a, l, rfl, h1, h2, h3, h4⟩
  · exact (rp_tuple (xs := []) (b := 0) (d := 0) (k := 0) (fun x hx => (nomatch hx)) (Nat.le_refl _)).mono (by omega) (by omega)
  · refine (rp_tuple (b := 10) (d := 0) (k := 2) (fun x hx => ?_) (by simp)).mono (by omega) (by omega)
    simp only [List.mem_cons, List.not_mem_nil, or_false] at hx
    rcases hx with rfl | rfl
    · exact (rp_int (by omega) (by omega)).mono (by omega) (by omega)
    · exact (rp_int (by omega) (by omega)).mono (by omega) (by omega)
theorem rp_net {n : Int} {sw so cu : List PyData} (h : NetD n sw so cu) : Rp2 23005 3 (netV n sw so cu) := by
  have n1 := h.n1
  have n2 := h.n2
  refine (rp_tuple (b := 4600) (d := 2) (k := 5) (fun x hx => ?_) (by simp)).mono (by omega) (by omega)
  simp only [List.mem_cons, List.not_mem_nil, or_false] at hx
  rcases hx with rfl | rfl | rfl | rfl | rfl
  · exact (rp_word (.inl rfl)).mono (by omega) (by omega)
  · exact (rp_int (by omega) (by omega)).mono (by omega) (by omega)
  · exact (rp_tuple (fun x hx => rp_sw n2 (h.w1 x hx)) h.s1).mono (by omega) (by omega)
  · exact (rp_tuple (fun x hx => rp_so n2 (h.w2 x hx)) h.s2).mono (by omega) (by omega)
  · exact (rp_tuple (fun x hx => rp_cu n2 (h.w3 x hx)) h.s3).mono (by omega) (by omega)
theorem rp_intL {S : List Int} {k : Nat} (hk : S.length ≤ k) (h : ∀ x ∈ S, 0 ≤ x ∧ x < 1000) : Rp2 k 1 (intL S) := by
  refine (rp_list (b := 0) (d := 0) (k := k) (fun x hx => ?_) (by rw [List.length_map]; exact hk)).mono (by omega) (by omega)
  obtain ⟨m, hm, rfl⟩ := List.mem_map.mp hx
  have := h m hm
  exact rp_int (by omega) (by omega)
end K22
namespace K22
open PySem L2 Mi

/-! the parts of the law itself -/
theorem perm10 (a b : Opd) : permO [1, 0] [a, b] = some [b, a] := rfl
theorem frz_d (x : PyData) : frzO (.val (.d x)) = .val (.d x) := by simp [frzO, AV.dat]
/-- a for whose turns leave all as it was -/
theorem for_same {Φ : Phi} {tg it : E} {b : S} {env e1 : SEnv} {xs : List PyData} {rs : Option (Nat × AV)} (hI : evI Φ it env = some (xs, e1, rs)) (hh : heldOk (tgNames tg ++ b.names) rs = true) (ht : ∀ x ∈ xs, (do let e' ← asgT tg (.d x) e1; exS Φ b e') = some (.nx, e1)) : exS Φ (.forr tg it b) env = some (.nx, putBack rs e1) := by
  have key : ∀ xs : List PyData, (∀ x ∈ xs, (do let e' ← asgT tg (.d x) e1; exS Φ b e') = some (.nx, e1)) → forI (fun x e => do let e' ← asgT tg (.d x) e; exS Φ b e') xs e1 = some (.nx, e1) := by
    intro xs
    induction xs with
    | nil => intro _; rfl
    | cons x xs ih =>
      intro h
      have h1 := h x List.mem_cons_self
      have h2 := ih fun y hy => h y (List.mem_cons_of_mem _ hy)
      rw [forI]
      simp only [Option.bind_eq_bind] at h1 h2 ⊢
      rw [h1]
      simp only [Option.bind_some]
      exact h2
  have hk := key xs ht
  simp only [Option.bind_eq_bind] at hk
  rw [exS, hI]
  simp only [hh, Option.bind_eq_bind, Option.bind_some, if_true, hk]
/-- a comprehension whose turns all make one -/
theorem lc_all {f : PyData → SEnv → Option (Option AV × SEnv)} (I : SEnv → Prop) (P : AV → Prop) : ∀ {xs : List PyData} {env : SEnv}, I env → (∀ x ∈ xs, ∀ e, I e → ∃ t e', f x e = some (some t, e') ∧ I e' ∧ P t) → ∃ ts e', lcLoop f xs env = some (ts, e') ∧ I e' ∧ ts.length = xs.length ∧ ∀ t ∈ ts, P t
  | [], env, h, _ => ⟨[], env, rfl, h, rfl, fun _ m => nomatch m⟩
  | x :: xs, env, h, hs => by
    obtain ⟨o, e1, h1, h2, h3⟩ := hs x List.mem_cons_self env h
    obtain ⟨ts, e2, h4, h5, h6, h7⟩ := lc_all I P (xs := xs) h2 fun y m => hs y (List.mem_cons_of_mem _ m)
    unfold lcLoop
    simp only [h1, h4, Option.bind_eq_bind, Option.bind_some]
    refine ⟨o :: ts, e2, rfl, h5, by simp only [List.length_cons]; omega, fun u m => ?_⟩
    rcases List.mem_cons.mp m with rfl | m
    · exact h3
    · exact h7 u m
theorem ev_lcall {Φ : Phi} {own : List Nat} {tg it cond elt : E} {env e1 : SEnv} {xs : List PyData} (I : SEnv → Prop) (P : AV → Prop) (hI : evI Φ it env = some (xs, e1, none)) (hfit : xs.length ≤ 1000000) (h0 : I (wipeE e1 own)) (ht : ∀ x ∈ xs, ∀ e, I e → ∃ t e', lcTurn Φ own tg cond elt x e = some (some t, e') ∧ I e' ∧ P t) :
    ∃ ts e2, evE Φ (.lc own tg it cond elt) env = some (.own ts, putSlots (wipeE e2 own) e1 own) ∧ I e2 ∧ ts.length = xs.length ∧ ∀ t ∈ ts, P t := by
  obtain ⟨ts, e2, h1, h2, h3, h4⟩ := lc_all (f := lcTurn Φ own tg cond elt) I P h0 ht
  refine ⟨ts, e2, ?_, h2, h3, h4⟩
  have h2 : fitL xs.length = true := by
    unfold fitL LIM
    exact decide_eq_true hfit
  unfold evE
  simp only [hI, h2, Option.bind_eq_bind, Option.bind_some, if_true]
  show (lcLoop (lcTurn Φ own tg cond elt) xs (wipeE e1 own)).bind _ = _
  rw [h1]
  simp only [Option.bind_some, putBack]
theorem datL2 (a b : AV) : datL [a, b] = [a.dat, b.dat] := rfl
end K22
namespace K22
open PySem L2 Mi

theorem link_pre : ∀ (ds : List FnD) (Φ : Phi) (k : Nat), k < Φ.length → (linkF ds Φ)[k]? = Φ[k]?
  | [], Φ, k, _ => rfl
  | d :: ds, Φ, k, h => by
    rw [linkF, link_pre ds _ k (by rw [List.length_append, List.length_singleton]; omega), List.getElem?_append_left h]
theorem link_at : ∀ (ds : List FnD) (Φ : Phi) (i : Nat) (d : FnD), ds[i]? = some d → ∃ Φi, (linkF ds Φ)[Φ.length + i]? = some (semOf Φi d) ∧ ∀ k, k < Φ.length + i → Φi[k]? = (linkF ds Φ)[k]?
  | [], _, _, _, h => by cases h
  | d :: ds, Φ, 0, e, h => by
    have he : d = e := by simpa using h
    subst he
    refine ⟨Φ, ?_, fun k hk => ?_⟩
    · rw [linkF, link_pre ds _ _ (by rw [List.length_append, List.length_singleton]; omega), Nat.add_zero, List.getElem?_append_right (Nat.le_refl _), Nat.sub_self]
      rfl
    · rw [link_pre (d :: ds) Φ k (by omega)]
  | d :: ds, Φ, i + 1, e, h => by
    obtain ⟨Φi, h1, h2⟩ := link_at ds (Φ ++ [semOf Φ d]) i e (by simpa using h)
    rw [List.length_append, List.length_singleton] at h1 h2
    refine ⟨Φi, ?_, fun k hk => ?_⟩
    · rw [linkF, ← h1]
      congr 1
      omega
    · rw [linkF, h2 k (by omega)]
abbrev Psi : Phi := linkF (rows.map fun t : Row => t.d) []
theorem at_ (i : Nat) {d : FnD} (h : (rows.map fun t : Row => t.d)[i]? = some d) : ∃ Φ, Psi[i]? = some (semOf Φ d) ∧ ∀ k, k < i → Φ[k]? = Psi[k]? := by
  obtain ⟨Φ, h1, h2⟩ := link_at _ [] i d h
  rw [List.length_nil, Nat.zero_add] at h1 h2
  exact ⟨Φ, h1, h2⟩
theorem have_ {i : Nat} {d : FnD} (P : FnS → Prop) (h : (rows.map fun t : Row => t.d)[i]? = some d) (hp : ∀ Φ : Phi, (∀ k, k < i → Φ[k]? = Psi[k]?) → P (semOf Φ d)) : ∃ G, Psi[i]? = some G ∧ P G := by
  obtain ⟨Φ, h1, h2⟩ := at_ i h
  exact ⟨_, h1, hp Φ h2⟩
end K22
namespace K22
open PySem L2 Mi

/-! the package's lists of neighbours -/
def nest (N : List (List (Int × Int))) : AV := .own (N.map fun l => .own (l.map fun p => .d (pr p)))
def nearV (N : List (List (Int × Int))) : PyData := .list (N.map fun l => .list (l.map pr))
theorem datL_map {α : Type} (f : α → AV) (g : α → PyData) (h : ∀ a, (f a).dat = g a) : ∀ l : List α, datL (l.map f) = l.map g
  | [] => rfl
  | a :: l => by simp [datL, h a, datL_map f g h l]
theorem dat_nest (N : List (List (Int × Int))) : AV.dat (nest N) = nearV N := by
  unfold nest nearV
  rw [AV.dat, datL_map _ (fun l => .list (l.map pr)) fun l => by rw [AV.dat, datL_map _ pr fun p => by rw [AV.dat]]]
def nb (N : List (List (Int × Int))) (x : Int) : List (Int × Int) := (N[x.toNat]?).getD []
def addN (N : List (List (Int × Int))) (a : Int) (p : Int × Int) : List (List (Int × Int)) := N.set a.toNat (nb N a ++ [p])
theorem addN_len (N : List (List (Int × Int))) (a : Int) (p : Int × Int) : (addN N a p).length = N.length := by simp [addN]
theorem nb_addN {N : List (List (Int × Int))} {a x : Int} {p : Int × Int} (ha : 0 ≤ a) (hl : a.toNat < N.length) (hx : 0 ≤ x) : nb (addN N a p) x = if x = a then nb N a ++ [p] else nb N x := by
  by_cases h : x = a
  · subst h
    rw [if_pos rfl]
    show ((N.set x.toNat (nb N x ++ [p]))[x.toNat]?).getD [] = _
    rw [List.getElem?_set_self hl]
    rfl
  · rw [if_neg h]
    show ((N.set a.toNat (nb N a ++ [p]))[x.toNat]?).getD [] = _
    rw [List.getElem?_set_ne (by omega)]
    rfl
structure NI (n : Int) (N : List (List (Int × Int))) (P : List (Int × Int × Int)) : Prop where
  len : N.length = n.toNat
  from_ : ∀ x, 0 ≤ x → ∀ q ∈ nb N x, ∃ u ∈ P, u.1 = q.1 ∧ ((u.2.1 = x ∧ u.2.2 = q.2) ∨ (u.2.2 = x ∧ u.2.1 = q.2))
  to_ : ∀ u ∈ P, (u.1, u.2.2) ∈ nb N u.2.1 ∧ (u.1, u.2.1) ∈ nb N u.2.2
  small : ∀ x, 0 ≤ x → (nb N x).length ≤ 2 * P.length
theorem NI.step {n : Int} {N : List (List (Int × Int))} {P : List (Int × Int × Int)} (h : NI n N P) {s a b : Int} (ha : 0 ≤ a ∧ a < n) (hb : 0 ≤ b ∧ b < n) : NI n (addN (addN N a (s, b)) b (s, a)) (P ++ [(s, a, b)]) := by
  have hl := h.len
  have l1 : a.toNat < N.length := by omega
  have l2 : b.toNat < (addN N a (s, b)).length := by rw [addN_len]; omega
  have e : ∀ x, 0 ≤ x → nb (addN (addN N a (s, b)) b (s, a)) x = (nb N x ++ if x = a then [(s, b)] else []) ++ if x = b then [(s, a)] else [] := fun x hx => by
    rw [nb_addN hb.1 l2 hx, nb_addN ha.1 l1 hb.1, nb_addN ha.1 l1 hx]
    by_cases h1 : x = a <;> by_cases h2 : x = b
    · subst h1; subst h2; simp
    · subst h1; simp [h2]
    · subst h2; simp [h1]
    · simp [h1, h2]
  refine ⟨by rw [addN_len, addN_len, hl], fun x hx q hq => ?_, fun u hu => ?_, fun x hx => ?_⟩
  · rw [e x hx] at hq
    rcases List.mem_append.mp hq with hq | hq
    · rcases List.mem_append.mp hq with hq | hq
      · obtain ⟨u, hu, hh⟩ := h.from_ x hx q hq
        exact ⟨u, List.mem_append_left _ hu, hh⟩
      · by_cases h1 : x = a
        · rw [if_pos h1] at hq
          rw [List.mem_singleton.mp hq]
          exact ⟨(s, a, b), List.mem_append_right _ (List.mem_singleton.mpr rfl), rfl, .inl ⟨h1.symm, rfl⟩⟩
        · rw [if_neg h1] at hq
          cases hq
    · by_cases h1 : x = b
      · rw [if_pos h1] at hq
        rw [List.mem_singleton.mp hq]
        exact ⟨(s, a, b), List.mem_append_right _ (List.mem_singleton.mpr rfl), rfl, .inr ⟨h1.symm, rfl⟩⟩
      · rw [if_neg h1] at hq
        cases hq
  · have grow : ∀ x, 0 ≤ x → ∀ q ∈ nb N x, q ∈ nb (addN (addN N a (s, b)) b (s, a)) x := fun x hx q hq => by
      rw [e x hx]
      exact List.mem_append_left _ (List.mem_append_left _ hq)
    rcases List.mem_append.mp hu with hu | hu
    · obtain ⟨h1, h2⟩ := h.to_ u hu
      have grow2 : ∀ x q, q ∈ nb N x → q ∈ nb (addN (addN N a (s, b)) b (s, a)) x := fun x q hq => by
        rcases Int.lt_or_le x 0 with p1 | p1
        · have z : nb N x = nb N 0 := by unfold nb; rw [show x.toNat = (0 : Int).toNat by omega]
          have z2 : nb (addN (addN N a (s, b)) b (s, a)) x = nb (addN (addN N a (s, b)) b (s, a)) 0 := by unfold nb; rw [show x.toNat = (0 : Int).toNat by omega]
          rw [z] at hq
          rw [z2]
          exact grow _ (Int.le_refl 0) _ hq
        · exact grow x p1 q hq
      exact ⟨grow2 _ _ h1, grow2 _ _ h2⟩
    · rw [List.mem_singleton.mp hu]
      refine ⟨?_, ?_⟩
      · show (s, b) ∈ nb _ a
        rw [e a ha.1]
        simp
      · show (s, a) ∈ nb _ b
        rw [e b hb.1]
        simp
  · rw [e x hx]
    have := h.small x hx
    simp only [List.length_append, List.length_singleton]
    have z1 : (if x = a then [(s, b)] else []).length ≤ 1 := by by_cases h1 : x = a <;> simp [h1]
    have z2 : (if x = b then [(s, a)] else []).length ≤ 1 := by by_cases h1 : x = b <;> simp [h1]
    omega
theorem NI.start {n : Int} : NI n (List.replicate n.toNat []) [] := by
  have e : ∀ x, nb (List.replicate n.toNat []) x = [] := fun x => by
    unfold nb
    rw [List.getElem?_replicate]
    by_cases h : x.toNat < n.toNat <;> simp [h]
  exact ⟨by simp, fun x _ q hq => by rw [e] at hq; exact (nomatch hq), fun u hu => (nomatch hu), fun x _ => by rw [e]; simp⟩
theorem nest_get {N : List (List (Int × Int))} {a : Int} (hl : a.toNat < N.length) : (N.map fun l => AV.own (l.map fun p => .d (pr p)))[a.toNat]? = some (.own ((nb N a).map fun p => .d (pr p))) := by
  rw [List.getElem?_map]
  unfold nb
  rw [List.getElem?_eq_getElem hl]
  rfl
theorem nest_set {N : List (List (Int × Int))} {a : Int} {p : Int × Int} : AV.own ((N.map fun l => AV.own (l.map fun p => .d (pr p))).set a.toNat (.own (((nb N a).map fun p => .d (pr p)) ++ [.d (pr p)]))) = nest (addN N a p) := by
  unfold nest addN
  rw [List.map_set]
  simp
def NB : S := (.seq (.asg (.tup (.cons (.ref 5) (.cons (.ref 6) .nil))) (.frz (.slc (.ix (.ix (.ref 0) (.lit (.int 2))) (.ref 3)) .nil (.cons (.lit (.int 2)) .nil)))) (.seq (.app1 2 (.var 5) (.tup (.cons (.var 3) (.cons (.var 6) .nil)))) (.seq (.app1 2 (.var 6) (.tup (.cons (.var 3) (.cons (.var 5) .nil)))) (.seq (.fgt [3, 5, 6]) .skip))))
theorem near_app {Φ : Phi} {v u : AV} {N : List (List (Int × Int))} {s a b : Int} {i j : Nat} {e : SEnv} (hi : getv e i = some (.d (.int a))) (hj : getv e j = some (.d (.int b))) (h3 : getv e 3 = some (.d (.int s))) (h2 : getv e 2 = some (nest N)) (i2 : i ≠ 2) (j2 : j ≠ 2) (ha : 0 ≤ a ∧ a < (N.length : Int)) (hs : N.length ≤ 60) (hq : (nb N a).length ≤ 1000) :
    exS Φ (.app1 2 (.var i) (.tup (.cons (.var 3) (.cons (.var j) .nil)))) e = some (.nx, e.set 2 (some (nest (addN N a (s, b))))) := by
  have e1 : (decide (-(2 ^ 62) ≤ a ∧ a < 2 ^ 62)) = true := by
    rw [decide_eq_true_eq]
    omega
  have e2 : ixN (N.map fun l => AV.own (l.map fun p => .d (pr p))).length a = some a.toNat := by
    unfold ixN
    rw [List.length_map, if_pos ha.1, if_pos ha.2]
  have e3 := nest_get (N := N) (a := a) (by omega)
  have e4 : fitL (((nb N a).map fun p => AV.d (pr p)).length + 1) = true := by
    unfold fitL LIM
    rw [decide_eq_true_eq, List.length_map]
    omega
  have v1 := ev_var (Φ := Φ) (env := e.set 2 none) (i := 3) (x := .int s) (by rw [getv_set_ne (by decide)]; exact h3)
  have v2 := ev_var (Φ := Φ) (env := e.set 2 none) (i := j) (x := .int b) (by rw [getv_set_ne (Ne.symm j2)]; exact hj)
  have e5 : evE Φ (.tup (.cons (.var 3) (.cons (.var j) .nil))) (e.set 2 none) = some (.d (pr (s, b)), e.set 2 none) := by
    rw [evE, evA, v1]
    simp only [Option.bind_eq_bind, Option.bind_some]
    rw [evA, v2]
    simp only [Option.bind_eq_bind, Option.bind_some]
    rw [evA]
    simp [fitL, LIM, mkTup, leafs, pr]
  rw [exS, h2, ev_var hi]
  simp only [Option.bind_eq_bind, Option.bind_some, h2]
  rw [show nest N = .own (N.map fun l => .own (l.map fun p => .d (pr p))) from rfl]
  simp only [e1, e2, e3, e4, e5, if_true, Option.bind_some, nest_set, List.set_set]
def NE (v u : AV) (N : List (List (Int × Int))) : SEnv := [some v, some u, some (nest N), none, none, none, none]
theorem near_turn {Φ : Phi} {n : Int} {sw so cu : List PyData} {U : List (Int × Int × Int)} (hU : UD n sw U) (hn : n ≤ 60) {w : AV} {N : List (List (Int × Int))} {P : List (Int × Int × Int)} (hN : NI n N P) (hP : P.length ≤ 90) {u : Int × Int × Int} (hu : u ∈ U) :
    (do let e' ← asgT (.ref 3) (.d (.int u.1)) (NE (.d (netV n sw so cu)) w N); exS Φ NB e') = some (.nx, NE (.d (netV n sw so cu)) w (addN (addN N u.2.1 (u.1, u.2.2)) u.2.2 (u.1, u.2.1))) := by
  obtain ⟨k, d, e⟩ := hU.at_ u hu
  have hin := hU.in_ u hu
  have e1 : ixV (.d (.tuple sw)) (.d (.int u.1)) = some (.d (.tuple [.int u.2.1, .int u.2.2, .str k, d])) := by simp [ixV, e]
  have e2 := slc2 u.2.1 u.2.2 (.str k) d
  have hl := hN.len
  have a0 : asgT (.ref 3) (.d (.int u.1)) (NE (.d (netV n sw so cu)) w N) = some [some (.d (netV n sw so cu)), some w, some (nest N), some (.d (.int u.1)), none, none, none] := by simp [asgT, NE]
  rw [a0]
  simp only [Option.bind_eq_bind, Option.bind_some]
  unfold NB
  refine (seq_nx (e1 := [some (.d (netV n sw so cu)), some w, some (nest N), some (.d (.int u.1)), none, some (.d (.int u.2.1)), some (.d (.int u.2.2))]) ?_).trans ?_
  · simp [exS, evE, evP, opd, look, getv, net2, e1, e2, AV.dat, asgT, asgT.asgTs, pr]
  have s1 := hN.small u.2.1 hin.1.1
  refine (seq_nx (near_app (v := w) (u := w) (N := N) (s := u.1) (a := u.2.1) (b := u.2.2) rfl rfl rfl rfl (by decide) (by decide) (by omega) (by omega) (by omega))).trans ?_
  have s2 : (nb (addN N u.2.1 (u.1, u.2.2)) u.2.2).length ≤ 1000 := by
    rw [nb_addN hin.1.1 (by omega) hin.2.1]
    have := hN.small u.2.2 hin.2.1
    by_cases h : u.2.2 = u.2.1
    · rw [if_pos h, List.length_append, List.length_singleton]
      omega
    · rw [if_neg h]
      omega
  refine (seq_nx (near_app (v := w) (u := w) (N := addN N u.2.1 (u.1, u.2.2)) (s := u.1) (a := u.2.2) (b := u.2.1) rfl rfl rfl rfl (by decide) (by decide) (by rw [addN_len]; omega) (by rw [addN_len]; omega) s2)).trans ?_
  simp [exS, wipeE, NE]
theorem near_for {Φ : Phi} {n : Int} {sw so cu : List PyData} {U : List (Int × Int × Int)} (hU : UD n sw U) (hn : n ≤ 60) {w : AV} : ∀ (Q P : List (Int × Int × Int)) (N : List (List (Int × Int))), U = P ++ Q → NI n N P →
    ∃ N', forI (fun y e => do let e' ← asgT (.ref 3) (.d y) e; exS Φ NB e') ((places Q).map .int) (NE (.d (netV n sw so cu)) w N) = some (.nx, NE (.d (netV n sw so cu)) w N') ∧ NI n N' U
  | [], P, N, hq, hN => ⟨N, rfl, by rw [hq, List.append_nil]; exact hN⟩
  | u :: Q, P, N, hq, hN => by
    have hu : u ∈ U := by rw [hq]; exact List.mem_append_right _ List.mem_cons_self
    have hP : P.length ≤ 90 := by
      have := hU.len
      rw [hq, List.length_append] at this
      omega
    have hin := hU.in_ u hu
    have ht := near_turn (Φ := Φ) (so := so) (cu := cu) hU hn (w := w) hN hP hu
    obtain ⟨N', h1, h2⟩ := near_for (Φ := Φ) (so := so) (cu := cu) hU hn (w := w) Q (P ++ [u]) _ (by rw [hq, List.append_assoc]; rfl) (hN.step (s := u.1) hin.1 hin.2)
    refine ⟨N', ?_, h2⟩
    rw [show (places (u :: Q)).map PyData.int = .int u.1 :: (places Q).map .int from rfl, forI]
    simp only [ht, Option.bind_eq_bind, Option.bind_some]
    simp only [Option.bind_eq_bind] at h1
    exact h1
end K22
namespace K22
open PySem L2 Mi

/-! lists of whole numbers as values -/
/-! the net's switches and feeds -/
/-- bars of the feeds -/
def fdOf (x : PyData) : Option Int := match x with
  | .tuple [.int a, _, .str s] => if PyData.eqv (.str s) (.str "feed") then some a else none
  | _ => none
def feeds (so : List PyData) : List Int := so.filterMap fdOf
theorem feeds_len {n : Int} {sw so cu : List PyData} (h : NetD n sw so cu) : (feeds so).length ≤ 12 := Nat.le_trans (List.length_filterMap_le _ _) h.s2
theorem feeds_in {n : Int} {sw so cu : List PyData} (h : NetD n sw so cu) : ∀ b ∈ feeds so, 0 ≤ b ∧ b < n := fun b hb => by
  obtain ⟨x, hx, he⟩ := List.mem_filterMap.mp hb
  rcases h.w2 x hx with rfl | ⟨a, p, s, rfl, h1, h2, _⟩
  · simp [fdOf] at he
  · simp [fdOf] at he
    exact he.2 ▸ ⟨h1, h2⟩
theorem ok_src {n : Int} {x : PyData} (h : SoD n x) : eqOk x = true := by
  rcases h with rfl | ⟨a, p, s, rfl, _, _, _, _, h5⟩
  · decide
  · have sok : PyData.strOk s = true := by rcases h5 with rfl | rfl <;> decide +kernel
    exact (dk_tuple (n := 0) (xs := [.int a, .int p, .str s]) fun x hx => by
      simp only [List.mem_cons, List.mem_nil_iff, or_false] at hx
      rcases hx with rfl | rfl | rfl
      · exact dk_int a
      · exact dk_int p
      · exact dk_str sok).ok (by decide)
def IsFeeds (G : FnS) : Prop := G.n = 1 ∧ G.io = [] ∧ ∀ (n : Int) (sw so cu : List PyData), NetD n sw so cu → G.sem [.d (netV n sw so cu)] = some (.own (intV (feeds so)), [])
theorem feeds_ok (Φ : Phi) : IsFeeds (semOf Φ d5) := by
  refine ⟨rfl, rfl, fun n sw so cu hN => ?_⟩
  let e0 : SEnv := [some (.d (netV n sw so cu)), none]
  refine run_rt (e := e0) rfl ?_ rfl
  show exS Φ b5 e0 = _
  unfold b5
  refine seq_rt ?_
  rw [exS]
  have hI : evI Φ (.cons (.ix (.ref 0) (.lit (.int 3))) .nil) e0 = some (so, e0, none) := by
    simp [evI, evE, opd, look, getv, e0, net3, AV.seq?]
  have hl := hN.s2
  rw [ev_lcmap (fun x => (fdOf x).map fun i => .d (.int i)) hI (by omega) rfl fun x hx => ?_]
  · simp only [Option.bind_eq_bind, Option.bind_some, intV, feeds, List.map_filterMap]
  · have e2 : eqOk (.tuple []) = true := by decide
    have e1 := ok_src (hN.w2 x hx)
    have e6 : eqOk (.str "feed") = true := by decide +kernel
    rcases hN.w2 x hx with rfl | ⟨a, p, s, rfl, _, _, _, _, h5⟩
    · simp [lcTurn, asgT, e0, evC, evT, evE, evA, opd, look, getv, cmpV, mkTup, leafs, fitL, LIM, AV.dat, e2, PyData.eqv, PyData.eqvAll, wipeE, fdOf]
    · have e3 : eqOk (.str s) = true := by rcases h5 with rfl | rfl <;> decide +kernel
      have e7 : PyData.eqv (.tuple [.int a, .int p, .str s]) (.tuple []) = false := by simp [PyData.eqv, PyData.eqvAll]
      cases he : PyData.eqv (.str s) (.str "feed") <;> simp [lcTurn, asgT, e0, evC, evT, evE, evA, opd, look, getv, cmpV, mkTup, leafs, fitL, LIM, AV.dat, e1, e2, e3, e6, e7, he, ixV, atI, ixN, wipeE, fdOf]
end K22
namespace K22
open PySem L2 Mi

/-! the law's search -/
def gT (sw : List PyData) (x : Int) (y : PyData) : Option AV := match y with
  | .int t => match atI sw t with
    | some (.tuple (.int a :: .int b :: _)) => if a = x ∨ b = x then some (.d (pr (a, b))) else none
    | _ => none
  | _ => none
theorem gT_map {sw : List PyData} {x : Int} : ∀ {U : List (Int × Int × Int)}, (∀ u ∈ U, ∃ k d, atI sw u.1 = some (.tuple [.int u.2.1, .int u.2.2, .str k, d])) → ((places U).map PyData.int).filterMap (gT sw x) = ((touch x (links U)).map pr).map .d
  | [], _ => rfl
  | u :: U, h => by
    have ih := gT_map (x := x) fun v hv => h v (List.mem_cons_of_mem _ hv)
    obtain ⟨k, d, e⟩ := h u List.mem_cons_self
    have e1 : places (u :: U) = u.1 :: places U := rfl
    have e2 : links (u :: U) = u.2 :: links U := rfl
    rw [e1, e2, List.map_cons, List.filterMap_cons, ih]
    by_cases hx : u.2.1 = x ∨ u.2.2 = x
    · simp [gT, e, hx, touch]
    · simp [gT, e, hx, touch]
def LE (v u b o : AV) (F S : List Int) : SEnv := [some v, some u, some b, some o, some (.own (intV F)), some (.own (intV S)), none, none, none, none, none]
def LB (v u b o : AV) (F S : List Int) (x : Int) : SEnv := [some v, some u, some b, some o, some (.own (intV F)), some (.own (intV S)), some (.d (.int x)), none, none, none, none]
def lcT : E := .lc [9] (.ref 9) (.cons (.var 1) .nil) (.cons (.cmp .In (.ref 6) (.slc (.ix (.ix (.ref 0) (.lit (.int 2))) (.ref 9)) .nil (.cons (.lit (.int 2)) .nil))) .nil) (.frz (.slc (.ix (.ix (.ref 0) (.lit (.int 2))) (.ref 9)) .nil (.cons (.lit (.int 2)) .nil)))
theorem ev_lcT {Φ : Phi} {n : Int} {sw so cu : List PyData} {U : List (Int × Int × Int)} (hU : UD n sw U) {b o : AV} {F S : List Int} {x : Int} :
    evI Φ (.cons lcT .nil) (LB (.d (netV n sw so cu)) (.d (intL (places U))) b o F S x) = some ((touch x (links U)).map pr, LB (.d (netV n sw so cu)) (.d (intL (places U))) b o F S x, none) := by
  have hlen := hU.len
  have h : evE Φ lcT (LB (.d (netV n sw so cu)) (.d (intL (places U))) b o F S x) = some (.own (((touch x (links U)).map pr).map .d), LB (.d (netV n sw so cu)) (.d (intL (places U))) b o F S x) := by
    rw [← gT_map (sw := sw) hU.at_]
    refine ev_lcmap (gT sw x) (evI_var rfl (.inr rfl)) (by simp [places]; omega) rfl fun y hy => ?_
    obtain ⟨t, ht, rfl⟩ := List.mem_map.mp hy
    obtain ⟨u, hu, rfl⟩ := List.mem_map.mp ht
    obtain ⟨k, d, e⟩ := hU.at_ u hu
    have e1 : ixV (.d (.tuple sw)) (.d (.int u.1)) = some (.d (.tuple [.int u.2.1, .int u.2.2, .str k, d])) := by simp [ixV, e]
    have e2 := slc2 u.2.1 u.2.2 (.str k) d
    have e3 : inVal false (.d (.int x)) (.d (pr (u.2.1, u.2.2))) = some (decide (u.2.1 = x ∨ u.2.2 = x)) := by
      have := inV_tup [u.2.1, u.2.2] x false
      simp only [jobV, List.map_cons, List.map_nil] at this
      rw [show pr (u.2.1, u.2.2) = .tuple [.int u.2.1, .int u.2.2] from rfl, this]
      simp [eq_comm]
    by_cases hx : u.2.1 = x ∨ u.2.2 = x
    · simp [lcTurn, asgT, LB, evC, evT, evE, evP, opd, look, getv, cmpV, net2, e1, e2, e3, hx, wipeE, gT, e, AV.dat]
    · simp [lcTurn, asgT, LB, evC, evT, evE, evP, opd, look, getv, cmpV, net2, e1, e2, e3, hx, wipeE, gT, e, AV.dat]
  rw [evI]
  · simp only [h, AV.seq?, leafs_map, Option.bind_eq_bind, Option.bind_some]
  all_goals intros; simp_all [lcT]
def fB : S := (.seq (.ext 5 (.lc [10] (.ref 10) (.cons (.lst (.cons (.var 7) (.cons (.var 8) .nil))) .nil) (.cons (.cmp .NotIn (.ref 10) (.ref 3)) .nil) (.var 10))) (.seq (.fgt [7, 8]) .skip))
theorem for_push {Φ : Phi} {v u b : AV} {O F : List Int} {x : Int} : ∀ (P : List (Int × Int)) (S : List Int), S.length + 2 * P.length ≤ 1000000 → forI (fun y e => do
    let e' ← asgT (.tup (.cons (.ref 7) (.cons (.ref 8) .nil))) (.d y) e
    exS Φ fB e') (P.map pr) (LB v u b (.d (intL O)) F S x) = some (.nx, LB v u b (.d (intL O)) F (S ++ nbr O P) x)
  | [], S, _ => by simp [forI, nbr]
  | p :: P, S, h => by
    have hf := List.length_filter_le (fun y => decide (y ∉ O)) [p.1, p.2]
    simp only [List.length_cons, List.length_nil] at hf h
    have ih := for_push (Φ := Φ) (v := v) (u := u) (b := b) (O := O) (F := F) (x := x) P (S ++ [p.1, p.2].filter fun y => decide (y ∉ O)) (by rw [List.length_append]; omega)
    have e1 : asgT (.tup (.cons (.ref 7) (.cons (.ref 8) .nil))) (.d (pr p)) (LB v u b (.d (intL O)) F S x) = some [some v, some u, some b, some (.d (intL O)), some (.own (intV F)), some (.own (intV S)), some (.d (.int x)), some (.d (.int p.1)), some (.d (.int p.2)), none, none] := by
      simp [asgT, asgT.asgTs, LB, pr]
    have e2 : evE Φ (.lc [10] (.ref 10) (.cons (.lst (.cons (.var 7) (.cons (.var 8) .nil))) .nil) (.cons (.cmp .NotIn (.ref 10) (.ref 3)) .nil) (.var 10)) [some v, some u, some b, some (.d (intL O)), some (.own (intV F)), some (.own (intV S)), some (.d (.int x)), some (.d (.int p.1)), some (.d (.int p.2)), none, none] = some (.own (intV ([p.1, p.2].filter fun y => decide (y ∉ O))), [some v, some u, some b, some (.d (intL O)), some (.own (intV F)), some (.own (intV S)), some (.d (.int x)), some (.d (.int p.1)), some (.d (.int p.2)), none, none]) := by
      refine ev_lcfil _ ?_ (by simp) (by simp) rfl fun y _ => ?_
      · simp [evI, evE, evA, getv, fitL, LIM, AV.seq?, leafs, AV.dat]
      · refine evT_notin (t := .d (.int y)) (u := .d (intL O)) rfl rfl ?_
        rw [inV_list]
        simp
    have e3 : exS Φ fB [some v, some u, some b, some (.d (intL O)), some (.own (intV F)), some (.own (intV S)), some (.d (.int x)), some (.d (.int p.1)), some (.d (.int p.2)), none, none] = some (.nx, LB v u b (.d (intL O)) F (S ++ [p.1, p.2].filter fun y => decide (y ∉ O)) x) := by
      unfold fB
      refine (seq_nx (e1 := [some v, some u, some b, some (.d (intL O)), some (.own (intV F)), some (.own (intV (S ++ [p.1, p.2].filter fun y => decide (y ∉ O)))), some (.d (.int x)), some (.d (.int p.1)), some (.d (.int p.2)), none, none]) ?_).trans ?_
      · have e4 : fitL (S.length + ([p.1, p.2].filter fun y => decide (y ∉ O)).length) = true := by
          unfold fitL LIM
          rw [decide_eq_true_eq]
          omega
        rw [exS]
        rw [show getv [some v, some u, some b, some (.d (intL O)), some (.own (intV F)), some (.own (intV S)), some (.d (.int x)), some (.d (.int p.1)), some (.d (.int p.2)), none, none] 5 = some (.own (intV S)) from rfl]
        simp only [isOwn, if_true, e2, Option.bind_eq_bind, Option.bind_some]
        rw [show getv [some v, some u, some b, some (.d (intL O)), some (.own (intV F)), some (.own (intV S)), some (.d (.int x)), some (.d (.int p.1)), some (.d (.int p.2)), none, none] 5 = some (.own (intV S)) from rfl]
        simp only [intV_length, e4, if_true, intV_append]
        rfl
      · simp [exS, wipeE, LB]
    rw [List.map_cons, forI]
    simp only [e1, Option.bind_eq_bind, Option.bind_some, e3]
    refine ih.trans ?_
    rw [List.append_assoc]
    rfl
def wB : S := (.seq (.asg (.ref 6) (.pop 5)) (.seq (.ife (.cmp .NotIn (.ref 6) (.ref 4)) (.seq (.app 4 (.var 6)) (.seq (.forr (.tup (.cons (.ref 7) (.cons (.ref 8) .nil))) (.cons lcT .nil) fB) (.seq (.fgt [7, 8]) .skip))) .skip) (.seq (.fgt [6, 7, 8]) .skip)))
theorem reach_pop {Φ : Phi} {v u b o : AV} {F S : List Int} {x : Int} : exS Φ (.asg (.ref 6) (.pop 5)) (LE v u b o F (S ++ [x])) = some (.nx, LB v u b o F S x) := by
  simp [exS, evE, LE, LB, getv, intV_append, intV, asgT]
theorem reach_fgt {Φ : Phi} {v u b o : AV} {F S : List Int} {x : Int} : exS Φ (.seq (.fgt [6, 7, 8]) .skip) (LB v u b o F S x) = some (.nx, LE v u b o F S) := by
  simp [exS, LB, LE, wipeE]
theorem reach_step {Φ : Phi} {n : Int} {sw so cu : List PyData} {U : List (Int × Int × Int)} (hU : UD n sw U) {b : AV} {O F S : List Int} {x : Int} (hF : F.length ≤ 1000) (hS : S.length ≤ 100000) :
    exS Φ wB (LE (.d (netV n sw so cu)) (.d (intL (places U))) b (.d (intL O)) F (S ++ [x])) = some (.nx, if x ∈ F then LE (.d (netV n sw so cu)) (.d (intL (places U))) b (.d (intL O)) F S else LE (.d (netV n sw so cu)) (.d (intL (places U))) b (.d (intL O)) (F ++ [x]) (S ++ nbr O (touch x (links U)))) := by
  unfold wB
  refine (seq_nx reach_pop).trans ?_
  have hT := evT_notin (Φ := Φ) (env := LB (.d (netV n sw so cu)) (.d (intL (places U))) b (.d (intL O)) F S x) (i := 6) (j := 4) rfl rfl (inV_own F x true)
  by_cases hx : x ∈ F
  · rw [if_pos hx]
    refine (seq_nx (e1 := LB (.d (netV n sw so cu)) (.d (intL (places U))) b (.d (intL O)) F S x) (ife_skip ?_)).trans reach_fgt
    rw [hT]
    simp [hx]
  · rw [if_neg hx]
    have hT' : evT Φ (.cmp .NotIn (.ref 6) (.ref 4)) (LB (.d (netV n sw so cu)) (.d (intL (places U))) b (.d (intL O)) F S x) = some (true, LB (.d (netV n sw so cu)) (.d (intL (places U))) b (.d (intL O)) F S x) := by
      rw [hT]
      simp [hx]
    refine (seq_nx (e1 := LB (.d (netV n sw so cu)) (.d (intL (places U))) b (.d (intL O)) (F ++ [x]) (S ++ nbr O (touch x (links U))) x) ((ife_t hT').trans ?_)).trans reach_fgt
    refine (seq_nx (e1 := LB (.d (netV n sw so cu)) (.d (intL (places U))) b (.d (intL O)) (F ++ [x]) S x) ?_).trans ?_
    · have e4 : fitL (F.length + 1) = true := by
        unfold fitL LIM
        rw [decide_eq_true_eq]
        omega
      simp [exS, evE, LB, getv, isOwn, intV_append, AV.dat, intV_length, e4]
      simp [intV]
    · refine (seq_nx (e1 := LB (.d (netV n sw so cu)) (.d (intL (places U))) b (.d (intL O)) (F ++ [x]) (S ++ nbr O (touch x (links U))) x) ?_).trans (by simp [exS, wipeE, LB])
      rw [exS, ev_lcT hU]
      have hlen := hU.len
      have ht : (touch x (links U)).length ≤ U.length := by
        refine Nat.le_trans (List.length_filter_le _ _) ?_
        simp [links]
      have hp := for_push (Φ := Φ) (v := .d (netV n sw so cu)) (u := .d (intL (places U))) (b := b) (O := O) (F := F ++ [x]) (x := x) (touch x (links U)) S (by omega)
      simp only [heldOk, Option.bind_eq_bind, Option.bind_some, if_true]
      simp only [Option.bind_eq_bind] at hp
      rw [hp]
      rfl
theorem reach_loop {Φ : Phi} {n : Int} {sw so cu : List PyData} {U : List (Int × Int × Int)} (hU : UD n sw U) (hn : n ≤ 60) {b : AV} {B O : List Int} (hB : ∀ y ∈ B, 0 ≤ y ∧ y < n) : ∀ (k : Nat) (F S : List Int), (60 - F.length) * 181 + S.length ≤ k → k ≤ 20000 → LInv (links U) B O F S →
    ∃ F', whileI (evT Φ (.cmp .NotEq (.ref 5) (.lst .nil))) (exS Φ wB) (LE (.d (netV n sw so cu)) (.d (intL (places U))) b (.d (intL O)) F S) = some (.nx, LE (.d (netV n sw so cu)) (.d (intL (places U))) b (.d (intL O)) F' []) ∧ F'.length ≤ 60 ∧ (∀ x, x ∈ F' ↔ Rc (links U) B O x) ∧ F'.Nodup := by
  have hbar : ∀ F S, LInv (links U) B O F S → F.length ≤ 60 := fun F S h => nodup_len 60 F h.nd fun x hx => by
    have := Rc.bar (n := n) (fun p hp => by
      obtain ⟨u, hu, rfl⟩ := List.mem_map.mp hp
      exact hU.in_ u hu) hB (h.f1 x hx)
    omega
  intro k
  induction k with
  | zero =>
    intro F S hk hk2 hI
    have : S = [] := List.length_eq_zero_iff.mp (by omega)
    subst this
    exact ⟨F, while_f (by rw [evT_nonempty (S := []) rfl]; rfl), hbar F [] hI, fun x => hI.done, hI.nd⟩
  | succ k ih =>
    intro F S hk hk2 hI
    rcases List.eq_nil_or_concat S with rfl | ⟨S', x, rfl⟩
    · exact ⟨F, while_f (by rw [evT_nonempty (S := []) rfl]; rfl), hbar F [] hI, fun x => hI.done, hI.nd⟩
    · have hF := hbar F _ hI
      rw [List.concat_eq_append] at hk hI ⊢
      rw [List.length_append, List.length_singleton] at hk
      have hst := reach_step (Φ := Φ) (so := so) (cu := cu) hU (b := b) (O := O) (F := F) (S := S') (x := x) (by omega) (by omega)
      have hw := while_t (c := evT Φ (.cmp .NotEq (.ref 5) (.lst .nil))) (b := exS Φ wB) (env := LE (.d (netV n sw so cu)) (.d (intL (places U))) b (.d (intL O)) F (S' ++ [x])) (e1 := LE (.d (netV n sw so cu)) (.d (intL (places U))) b (.d (intL O)) F (S' ++ [x])) (by rw [evT_nonempty (S := S' ++ [x]) rfl]; simp) hst
      rw [hw]
      by_cases hx : x ∈ F
      · rw [if_pos hx]
        exact ih F S' (by omega) (by omega) (hI.old hx)
      · rw [if_neg hx]
        have h1 := nbr_len O (touch x (links U))
        have ht : (touch x (links U)).length ≤ U.length := by
          refine Nat.le_trans (List.length_filter_le _ _) ?_
          simp [links]
        have hlen := hU.len
        have hnew := hI.new hx
        have hF2 := hbar _ _ hnew
        rw [List.length_append, List.length_singleton] at hF2
        exact ih (F ++ [x]) (S' ++ nbr O (touch x (links U))) (by rw [List.length_append, List.length_append, List.length_singleton]; omega) (by omega) hnew
def IsReach (G : FnS) : Prop := G.n = 4 ∧ G.io = [] ∧ ∀ (n : Int) (sw so cu : List PyData) (U : List (Int × Int × Int)) (B O : List Int), UD n sw U → n ≤ 60 → (∀ y ∈ B, 0 ≤ y ∧ y < n) → B.length ≤ 100 → ∃ F : List Int, G.sem [.d (netV n sw so cu), .d (intL (places U)), .d (intL B), .d (intL O)] = some (.own (intV F), []) ∧ (∀ x, x ∈ F ↔ Rc (links U) B O x) ∧ F.Pairwise fun a b => a < b
theorem reach_ok (Φ : Phi) : IsReach (semOf Φ d7) := by
  refine ⟨rfl, rfl, fun n sw so cu U B O hU hn hB hBl => ?_⟩
  have hfl : (B.filter fun y => decide (y ∉ O)).length ≤ B.length := List.length_filter_le _ _
  obtain ⟨F, h1, h2, h3, hnd⟩ := reach_loop (Φ := Φ) (so := so) (cu := cu) hU hn (b := .d (intL B)) hB 20000 [] (B.filter fun y => decide (y ∉ O)) (by simp only [List.length_nil]; omega) (Nat.le_refl _) .start
  obtain ⟨F', h4, h5, h6⟩ := sort_up (F := F) (by omega) hnd
  refine ⟨F', ?_, fun x => h5.mem_iff.trans (h3 x), h6⟩
  refine run_rt (e := LE (.d (netV n sw so cu)) (.d (intL (places U))) (.d (intL B)) (.d (intL O)) F []) rfl ?_ rfl
  show exS Φ b7 _ = _
  refine (seq_nx (e1 := LE (.d (netV n sw so cu)) (.d (intL (places U))) (.d (intL B)) (.d (intL O)) [] (B.filter fun y => decide (y ∉ O))) ?_).trans ?_
  · have hl := ev_lcfil (Φ := Φ) (i := 6) (it := .cons (.var 2) .nil) (c := .cmp .NotIn (.ref 6) (.ref 3)) (env := [some (.d (netV n sw so cu)), some (.d (intL (places U))), some (.d (intL B)), some (.d (intL O)), none, none, none, none, none, none, none]) (X := B) (fun y => decide (y ∉ O)) (evI_var rfl (.inr rfl)) (by omega) (by simp) rfl fun y _ => by
      refine evT_notin (t := .d (.int y)) (u := .d (intL O)) rfl rfl ?_
      rw [inV_list]
      simp
    show exS Φ (.par 4 5 _ _) [some (.d (netV n sw so cu)), some (.d (intL (places U))), some (.d (intL B)), some (.d (intL O)), none, none, none, none, none, none, none] = _
    rw [exS, evE]
    simp only [evA, Option.bind_eq_bind, Option.bind_some, hl]
    simp only [fitL, LIM, List.length_nil, Nat.zero_le, decide_true, if_true, Option.bind_some, hl]
    simp [LE, intV]
  · refine (seq_nx (e1 := LE (.d (netV n sw so cu)) (.d (intL (places U))) (.d (intL B)) (.d (intL O)) F []) (by rw [exS]; exact h1)).trans (seq_rt ?_)
    have hb : biV .sorted [.own (intV F)] = some (.own (intV F')) := by
      simp only [biV, AV.lst?, leafs_intV, h4, fr, Option.bind_some, Option.map_some, List.map_map]
      rfl
    simp [exS, evE, evL, opd, look, getv, LE, hb]
end K22
namespace K22
open PySem L2 Mi
abbrev Sw := Int × Int × Int
/-! distances from the goal -/
theorem near_at {N : List (List (Int × Int))} {x : Int} (h0 : 0 ≤ x) (hl : x < (N.length : Int)) : ixV (.d (nearV N)) (.d (.int x)) = some (.d (.list ((nb N x).map pr))) := by
  have h : atI (N.map fun l => PyData.list (l.map pr)) x = some (.list ((nb N x).map pr)) := by
    unfold atI ixN
    rw [List.length_map, if_pos h0, if_pos hl]
    show (N.map fun l => PyData.list (l.map pr))[x.toNat]? = _
    rw [List.getElem?_map]
    unfold nb
    rw [List.getElem?_eq_getElem (show x.toNat < N.length by omega)]
    rfl
  simp [ixV, nearV, h]
theorem evT_ne {Φ : Phi} {env : SEnv} {i : Nat} {S : List Int} {t : AV} (h : getv env i = some t) (ht : t.dat = intL S) : evT Φ (.cmp .NotEq (.ref i) (.lst .nil)) env = some (!S.isEmpty, env) := by
  have e1 : eqOk (.list []) = true := by decide
  have e2 : PyData.eqv (intL S) (.list []) = S.isEmpty := by
    unfold intL
    rw [eqv_nil]
    cases S <;> rfl
  have e3 : AV.dat (.own []) = .list [] := by simp [AV.dat, datL]
  simp [evT, evE, evA, opd, look, h, cmpV, ht, ok_intL, e1, e2, e3, fitL, LIM]
/-! the way round a switch -/
/-! the usable switches as rows; those without a way round -/
def uV (u : Sw) : PyData := .tuple [.int u.1, .int u.2.1, .int u.2.2]
def IsUsable (G : FnS) : Prop := G.n = 1 ∧ G.io = [] ∧ ∀ (n : Int) (sw so cu : List PyData), NetD n sw so cu → G.sem [.d (netV n sw so cu)] = some (.own ((swU sw).map fun u => .d (uV u)), [])
theorem usable_ok (Φ : Phi) : IsUsable (semOf Φ d24) := by
  refine ⟨rfl, rfl, fun n sw so cu hN => ?_⟩
  let e0 : SEnv := [some (.d (netV n sw so cu)), none, none]
  refine run_rt (e := e0) rfl ?_ rfl
  show exS Φ b24 e0 = _
  unfold b24
  refine seq_rt ?_
  rw [exS]
  have hI : evI Φ (.bi .enum (.cons (.ix (.ref 0) (.lit (.int 2))) .nil)) e0 = some (enumL sw, e0, none) := by
    simp [evI, evE, opd, look, getv, e0, net2, AV.seq?]
  let g : PyData → Option AV := fun x => match x with
    | .tuple [.int i, .tuple (.int a :: .int b :: _)] => some (.d (uV (i, a, b)))
    | _ => none
  have hl := hN.s1
  rw [ev_lcmap g hI (by simp [enumL]; omega) rfl fun x hx => ?_]
  · simp only [Option.bind_eq_bind, Option.bind_some]
    congr 4
    unfold enumL swU
    rw [List.filterMap_map, List.map_filterMap]
    refine fmap_congr fun p hp => ?_
    obtain ⟨x, i⟩ := p
    have hx : sw[i]? = some x := List.mem_zipIdx_iff_getElem?.mp hp
    rcases hN.w1 x (List.mem_of_getElem? hx) with rfl | ⟨a, b, k, d, rfl, _⟩ <;> simp [g, swOf]
  · obtain ⟨⟨x, i⟩, hp, rfl⟩ := List.mem_map.mp hx
    have hx : sw[i]? = some x := List.mem_zipIdx_iff_getElem?.mp hp
    have e2 : eqOk (.tuple []) = true := by decide
    rcases hN.w1 x (List.mem_of_getElem? hx) with rfl | ⟨a, b, k, d, rfl, _, _, _, _, _, hk, hd⟩
    · simp [lcTurn, asgT, asgT.asgTs, e0, evC, evT, evE, evA, opd, look, getv, cmpV, mkTup, leafs, fitL, LIM, AV.dat, e2, PyData.eqv, PyData.eqvAll, wipeE, g]
    · have sok : PyData.strOk k = true := by rcases hk with rfl | rfl <;> decide +kernel
      have dok : Dk 0 d := by
        rcases hd with rfl | ⟨z, rfl, _, _⟩
        · exact dk_none
        · exact dk_int z
      have e4 : eqOk (.tuple [.int a, .int b, .str k, d]) = true := (dk_tuple (n := 0) (xs := [.int a, .int b, .str k, d]) fun x hx => by
        simp only [List.mem_cons, List.mem_nil_iff, or_false] at hx
        rcases hx with rfl | rfl | rfl | rfl
        · exact dk_int a
        · exact dk_int b
        · exact dk_str sok
        · exact dok).ok (by decide)
      simp [lcTurn, asgT, asgT.asgTs, e0, evC, evT, evE, evA, opd, look, getv, cmpV, mkTup, leafs, fitL, LIM, AV.dat, e2, e4, PyData.eqv, PyData.eqvAll, wipeE, g, uV, ixV, atI, ixN]
theorem evI_list {Φ : Phi} {a : E} {env e1 : SEnv} {xs : List PyData} (h : evE Φ a env = some (.own (xs.map .d), e1)) : evI Φ (.cons a .nil) env = some (xs, e1, none) := by
  simp only [evI, h, Option.bind_eq_bind, Option.bind_some, AV.seq?, leafs_map]
/-! the blocks -/
def TB : S := (.seq (.ife (.cmp .NotIn (.ref 3) (.ref 1)) (.seq (.app1 2 (.var 4) (.tup (.cons (.var 3) (.cons (.var 5) .nil)))) (.seq (.app1 2 (.var 5) (.tup (.cons (.var 3) (.cons (.var 4) .nil)))) .skip)) .skip) (.seq (.fgt [3, 4, 5]) .skip))
theorem table_for {Φ : Phi} {n : Int} (hn : n ≤ 60) {v : AV} {S0 : List Int} {z : PyData} (hz : ∀ x : Int, inVal true (.d (.int x)) (.d z) = some (!decide (x ∈ S0))) : ∀ (Q P : List Sw) (N : List (List (Int × Int))), (∀ u ∈ Q, (0 ≤ u.2.1 ∧ u.2.1 < n) ∧ 0 ≤ u.2.2 ∧ u.2.2 < n) → P.length + Q.length ≤ 90 → NI n N P →
    ∃ N' P', forI (fun y e => do let e' ← asgT (.tup (.cons (.ref 3) (.cons (.ref 4) (.cons (.ref 5) .nil)))) (.d y) e; exS Φ TB e') (Q.map uV) (NE v (.d z) N) = some (.nx, NE v (.d z) N') ∧ NI n N' P' ∧ P' = P ++ Q.filter fun u => !decide (u.1 ∈ S0)
  | [], P, N, _, _, hN => ⟨N, P, rfl, hN, by simp⟩
  | u :: Q, P, N, hq, hl, hN => by
    have hin := hq u List.mem_cons_self
    rw [List.length_cons] at hl
    have hlen := hN.len
    let e1 : SEnv := [some v, some (.d z), some (nest N), some (.d (.int u.1)), some (.d (.int u.2.1)), some (.d (.int u.2.2)), none]
    have a0 : asgT (.tup (.cons (.ref 3) (.cons (.ref 4) (.cons (.ref 5) .nil)))) (.d (uV u)) (NE v (.d z) N) = some e1 := by simp [asgT, asgT.asgTs, NE, uV, e1]
    have hT := evT_notin (Φ := Φ) (env := e1) (i := 3) (j := 1) rfl rfl (hz u.1)
    by_cases hs : u.1 ∈ S0
    · have hT' : evT Φ (.cmp .NotIn (.ref 3) (.ref 1)) e1 = some (false, e1) := by
        rw [hT]
        simp [hs]
      have ht : (do let e' ← asgT (.tup (.cons (.ref 3) (.cons (.ref 4) (.cons (.ref 5) .nil)))) (.d (uV u)) (NE v (.d z) N); exS Φ TB e') = some (.nx, NE v (.d z) N) := by
        rw [a0]
        simp only [Option.bind_eq_bind, Option.bind_some]
        unfold TB
        exact (seq_nx (ife_skip hT')).trans (by simp [exS, wipeE, NE, e1])
      obtain ⟨N', P', h1, h2, h3⟩ := table_for (Φ := Φ) hn (v := v) hz Q P N (fun w hw => hq w (List.mem_cons_of_mem _ hw)) (by omega) hN
      refine ⟨N', P', ?_, h2, by rw [h3, List.filter_cons_of_neg (by simp [hs])]⟩
      rw [List.map_cons, forI]
      simp only [Option.bind_eq_bind] at ht h1 ⊢
      rw [ht]
      exact h1
    · have hT' : evT Φ (.cmp .NotIn (.ref 3) (.ref 1)) e1 = some (true, e1) := by
        rw [hT]
        simp [hs]
      have hst := hN.step (s := u.1) hin.1 hin.2
      have ht : (do let e' ← asgT (.tup (.cons (.ref 3) (.cons (.ref 4) (.cons (.ref 5) .nil)))) (.d (uV u)) (NE v (.d z) N); exS Φ TB e') = some (.nx, NE v (.d z) (addN (addN N u.2.1 (u.1, u.2.2)) u.2.2 (u.1, u.2.1))) := by
        rw [a0]
        simp only [Option.bind_eq_bind, Option.bind_some]
        unfold TB
        have s1 := hN.small u.2.1 hin.1.1
        have s2 : (nb (addN N u.2.1 (u.1, u.2.2)) u.2.2).length ≤ 1000 := by
          rw [nb_addN hin.1.1 (by omega) hin.2.1]
          have := hN.small u.2.2 hin.2.1
          by_cases h : u.2.2 = u.2.1
          · rw [if_pos h, List.length_append, List.length_singleton]
            omega
          · rw [if_neg h]
            omega
        refine (seq_nx (e1 := [some v, some (.d z), some (nest (addN (addN N u.2.1 (u.1, u.2.2)) u.2.2 (u.1, u.2.1))), some (.d (.int u.1)), some (.d (.int u.2.1)), some (.d (.int u.2.2)), none]) ((ife_t hT').trans ?_)).trans (by simp [exS, wipeE, NE])
        refine (seq_nx (near_app (v := v) (u := v) (N := N) (s := u.1) (a := u.2.1) (b := u.2.2) rfl rfl rfl rfl (by decide) (by decide) (by omega) (by omega) (by omega))).trans ?_
        refine (seq_nx (near_app (v := v) (u := v) (N := addN N u.2.1 (u.1, u.2.2)) (s := u.1) (a := u.2.2) (b := u.2.1) rfl rfl rfl rfl (by decide) (by decide) (by rw [addN_len]; omega) (by rw [addN_len]; omega) s2)).trans ?_
        simp [exS, e1]
      obtain ⟨N', P', h1, h2, h3⟩ := table_for (Φ := Φ) hn (v := v) hz Q (P ++ [(u.1, u.2.1, u.2.2)]) _ (fun w hw => hq w (List.mem_cons_of_mem _ hw)) (by rw [List.length_append, List.length_singleton]; omega) hst
      refine ⟨N', P', ?_, h2, by rw [h3, List.filter_cons_of_pos (by simp [hs]), List.append_assoc]; rfl⟩
      rw [List.map_cons, forI]
      simp only [Option.bind_eq_bind] at ht h1 ⊢
      rw [ht]
      exact h1
def restU (sw : List PyData) (S0 : List Int) : List Sw := (swU sw).filter fun u => !decide (u.1 ∈ S0)
def IsTable (G : FnS) : Prop := G.n = 2 ∧ G.io = [] ∧ ∀ (n : Int) (sw so cu : List PyData) (S0 : List Int) (z : PyData), NetD n sw so cu → (∀ x : Int, inVal true (.d (.int x)) (.d z) = some (!decide (x ∈ S0))) → ∃ N, G.sem [.d (netV n sw so cu), .d z] = some (nest N, []) ∧ NI n N (restU sw S0)
theorem table_ok (Φ : Phi) {U : FnS} (h18 : Φ[24]? = some U) (hU : IsUsable U) : IsTable (semOf Φ d25) := by
  obtain ⟨u1, u2, u3⟩ := hU
  refine ⟨rfl, rfl, fun n sw so cu S0 z hN hz => ?_⟩
  have n1 := hN.n1
  have n2 := hN.n2
  have hU := swU_ok hN
  have hlen := hU.len
  obtain ⟨N, P, h1, h2, h3⟩ := table_for (Φ := Φ) hN.n2 (v := .d (netV n sw so cu)) hz (swU sw) [] _ hU.in_ (by simp only [List.length_nil]; omega) .start
  rw [List.nil_append] at h3
  refine ⟨N, ?_, by rw [h3] at h2; exact h2⟩
  let e0 : SEnv := [some (.d (netV n sw so cu)), some (.d z), none, none, none, none, none]
  refine run_rt (e := [some (.d (netV n sw so cu)), some (.d z), none, none, none, none, none]) rfl ?_ rfl
  show exS Φ b25 e0 = _
  refine (seq_nx (e1 := NE (.d (netV n sw so cu)) (.d z) (List.replicate n.toNat [])) ?_).trans ?_
  · have hI : evI Φ (.bi .range1 (.cons (.ix (.ref 0) (.lit (.int 1))) .nil)) e0 = some (rangeL 0 n.toNat, e0, none) := by
      refine evI_r1 ?_ (okRg_small (by omega) (by omega))
      simp [evE, opd, look, getv, e0, net1]
    have := ev_lcmap (Φ := Φ) (own := [6]) (tg := .ref 6) (cond := .nil) (elt := .lst .nil) (fun _ => some (.own [])) hI (by rw [rangeL_len]; omega) rfl fun x _ => by
      simp [lcTurn, asgT, e0, evC, evE, evA, fitL, LIM, wipeE]
    rw [exS, this]
    have hr : ((rangeL 0 n.toNat).filterMap fun _ => some (AV.own [])) = (List.replicate n.toNat ([] : List (Int × Int))).map fun l => AV.own (l.map fun p => .d (pr p)) := by
      unfold rangeL
      rw [List.filterMap_map, List.map_replicate]
      apply List.ext_getElem?
      intro i
      simp [Function.comp_def, List.filterMap_eq_map', List.getElem?_replicate]
      by_cases h : i < n.toNat <;> simp [h] <;> omega
    simp [asgT, hr, NE, nest, e0]
  · refine (seq_nx (e1 := NE (.d (netV n sw so cu)) (.d z) N) ?_).trans ?_
    · have c18 := ev_call1 (Φ := Φ) (a := .var 0) (env := NE (.d (netV n sw so cu)) (.d z) (List.replicate n.toNat [])) h18 (opd_var rfl) (call_d (xs := [netV n sw so cu]) u1 u2 (u3 n sw so cu hN))
      have hI : evI Φ (.cons (.call 24 (.cons (.var 0) .nil)) .nil) (NE (.d (netV n sw so cu)) (.d z) (List.replicate n.toNat [])) = some ((swU sw).map uV, NE (.d (netV n sw so cu)) (.d z) (List.replicate n.toNat []), none) := by
        refine evI_list ?_
        rw [List.map_map]
        exact c18
      rw [exS, hI]
      simp only [heldOk, Option.bind_eq_bind, Option.bind_some, if_true]
      simp only [Option.bind_eq_bind] at h1
      rw [show (.seq (.ife (.cmp .NotIn (.ref 3) (.ref 1)) (.seq (.app1 2 (.var 4) (.tup (.cons (.var 3) (.cons (.var 5) .nil)))) (.seq (.app1 2 (.var 5) (.tup (.cons (.var 3) (.cons (.var 4) .nil)))) .skip)) .skip) (.seq (.fgt [3, 4, 5]) .skip)) = TB from rfl, h1]
      rfl
    · exact seq_rt (by simp [exS, evE, getv, NE])

end K22
namespace K22
open PySem L2 Mi

/-! what is reached behind lost switches -/
def IsFeedBars (G : FnS) : Prop := G.n = 1 ∧ G.io = [] ∧ ∀ (n : Int) (sw so cu : List PyData), NetD n sw so cu → G.sem [.d (netV n sw so cu)] = some (.own (intV (setL (feeds so))), [])
theorem ev_bi1 {Φ : Phi} {b : Bi} {a : E} {env e1 : SEnv} {t r : AV} (ha : ∀ i, a ≠ .ref i) (h : evE Φ a env = some (t, e1)) (hb : biV b [t] = some r) : evE Φ (.bi b (.cons a .nil)) env = some (r, e1) := by
  rw [evE, evL, opd_e ha h]
  simp only [Option.bind_eq_bind, Option.bind_some]
  rw [evL]
  simp only [Option.bind_some, List.mapM_cons, List.mapM_nil, look, Option.pure_def, hb, Option.bind_eq_bind]
theorem ret_e {Φ : Phi} {a : E} {env e1 : SEnv} {t : AV} (h : evE Φ a env = some (t, e1)) : exS Φ (.ret a) env = some (.rt t, e1) := by
  simp only [exS, h, Option.bind_eq_bind, Option.bind_some]
theorem asg_e {Φ : Phi} {i : Nat} {a : E} {env e1 : SEnv} {t : AV} (h : evE Φ a env = some (t, e1)) (hi : i < e1.length) : exS Φ (.asg (.ref i) a) env = some (.nx, e1.set i (some t)) := by
  simp only [exS, h, Option.bind_eq_bind, Option.bind_some, asgT, hi, if_true]
theorem frz_e {Φ : Phi} {a : E} {env e1 : SEnv} {t : AV} (h : evE Φ a env = some (t, e1)) : evE Φ (.frz a) env = some (.d t.dat, e1) := by
  simp only [evE, h, Option.bind_eq_bind, Option.bind_some]
theorem feedlc_e {Φ : Phi} {n : Int} {sw so cu : List PyData} (hN : NetD n sw so cu) : evE Φ (.lc [1] (.ref 1) (.cons (.ix (.ref 0) (.lit (.int 3))) .nil) (.cons (.and (.cmp .NotEq (.ref 1) (.tup .nil)) (.cmp .Eq (.ix (.ref 1) (.lit (.int 2))) (.lit (.str "feed")))) .nil) (.ix (.ref 1) (.lit (.int 0)))) [some (.d (netV n sw so cu)), none] = some (.own (intV (feeds so)), [some (.d (netV n sw so cu)), none]) := by
  let e0 : SEnv := [some (.d (netV n sw so cu)), none]
  have hI : evI Φ (.cons (.ix (.ref 0) (.lit (.int 3))) .nil) e0 = some (so, e0, none) := by
    simp [evI, evE, opd, look, getv, e0, net3, AV.seq?]
  have hl := hN.s2
  rw [ev_lcmap (fun x => (fdOf x).map fun i => .d (.int i)) hI (by omega) rfl fun x hx => ?_]
  · simp only [Option.bind_eq_bind, Option.bind_some, intV, feeds, List.map_filterMap]
    rfl
  · have e2 : eqOk (.tuple []) = true := by decide
    have e1 := ok_src (hN.w2 x hx)
    have e6 : eqOk (.str "feed") = true := by decide +kernel
    rcases hN.w2 x hx with rfl | ⟨a, p, s, rfl, _, _, _, _, h5⟩
    · simp [lcTurn, asgT, e0, evC, evT, evE, evA, opd, look, getv, cmpV, mkTup, leafs, fitL, LIM, AV.dat, e2, PyData.eqv, PyData.eqvAll, wipeE, fdOf]
    · have e3 : eqOk (.str s) = true := by rcases h5 with rfl | rfl <;> decide +kernel
      have e7 : PyData.eqv (.tuple [.int a, .int p, .str s]) (.tuple []) = false := by simp [PyData.eqv, PyData.eqvAll]
      cases he : PyData.eqv (.str s) (.str "feed") <;> simp [lcTurn, asgT, e0, evC, evT, evE, evA, opd, look, getv, cmpV, mkTup, leafs, fitL, LIM, AV.dat, e1, e2, e3, e6, e7, he, ixV, atI, ixN, wipeE, fdOf]
theorem allInts_of : ∀ l : List Int, allInts (l.map .int) = some l
  | [] => rfl
  | x :: l => by rw [List.map_cons, allInts, allInts_of l]; rfl
theorem feedbars_ok (Φ : Phi) : IsFeedBars (semOf Φ d26) := by
  refine ⟨rfl, rfl, fun n sw so cu hN => ?_⟩
  refine run_rt (e := [some (.d (netV n sw so cu)), none]) rfl ?_ rfl
  show exS Φ b26 [some (.d (netV n sw so cu)), none] = _
  refine seq_rt (ret_e (ev_bi1 (fun _ h => nomatch h) (feedlc_e hN) ?_))
  have hl := feeds_len hN
  have e1 : (AV.own (intV (feeds so))).seq? = some ((feeds so).map .int) := by
    show leafs (intV (feeds so)) = _
    rw [leafs_intV]
  have e2 : (feeds so).length ≤ 60 := by omega
  simp only [biV, e1, Option.bind_some, allInts_of, e2, decide_true, if_true]
  simp [fr, intV]
/-! customers -/
end K22
/-! flows of at most one on each switch, and what cuts a bar off: plain mathematics -/
namespace K22
abbrev Swt := Int × Int × Int
def b2i (b : Bool) : Int := if b then 1 else 0
/-- what flows out of a lot of bars -/
def outF (U : List Swt) (f : Int → Int) (r : Int → Bool) : Int := (U.map fun u => f u.1 * (b2i (r u.2.1) - b2i (r u.2.2))).sum
def upF (f : Int → Int) (s d : Int) : Int → Int := fun t => if t = s then f s + d else f t
theorem out_other {s d : Int} {f : Int → Int} {r : Int → Bool} : ∀ {U : List Swt}, s ∉ U.map (·.1) → outF U (upF f s d) r = outF U f r
  | [], _ => rfl
  | v :: U, h => by
    rw [List.map_cons, List.mem_cons, not_or] at h
    have ih := out_other (d := d) (f := f) (r := r) h.2
    unfold outF at ih ⊢
    rw [List.map_cons, List.map_cons, List.sum_cons, List.sum_cons, ih]
    have e : upF f s d v.1 = f v.1 := if_neg (Ne.symm h.1)
    rw [e]
theorem out_up {f : Int → Int} {r : Int → Bool} {d : Int} {u : Swt} : ∀ {U : List Swt}, (U.map (·.1)).Nodup → u ∈ U → outF U (upF f u.1 d) r = outF U f r + d * (b2i (r u.2.1) - b2i (r u.2.2))
  | [], _, h => nomatch h
  | v :: U, nd, h => by
    rw [List.map_cons, List.nodup_cons] at nd
    rcases List.mem_cons.mp h with rfl | h
    · have e1 := out_other (d := d) (f := f) (r := r) nd.1
      unfold outF at e1 ⊢
      rw [List.map_cons, List.map_cons, List.sum_cons, List.sum_cons, e1]
      have e : upF f u.1 d u.1 = f u.1 + d := if_pos rfl
      rw [e, Int.add_mul]
      omega
    · have ih := out_up (f := f) (r := r) (d := d) nd.2 h
      have ne : v.1 ≠ u.1 := fun e => nd.1 (e ▸ List.mem_map_of_mem (f := (·.1)) h)
      unfold outF at ih ⊢
      rw [List.map_cons, List.map_cons, List.sum_cons, List.sum_cons, ih]
      have e : upF f u.1 d v.1 = f v.1 := if_neg ne
      rw [e]
      omega
/-- whether a further way can go through a switch from a bar -/
def canF (f : Int → Int) (u : Swt) (y : Int) : Bool := if u.2.1 = y then decide (f u.1 < 1) else decide (-1 < f u.1)
/-- beside one another by a switch -/
def Lk (u : Swt) (y x : Int) : Prop := (u.2.1 = y ∧ u.2.2 = x) ∨ (u.2.2 = y ∧ u.2.1 = x)
/-- a way back from a bar to its root, by steps (switch, bar that it leads from) -/
inductive Pth (U : List Swt) (f : Int → Int) (x0 : Int) : Int → List (Int × Int) → Prop
  | nil : Pth U f x0 x0 []
  | step {x y : Int} {u : Swt} {W : List (Int × Int)} : u ∈ U → Lk u y x → canF f u y = true → Pth U f x0 y W → Pth U f x0 x ((u.1, y) :: W)
def sgn (e1 : Int → Int) (p : Int × Int) : Int := if e1 p.1 = p.2 then 1 else -1
def app1F (e1 : Int → Int) (f : Int → Int) (p : Int × Int) : Int → Int := upF f p.1 (sgn e1 p)
def appF (e1 : Int → Int) (W : List (Int × Int)) (f : Int → Int) : Int → Int := W.foldl (app1F e1) f
section
variable {U : List Swt} {f : Int → Int} {e1 : Int → Int} {x0 : Int}
theorem out_way (nd : (U.map (·.1)).Nodup) (he : ∀ u ∈ U, e1 u.1 = u.2.1) (hne : ∀ u ∈ U, u.2.1 ≠ u.2.2) {r : Int → Bool} {x : Int} {W : List (Int × Int)} (h : Pth U f x0 x W) : ∀ f0, outF U (appF e1 W f0) r = outF U f0 r + b2i (r x0) - b2i (r x) := by
  induction h with
  | nil => intro f0; show outF U f0 r = _; omega
  | @step x y u W hu hl _ _ ih =>
    intro f0
    show outF U (appF e1 W (app1F e1 f0 (u.1, y))) r = _
    have e2 : outF U (app1F e1 f0 (u.1, y)) r = outF U f0 r + sgn e1 (u.1, y) * (b2i (r u.2.1) - b2i (r u.2.2)) := out_up nd hu
    rw [ih, e2]
    have hn := hne u hu
    have h1 := he u hu
    unfold sgn
    show _ + (if e1 u.1 = y then (1 : Int) else -1) * _ + _ - _ = _
    rw [h1]
    rcases hl with ⟨rfl, rfl⟩ | ⟨rfl, rfl⟩
    · rw [if_pos rfl]
      omega
    · rw [if_neg hn]
      omega
theorem app_at : ∀ {W : List (Int × Int)} {f : Int → Int}, (W.map (·.1)).Nodup → (∀ p ∈ W, appF e1 W f p.1 = f p.1 + sgn e1 p) ∧ ∀ s, s ∉ W.map (·.1) → appF e1 W f s = f s
  | [], _, _ => ⟨fun _ h => (nomatch h), fun _ _ => rfl⟩
  | q :: W, f, nd => by
    rw [List.map_cons, List.nodup_cons] at nd
    obtain ⟨h1, h2⟩ := app_at (W := W) (f := app1F e1 f q) nd.2
    have e0 : appF e1 (q :: W) f = appF e1 W (app1F e1 f q) := rfl
    refine ⟨fun p hp => ?_, fun s hs => ?_⟩
    · rcases List.mem_cons.mp hp with rfl | hp
      · rw [e0, h2 _ nd.1]
        exact if_pos rfl
      · rw [e0, h1 p hp]
        have ne : p.1 ≠ q.1 := fun e => nd.1 (e ▸ List.mem_map_of_mem (f := (·.1)) hp)
        have e2 : app1F e1 f q p.1 = f p.1 := if_neg ne
        rw [e2]
    · rw [List.map_cons, List.mem_cons, not_or] at hs
      rw [e0, h2 s hs.2]
      exact if_neg hs.1
theorem Pth.can {x : Int} {W : List (Int × Int)} (h : Pth U f x0 x W) : ∀ p ∈ W, ∃ u ∈ U, u.1 = p.1 ∧ canF f u p.2 = true := by
  induction h with
  | nil => exact fun _ h => nomatch h
  | step hu hl hc _ ih =>
    intro p hp
    rcases List.mem_cons.mp hp with rfl | hp
    · exact ⟨_, hu, rfl, hc⟩
    · exact ih p hp
theorem bd_way (he : ∀ u ∈ U, e1 u.1 = u.2.1) {x : Int} {W : List (Int × Int)} (h : Pth U f x0 x W) (nd : (W.map (·.1)).Nodup) (hb : ∀ u ∈ U, -1 ≤ f u.1 ∧ f u.1 ≤ 1) : ∀ u ∈ U, -1 ≤ appF e1 W f u.1 ∧ appF e1 W f u.1 ≤ 1 := by
  intro u hu
  obtain ⟨h1, h2⟩ := app_at (e1 := e1) (f := f) nd
  have hbu := hb u hu
  by_cases m : u.1 ∈ W.map (·.1)
  · obtain ⟨p, hp, e⟩ := List.mem_map.mp m
    have e' : p.1 = u.1 := e
    have h3 := h1 p hp
    rw [e'] at h3
    rw [h3]
    obtain ⟨v, hv, ev, hc⟩ := h.can p hp
    unfold canF at hc
    unfold sgn
    have h4 := he v hv
    rw [ev] at h4
    rw [ev, e'] at hc
    rw [h4]
    by_cases q : v.2.1 = p.2
    · rw [if_pos q, decide_eq_true_eq] at hc
      rw [if_pos q]
      omega
    · rw [if_neg q, decide_eq_true_eq] at hc
      rw [if_neg q]
      omega
  · rw [h2 _ m]
    exact hbu
/-! cuts -/
theorem sum_lo {α : Type} (t : α → Int) (p : α → Bool) : ∀ (L : List α), (∀ u ∈ L, if p u = true then -1 ≤ t u else t u = 0) → -((L.filter p).length : Int) ≤ (L.map t).sum
  | [], _ => by simp
  | u :: L, h => by
    have ih := sum_lo t p L fun v hv => h v (List.mem_cons_of_mem _ hv)
    have hu := h u List.mem_cons_self
    rw [List.map_cons, List.sum_cons]
    by_cases q : p u = true
    · rw [if_pos q] at hu
      rw [List.filter_cons_of_pos q, List.length_cons]
      omega
    · rw [if_neg q] at hu
      rw [List.filter_cons_of_neg q]
      omega
theorem sum_eq {α : Type} (t : α → Int) (p : α → Bool) : ∀ (L : List α), (∀ u ∈ L, if p u = true then t u = -1 else t u = 0) → (L.map t).sum = -((L.filter p).length : Int)
  | [], _ => by simp
  | u :: L, h => by
    have ih := sum_eq t p L fun v hv => h v (List.mem_cons_of_mem _ hv)
    have hu := h u List.mem_cons_self
    rw [List.map_cons, List.sum_cons]
    by_cases q : p u = true
    · rw [if_pos q] at hu
      rw [List.filter_cons_of_pos q, List.length_cons]
      omega
    · rw [if_neg q] at hu
      rw [List.filter_cons_of_neg q]
      omega
/-- k ways to g -/
structure Flw (U : List Swt) (B : List Int) (g : Int) (f : Int → Int) (k : Nat) : Prop where
  bd : ∀ u ∈ U, -1 ≤ f u.1 ∧ f u.1 ≤ 1
  out : ∀ r : Int → Bool, (∀ b ∈ B, r b = false) → outF U f r = if r g = true then -(k : Int) else 0
def restS (U : List Swt) (S0 : List Int) : List Swt := U.filter fun u => !decide (u.1 ∈ S0)
variable {B : List Int} {g : Int} {k : Nat}
theorem Flw.zero : Flw U B g (fun _ => 0) 0 := by
  refine ⟨fun _ _ => by omega, fun r _ => ?_⟩
  have : ∀ L : List Swt, outF L (fun _ => 0) r = 0 := by
    intro L
    induction L with
    | nil => rfl
    | cons u L ih =>
      unfold outF at ih ⊢
      rw [List.map_cons, List.sum_cons, ih]
      simp
  rw [this]
  split <;> rfl
theorem Flw.step (h : Flw U B g f k) (nd : (U.map (·.1)).Nodup) (he : ∀ u ∈ U, e1 u.1 = u.2.1) (hne : ∀ u ∈ U, u.2.1 ≠ u.2.2) {W : List (Int × Int)} (hw : Pth U f x0 g W) (h0 : x0 ∈ B) (nw : (W.map (·.1)).Nodup) : Flw U B g (appF e1 W f) (k + 1) := by
  refine ⟨bd_way he hw nw h.bd, fun r hr => ?_⟩
  rw [out_way nd he hne hw, h.out r hr, hr x0 h0]
  cases e : r g with
  | true =>
    rw [if_pos rfl, if_pos rfl]
    show -(k : Int) + 0 - 1 = -((k + 1 : Nat) : Int)
    omega
  | false =>
    rw [if_neg (by simp), if_neg (by simp)]
    show (0 : Int) + 0 - 0 = 0
    omega
theorem Flw.le (h : Flw U B g f k) {S0 : List Int} (hg : ¬ Rc ((restS U S0).map (·.2)) B [] g) : k ≤ (U.filter fun u => decide (u.1 ∈ S0)).length := by
  classical
  have h1 := h.out (fun x => decide (¬ Rc ((restS U S0).map (·.2)) B [] x)) fun b hb => by
    simp only [decide_eq_false_iff_not, Classical.not_not]
    exact .base hb (by simp)
  rw [if_pos (decide_eq_true hg)] at h1
  have h2 := sum_lo (fun u : Swt => f u.1 * (b2i (decide (¬ Rc ((restS U S0).map (·.2)) B [] u.2.1)) - b2i (decide (¬ Rc ((restS U S0).map (·.2)) B [] u.2.2)))) (fun u => decide (u.1 ∈ S0)) U fun u hu => by
    have hb := h.bd u hu
    by_cases m : u.1 ∈ S0
    · rw [if_pos (decide_eq_true m)]
      unfold b2i
      split <;> split <;> omega
    · rw [if_neg (by simp [m])]
      have hl : u.2 ∈ (restS U S0).map (·.2) := List.mem_map.mpr ⟨u, List.mem_filter.mpr ⟨hu, by simp [m]⟩, rfl⟩
      have e : Rc ((restS U S0).map (·.2)) B [] u.2.1 ↔ Rc ((restS U S0).map (·.2)) B [] u.2.2 := ⟨fun q => .fwd q hl (by simp), fun q => .bwd q hl (by simp)⟩
      have e2 : decide (¬ Rc ((restS U S0).map (·.2)) B [] u.2.1) = decide (¬ Rc ((restS U S0).map (·.2)) B [] u.2.2) := by
        rw [decide_eq_decide, e]
      rw [e2]
      omega
  unfold outF at h1
  rw [h1] at h2
  omega
theorem Flw.cut (h : Flw U B g f k) {R : Int → Bool} (hB : ∀ b ∈ B, R b = true) (hg : R g = false) (hs : ∀ u ∈ U, ∀ y x, Lk u y x → R y = true → R x = false → canF f u y = false) (hne : ∀ u ∈ U, u.2.1 ≠ u.2.2) :
    ∃ S : List Int, S.Sublist (U.map (·.1)) ∧ S.length = k ∧ ¬ Rc ((restS U S).map (·.2)) B [] g := by
  let X : Swt → Bool := fun u => R u.2.1 != R u.2.2
  have h1 := h.out (fun x => !R x) fun b hb => by simp [hB b hb]
  rw [if_pos (by simp [hg])] at h1
  have h2 := sum_eq (fun u : Swt => f u.1 * (b2i (!R u.2.1) - b2i (!R u.2.2))) X U fun u hu => by
    have hb := h.bd u hu
    have hn := hne u hu
    have q1 := hs u hu u.2.1 u.2.2 (.inl ⟨rfl, rfl⟩)
    have q2 := hs u hu u.2.2 u.2.1 (.inr ⟨rfl, rfl⟩)
    unfold canF at q1 q2
    rw [if_pos rfl] at q1
    rw [if_neg hn] at q2
    show if (R u.2.1 != R u.2.2) = true then _ else _
    cases e : R u.2.1 <;> cases e' : R u.2.2
    · simp [b2i]
    · have := q2 e' e
      simp only [decide_eq_false_iff_not] at this
      simp [b2i]
      omega
    · have := q1 e e'
      simp only [decide_eq_false_iff_not] at this
      simp [b2i]
      omega
    · simp [b2i]
  unfold outF at h1
  rw [h1] at h2
  refine ⟨(U.filter X).map (·.1), List.Sublist.map _ (List.filter_sublist), by rw [List.length_map]; omega, fun hr => ?_⟩
  have key : ∀ x, Rc ((restS U ((U.filter X).map (·.1))).map (·.2)) B [] x → R x = true := by
    have hl : ∀ a b, (a, b) ∈ (restS U ((U.filter X).map (·.1))).map (·.2) → R a = R b := fun a b m => by
      obtain ⟨u, hu, e⟩ := List.mem_map.mp m
      obtain ⟨u1, u2⟩ := List.mem_filter.mp hu
      have : X u = false := by
        cases q : X u with
        | false => rfl
        | true =>
          have : u.1 ∈ (U.filter X).map (·.1) := List.mem_map_of_mem (f := (·.1)) (List.mem_filter.mpr ⟨u1, q⟩)
          rw [decide_eq_true this] at u2
          cases u2
      have e' : u.2 = (a, b) := e
      have : (R u.2.1 != R u.2.2) = false := this
      rw [e'] at this
      simpa using this
    intro x hx
    induction hx with
    | base h1 _ => exact hB _ h1
    | fwd _ hm _ ih => rw [← hl _ _ hm]; exact ih
    | bwd _ hm _ ih => rw [hl _ _ hm]; exact ih
  rw [key g hr] at hg
  cases hg
end
/-! the bars that ways have come to, each with its step -/
abbrev Led := List (Int × Option (Int × Int))
def lOf (K : Led) (x : Int) : Option (Option (Int × Int)) := (K.find? fun p => decide (p.1 = x)).map (·.2)
def keysL (K : Led) : List Int := K.map (·.1)
inductive LedI (U : List Swt) (f : Int → Int) (B : List Int) : Led → Prop
  | start : B.Nodup → LedI U f B (B.map fun b => (b, none))
  | snoc {K : Led} {x y : Int} {u : Swt} : LedI U f B K → x ∉ keysL K → y ∈ keysL K → u ∈ U → Lk u y x → canF f u y = true → LedI U f B (K ++ [(x, some (u.1, y))])
section
variable {U : List Swt} {f : Int → Int} {B : List Int}
theorem lOf_old {K : Led} {x z : Int} {v : Option (Int × Int)} (h : z ∈ keysL K) : lOf (K ++ [(x, v)]) z = lOf K z := by
  unfold lOf
  rw [List.find?_append]
  obtain ⟨p, hp, e⟩ := List.mem_map.mp h
  have : (K.find? fun p => decide (p.1 = z)).isSome = true := List.find?_isSome.mpr ⟨p, hp, decide_eq_true e⟩
  cases q : K.find? fun p => decide (p.1 = z) with
  | none => rw [q] at this; cases this
  | some w => rfl
theorem lOf_new {K : Led} {x : Int} {v : Option (Int × Int)} (h : x ∉ keysL K) : lOf (K ++ [(x, v)]) x = some v := by
  unfold lOf
  rw [List.find?_append]
  have : (K.find? fun p => decide (p.1 = x)) = none := List.find?_eq_none.mpr fun p hp => by
    simp only [decide_eq_true_eq]
    exact fun e => h (e ▸ List.mem_map_of_mem (f := (·.1)) hp)
  rw [this]
  simp
theorem keys_snoc (K : Led) (x : Int) (v : Option (Int × Int)) : keysL (K ++ [(x, v)]) = keysL K ++ [x] := by simp [keysL]
theorem LedI.nd {K : Led} (h : LedI U f B K) : (keysL K).Nodup := by
  induction h with
  | start hn =>
    unfold keysL
    rw [List.map_map]
    simpa [Function.comp_def] using hn
  | snoc _ hx _ _ _ _ ih =>
    rw [keys_snoc, List.nodup_append]
    exact ⟨ih, by simp, fun a ha b hb e => by
      rw [List.mem_singleton.mp hb] at e
      exact hx (e ▸ ha)⟩
theorem LedI.base {K : Led} (h : LedI U f B K) : ∀ b ∈ B, b ∈ keysL K := by
  induction h with
  | start hn =>
    intro b hb
    unfold keysL
    rw [List.map_map]
    simpa [Function.comp_def] using hb
  | snoc _ _ _ _ _ _ ih =>
    intro b hb
    rw [keys_snoc]
    exact List.mem_append_left _ (ih b hb)
/-- the way back, as the loop takes it -/
inductive Bck (K : Led) : Int → List (Int × Int) → Prop
  | nil {x : Int} : lOf K x = some none → Bck K x []
  | step {x s y : Int} {W : List (Int × Int)} : lOf K x = some (some (s, y)) → Bck K y W → Bck K x ((s, y) :: W)
theorem Bck.old {K : Led} {x : Int} {v : Option (Int × Int)} (hc : ∀ z s y, lOf K z = some (some (s, y)) → y ∈ keysL K) {z : Int} {W : List (Int × Int)} (h : Bck K z W) : z ∈ keysL K → Bck (K ++ [(x, v)]) z W := by
  induction h with
  | nil h => exact fun m => .nil ((lOf_old m).trans h)
  | step h _ ih => exact fun m => .step ((lOf_old m).trans h) (ih (hc _ _ _ h))
theorem LedI.near {K : Led} (h : LedI U f B K) : ∀ z s y, lOf K z = some (some (s, y)) → y ∈ keysL K := by
  induction h with
  | start hn =>
    intro z s y e
    unfold lOf at e
    rw [Option.map_eq_some_iff] at e
    obtain ⟨p, hp, e⟩ := e
    have := List.mem_of_find?_eq_some hp
    obtain ⟨b, _, rfl⟩ := List.mem_map.mp this
    cases e
  | @snoc K x y u hK hx hy hu hl hc ih =>
    intro z s w e
    rw [keys_snoc]
    by_cases m : z ∈ keysL K
    · rw [lOf_old m] at e
      exact List.mem_append_left _ (ih z s w e)
    · by_cases q : z = x
      · subst q
        rw [lOf_new hx] at e
        cases e
        exact List.mem_append_left _ hy
      · unfold lOf at e
        rw [Option.map_eq_some_iff] at e
        obtain ⟨p, hp, _⟩ := e
        have h1 := List.mem_of_find?_eq_some hp
        have h2 : p.1 = z := of_decide_eq_true (List.find?_some (p := fun p : Int × Option (Int × Int) => decide (p.1 = z)) hp)
        rcases List.mem_append.mp h1 with h1 | h1
        · exact absurd (h2 ▸ List.mem_map_of_mem (f := (·.1)) h1) m
        · rw [List.mem_singleton.mp h1] at h2
          exact absurd h2.symm q
theorem lab_uniq {u v : Swt} : ∀ {U : List Swt}, (U.map (·.1)).Nodup → u ∈ U → v ∈ U → u.1 = v.1 → u = v
  | [], _, h, _, _ => nomatch h
  | w :: U, nd, hu, hv, e => by
    rw [List.map_cons, List.nodup_cons] at nd
    rcases List.mem_cons.mp hu with e1 | hu1
    · rcases List.mem_cons.mp hv with e2 | hv1
      · rw [e1, e2]
      · exact absurd (show w.1 ∈ U.map (·.1) from List.mem_map.mpr ⟨v, hv1, by rw [← e, e1]⟩) nd.1
    · rcases List.mem_cons.mp hv with e2 | hv1
      · exact absurd (show w.1 ∈ U.map (·.1) from List.mem_map.mpr ⟨u, hu1, by rw [e, e2]⟩) nd.1
      · exact lab_uniq nd.2 hu1 hv1 e
/-- each bar has its way back, by switches between bars that came ahead of it -/
theorem LedI.way {K : Led} (nd : (U.map (·.1)).Nodup) (h : LedI U f B K) : ∀ z ∈ keysL K, ∃ x0 W, x0 ∈ B ∧ Bck K z W ∧ Pth U f x0 z W ∧ (W.map (·.1)).Nodup ∧ ∀ p ∈ W, ∃ u ∈ U, u.1 = p.1 ∧ u.2.1 ∈ keysL K ∧ u.2.2 ∈ keysL K := by
  induction h with
  | start hn =>
    intro z hz
    unfold keysL at hz
    rw [List.map_map] at hz
    have hz' : z ∈ B := by simpa [Function.comp_def] using hz
    refine ⟨z, [], hz', .nil ?_, .nil, List.nodup_nil, fun _ h => nomatch h⟩
    unfold lOf
    have : ((B.map fun b => (b, (none : Option (Int × Int)))).find? fun p => decide (p.1 = z)).isSome = true := List.find?_isSome.mpr ⟨(z, none), List.mem_map.mpr ⟨z, hz', rfl⟩, decide_eq_true rfl⟩
    cases q : (B.map fun b => (b, (none : Option (Int × Int)))).find? fun p => decide (p.1 = z) with
    | none => rw [q] at this; cases this
    | some w =>
      obtain ⟨b, _, rfl⟩ := List.mem_map.mp (List.mem_of_find?_eq_some q)
      rfl
  | @snoc K x y u hK hx hy hu hl hc ih =>
    have hn := hK.near
    intro z hz
    rw [keys_snoc] at hz
    rcases List.mem_append.mp hz with hz | hz
    · obtain ⟨x0, W, h1, h2, h3, h4, h5⟩ := ih z hz
      refine ⟨x0, W, h1, h2.old hn hz, h3, h4, fun p hp => ?_⟩
      obtain ⟨v, q1, q2, q3, q4⟩ := h5 p hp
      rw [keys_snoc]
      exact ⟨v, q1, q2, List.mem_append_left _ q3, List.mem_append_left _ q4⟩
    · rw [List.mem_singleton.mp hz]
      obtain ⟨x0, W, h1, h2, h3, h4, h5⟩ := ih y hy
      refine ⟨x0, (u.1, y) :: W, h1, .step (lOf_new hx) (h2.old hn hy), .step hu hl hc h3, ?_, fun p hp => ?_⟩
      · rw [List.map_cons, List.nodup_cons]
        refine ⟨fun m => ?_, h4⟩
        obtain ⟨p, hp, e⟩ := List.mem_map.mp m
        obtain ⟨v, q1, q2, q3, q4⟩ := h5 p hp
        have := lab_uniq nd q1 hu (q2.trans e)
        subst this
        rcases hl with ⟨_, rfl⟩ | ⟨_, rfl⟩
        · exact hx q4
        · exact hx q3
      · rw [keys_snoc]
        rcases List.mem_cons.mp hp with rfl | hp
        · refine ⟨u, hu, rfl, ?_⟩
          rcases hl with ⟨e1, e2⟩ | ⟨e1, e2⟩
          · rw [e1, e2]
            exact ⟨List.mem_append_left _ hy, List.mem_append_right _ (List.mem_singleton.mpr rfl)⟩
          · rw [e1, e2]
            exact ⟨List.mem_append_right _ (List.mem_singleton.mpr rfl), List.mem_append_left _ hy⟩
        · obtain ⟨v, q1, q2, q3, q4⟩ := h5 p hp
          exact ⟨v, q1, q2, List.mem_append_left _ q3, List.mem_append_left _ q4⟩
end
end K22
namespace K22
open PySem L2 Mi

/-! a further way -/
theorem eq_int (i j : Int) : cmpV .Eq (.d (.int i)) (.d (.int j)) = some (decide (i = j)) := by
  have e : PyData.eqv (.int i) (.int j) = decide (i = j) := by
    rw [Bool.eq_iff_iff]
    simp [PyData.eqv]
  simp only [cmpV, dat_d, ok_int, e, Bool.and_self, if_true]
def fl (FL : List Int) (s : Int) : Int := if s < 0 then 0 else FL.getD s.toNat 0
theorem ix_fl {FL : List Int} {s : Int} (h0 : 0 ≤ s) (h1 : s < (FL.length : Int)) : ixV (.own (intV FL)) (.d (.int s)) = some (.d (.int (fl FL s))) := by
  have h : atI (intV FL) s = some (.d (.int (fl FL s))) := by
    unfold atI ixN
    rw [intV_length, if_pos h0, if_pos h1]
    show (intV FL)[s.toNat]? = _
    unfold intV fl
    rw [if_neg (by omega), List.getElem?_map, List.getElem?_eq_getElem (show s.toNat < FL.length by omega), List.getD_eq_getElem?_getD, List.getElem?_eq_getElem (show s.toNat < FL.length by omega)]
    rfl
  simp [ixV, h]
theorem sw_labels : ∀ (sw : List PyData) (k : Nat), (places ((sw.zipIdx k).filterMap swOf)).Pairwise (fun a b => a < b) ∧ ∀ s ∈ places ((sw.zipIdx k).filterMap swOf), (k : Int) ≤ s
  | [], k => ⟨List.Pairwise.nil, fun s h => (nomatch h)⟩
  | x :: sw, k => by
    obtain ⟨h1, h2⟩ := sw_labels sw (k + 1)
    rw [List.zipIdx_cons]
    cases hx : swOf (x, k) with
    | none =>
      rw [List.filterMap_cons_none hx]
      exact ⟨h1, fun s hs => by have := h2 s hs; omega⟩
    | some u =>
      rw [List.filterMap_cons_some hx]
      have hu : u.1 = (k : Int) := by
        unfold swOf at hx
        split at hx
        · cases hx
          rfl
        · cases hx
      refine ⟨List.pairwise_cons.mpr ⟨fun s hs => ?_, h1⟩, fun s hs => ?_⟩
      · have := h2 s hs
        show u.1 < s
        omega
      · rcases List.mem_cons.mp (show s ∈ u.1 :: places ((sw.zipIdx (k + 1)).filterMap swOf) from hs) with e | hs'
        · omega
        · have := h2 s hs'
          omega
theorem swU_up (sw : List PyData) : (places (swU sw)).Pairwise fun a b => a < b := (sw_labels sw 0).1
theorem swU_nd (sw : List PyData) : ((swU sw).map (·.1)).Nodup := (swU_up sw).imp fun {a b} h => by omega
theorem swU_lt {sw : List PyData} {u : Sw} (hu : u ∈ swU sw) : 0 ≤ u.1 ∧ u.1 < (sw.length : Int) := by
  obtain ⟨⟨y, i⟩, hp, he⟩ := List.mem_filterMap.mp hu
  have hy : sw[i]? = some y := List.mem_zipIdx_iff_getElem?.mp hp
  have hi : i < sw.length := (List.getElem?_eq_some_iff.mp hy).1
  unfold swOf at he
  split at he
  · cases he
    show 0 ≤ (i : Int) ∧ (i : Int) < _
    omega
  · cases he
def IsCan (G : FnS) : Prop := G.n = 4 ∧ G.io = [1] ∧ ∀ (n : Int) (sw so cu : List PyData) (u : Sw) (FL : List Int) (y : Int), NetD n sw so cu → u ∈ swU sw → FL.length = sw.length → G.sem [.d (netV n sw so cu), .own (intV FL), .d (.int u.1), .d (.int y)] = some (.d (.bool (canF (fl FL) u y)), [.own (intV FL)])
theorem can_ok (Φ : Phi) : IsCan (semOf Φ d30) := by
  refine ⟨rfl, rfl, fun n sw so cu u FL y hN hu hl => ?_⟩
  obtain ⟨k, d, hk⟩ := (swU_ok hN).at_ u hu
  obtain ⟨h0, h1⟩ := swU_lt hu
  have x1 : ixV (.d (.tuple sw)) (.d (.int u.1)) = some (.d (.tuple [.int u.2.1, .int u.2.2, .str k, d])) := by simp only [ixV, hk, Option.map_some]
  have x2 : ixV (.d (.tuple [.int u.2.1, .int u.2.2, .str k, d])) (.d (.int 0)) = some (.d (.int u.2.1)) := by simp [ixV, atI, ixN]
  have x3 := ix_fl (FL := FL) h0 (by omega)
  let e0 : SEnv := [some (.d (netV n sw so cu)), some (.own (intV FL)), some (.d (.int u.1)), some (.d (.int y))]
  refine run_rt (e := e0) rfl ?_ rfl
  show exS Φ b30 e0 = _
  refine seq_rt (ret_e ?_)
  have c1 : ∀ i j : Int, cmpV .Lt (.d (.int i)) (.d (.int j)) = some (decide (i < j)) := fun _ _ => rfl
  have c2 : ∀ i j : Int, cmpV .Gt (.d (.int i)) (.d (.int j)) = some (decide (j < i)) := fun _ _ => rfl
  by_cases h : u.2.1 = y
  · have c0 : cmpV .Eq (.d (.int u.2.1)) (.d (.int y)) = some true := by rw [eq_int, decide_eq_true h]
    have c3 : canF (fl FL) u y = decide (fl FL u.1 < 1) := if_pos h
    rw [c3]
    simp [evE, evT, opd, look, getv, e0, net2, x1, x2, x3, c0, c1, c2]
  · have c0 : cmpV .Eq (.d (.int u.2.1)) (.d (.int y)) = some false := by rw [eq_int, decide_eq_false h]
    have c3 : canF (fl FL) u y = decide (-1 < fl FL u.1) := if_neg h
    rw [c3]
    simp [evE, evT, opd, look, getv, e0, net2, x1, x2, x3, c0, c1, c2]
theorem call_can {G : FnS} (hG : IsCan G) {n : Int} {sw so cu : List PyData} (hN : NetD n sw so cu) {u : Sw} (hu : u ∈ swU sw) {FL : List Int} (hl : FL.length = sw.length) (y : Int) {env : SEnv} (h2 : getv env 2 = some (.own (intV FL))) :
    callV G [.val (.d (netV n sw so cu)), .slot 2, .val (.d (.int u.1)), .val (.d (.int y))] env = some (.d (.bool (canF (fl FL) u y)), env) := by
  obtain ⟨g1, g2, g3⟩ := hG
  have g4 := g3 n sw so cu u FL y hN hu hl
  have e : (env.set 2 none).set 2 (some (.own (intV FL))) = env := by rw [List.set_set]; exact set_same h2
  simp [callV, g1, g2, prepA, h2, g4, putB, dat_d, e]
/-! the dict of the bars that are come to -/
def opV : Option (Int × Int) → PyData
  | none => .none
  | some p => pr p
def ledV (K : Led) : AV := .odk (K.map fun p => .inl p.1) (K.map fun p => .d (opV p.2))
theorem led_find (K : Led) (x : Int) : ofind ((K.map fun p => (Sum.inl p.1 : Key)).zip (K.map fun p => AV.d (opV p.2))) (.inl x) = (lOf K x).map fun o => .d (opV o) := by
  induction K with
  | nil => rfl
  | cons p K ih =>
    unfold ofind lOf at ih ⊢
    rw [List.map_cons, List.map_cons, List.zip_cons_cons, List.find?_cons, List.find?_cons]
    by_cases h : p.1 = x
    · simp [h]
    · have h' : ¬ ((Sum.inl p.1 : Key) = .inl x) := fun e => h (Sum.inl.inj e)
      simp only [h', h, decide_false]
      exact ih
theorem lOf_isSome {K : Led} {x : Int} : (lOf K x).isSome = decide (x ∈ keysL K) := by
  unfold lOf keysL
  rw [Option.isSome_map, Bool.eq_iff_iff, List.find?_isSome, decide_eq_true_iff, List.mem_map]
  constructor
  · rintro ⟨p, hp, h⟩
    exact ⟨p, hp, of_decide_eq_true h⟩
  · rintro ⟨p, hp, h⟩
    exact ⟨p, hp, decide_eq_true h⟩
theorem inV_led (K : Led) (x : Int) (g : Bool) : inVal g (.d (.int x)) (ledV K) = some (if g then !decide (x ∈ keysL K) else decide (x ∈ keysL K)) := by
  have h := led_find K x
  have h2 : (((lOf K x).map fun o => AV.d (opV o)).isSome) = decide (x ∈ keysL K) := by
    rw [Option.isSome_map]
    exact lOf_isSome
  have e0 : (ledV K).at? (.inl 0) = some (ofind ((K.map fun p => (Sum.inl p.1 : Key)).zip (K.map fun p => AV.d (opV p.2))) (.inl 0)) := rfl
  have e1 : (ledV K).at? (.inl x) = some ((lOf K x).map fun o => .d (opV o)) := by rw [← h]; rfl
  have e2 : keyOf? (AV.dat (.d (.int x))) = some (.inl x) := by simp [AV.dat, keyOf?]
  simp only [inVal, e0, e2, Option.bind_some, e1, Option.map_some, h2]
theorem ix_led (K : Led) (x : Int) : ixV (ledV K) (.d (.int x)) = (lOf K x).map fun o => .d (opV o) := by
  have h := led_find K x
  have e1 : (ledV K).at? (.inl x) = some ((lOf K x).map fun o => .d (opV o)) := by rw [← h]; rfl
  have e2 : keyOf? (.int x) = some (.inl x) := rfl
  show (match (keyOf? (PyData.int x)).bind (ledV K).at? with
    | some (some (.d y)) => some (AV.d y)
    | _ => none) = _
  rw [e2, Option.bind_some, e1]
  cases lOf K x <;> rfl
theorem led_put (K : Led) (x : Int) (p : Int × Int) (h : x ∉ keysL K) (hl : K.length ≤ 1000) : setIx (ledV K) (.d (.int x)) (.d (pr p)) = some (ledV (K ++ [(x, some p)])) := by
  have h1 : ((K.map fun p => (Sum.inl p.1 : Key)).any fun j => decide (j = .inl x)) = false := by
    rw [List.any_eq_false]
    intro j hj hd
    obtain ⟨q, hq, rfl⟩ := List.mem_map.mp hj
    exact h (List.mem_map.mpr ⟨q, hq, Sum.inl.inj (of_decide_eq_true hd)⟩)
  have e2 : keyOf? (.int x) = some (.inl x) := rfl
  have f1 : fitL ((K.map fun p => (Sum.inl p.1 : Key)).length + 1) = true := by
    unfold fitL LIM
    rw [List.length_map]
    exact decide_eq_true (by omega)
  simp only [ledV, setIx, e2, f1, if_true, dat_d, oput, h1]
  simp [opV]
def FW (n : Int) (sw so cu : List PyData) (N : List (List (Int × Int))) (FL : List Int) (g : Int) (K : Led) (wv : AV) (L bar : Option AV) : SEnv := [some (.d (netV n sw so cu)), some (.d (nearV N)), some (.own (intV FL)), some (.d (.int g)), some (ledV K), some wv, L, bar, none, none, none, none]
def fwB : S := (.seq (.ife (.and (.cmp .NotIn (.ref 11) (.ref 4)) (.call 30 (.cons (.var 0) (.cons (.ref 2) (.cons (.var 10) (.cons (.var 7) .nil)))))) (.seq (.sub 4 (.var 11) (.tup (.cons (.var 10) (.cons (.var 7) .nil)))) (.seq (.app 6 (.var 11)) .skip)) .skip) (.seq (.fgt [10, 11]) .skip))
def fwO : S := (.seq (.forr (.tup (.cons (.ref 10) (.cons (.ref 11) .nil))) (.cons (.ix (.ref 1) (.ref 7)) .nil) fwB) (.seq (.fgt [7, 10, 11]) .skip))
def fwW : S := (.seq (.asg (.ref 6) (.lst .nil)) (.seq (.forr (.ref 7) (.cons (.var 5) .nil) fwO) (.seq (.asg (.ref 5) (.mv 6)) (.seq (.fgt [6, 7, 10, 11]) .skip))))
section
variable {Φ : Phi} {C : FnS} {n : Int} {sw so cu : List PyData} {N : List (List (Int × Int))} {FL : List Int} {g : Int}
theorem fw_turn (h21 : Φ[30]? = some C) (hC : IsCan C) (hN : NetD n sw so cu) (hl : FL.length = sw.length) {u : Sw} (hu : u ∈ swU sw) {y z : Int} {K : Led} {L : List Int} {wv : AV} (hK : K.length ≤ 1000) (hL : L.length ≤ 1000) :
    (do let e' ← asgT (.tup (.cons (.ref 10) (.cons (.ref 11) .nil))) (.d (pr (u.1, z))) (FW n sw so cu N FL g K wv (some (.own (intV L))) (some (.d (.int y)))); exS Φ fwB e') =
      some (.nx, if z ∉ keysL K ∧ canF (fl FL) u y = true then FW n sw so cu N FL g (K ++ [(z, some (u.1, y))]) wv (some (.own (intV (L ++ [z])))) (some (.d (.int y))) else FW n sw so cu N FL g K wv (some (.own (intV L))) (some (.d (.int y)))) := by
  let e1 : Led → List Int → SEnv := fun K L => [some (.d (netV n sw so cu)), some (.d (nearV N)), some (.own (intV FL)), some (.d (.int g)), some (ledV K), some wv, some (.own (intV L)), some (.d (.int y)), none, none, some (.d (.int u.1)), some (.d (.int z))]
  have a0 : asgT (.tup (.cons (.ref 10) (.cons (.ref 11) .nil))) (.d (pr (u.1, z))) (FW n sw so cu N FL g K wv (some (.own (intV L))) (some (.d (.int y)))) = some (e1 K L) := by simp [asgT, asgT.asgTs, FW, pr, e1]
  rw [a0]
  simp only [Option.bind_eq_bind, Option.bind_some]
  have hT := evT_notin (Φ := Φ) (env := e1 K L) (i := 11) (j := 4) (t := .d (.int z)) (u := ledV K) rfl rfl (inV_led K z true)
  have hc := call_can hC hN hu hl y (env := e1 K L) rfl
  have hCt : evT Φ (.call 30 (.cons (.var 0) (.cons (.ref 2) (.cons (.var 10) (.cons (.var 7) .nil))))) (e1 K L) = some (canF (fl FL) u y, e1 K L) := by
    refine evT_call ?_
    have v0 := ev_var (Φ := Φ) (env := e1 K L) (i := 0) (x := netV n sw so cu) rfl
    have v10 := ev_var (Φ := Φ) (env := e1 K L) (i := 10) (x := .int u.1) rfl
    have v7 := ev_var (Φ := Φ) (env := e1 K L) (i := 7) (x := .int y) rfl
    have g2 : getv (e1 K L) 2 = some (.own (intV FL)) := rfl
    simp only [evE, evL, h21, Option.bind_eq_bind, Option.bind_some]
    simp only [opd, v0, v10, v7, g2, Option.map_some, Option.bind_some, Option.isSome_some, if_true]
    exact hc
  unfold fwB
  refine (seq_nx (e1 := if z ∉ keysL K ∧ canF (fl FL) u y = true then e1 (K ++ [(z, some (u.1, y))]) (L ++ [z]) else e1 K L) ?_).trans ?_
  · by_cases h1 : z ∈ keysL K
    · rw [if_neg (fun h => h.1 h1)]
      refine ife_skip ?_
      rw [evT, hT]
      simp [h1]
    · by_cases h2 : canF (fl FL) u y = true
      · rw [if_pos ⟨h1, h2⟩]
        rw [ife_t (e1 := e1 K L) (by
          rw [evT, hT]
          simp only [h1, if_true, decide_false, Bool.not_false, Option.bind_eq_bind, Option.bind_some]
          rw [hCt, h2])]
        refine (seq_nx (e1 := e1 (K ++ [(z, some (u.1, y))]) L) ?_).trans ?_
        · have hp := led_put K z (u.1, y) h1 hK
          have e2 : mkTup [.d (.int u.1), .d (.int y)] = .d (pr (u.1, y)) := rfl
          have f2 : fitL 2 = true := by decide
          simp [exS, evE, evA, getv, e1, dat_d, f2, e2, hp]
        · have f1 : fitL (L.length + 1) = true := by
            unfold fitL LIM
            exact decide_eq_true (by omega)
          simp [exS, evE, getv, isOwn, intV_length, f1, dat_d, intV_append, e1]
          simp [intV]
      · rw [if_neg (fun h => h2 h.2)]
        refine ife_skip ?_
        rw [evT, hT]
        simp only [h1, if_true, decide_false, Bool.not_false, Option.bind_eq_bind, Option.bind_some]
        rw [hCt]
        simpa using h2
  · split <;> simp [exS, wipeE, FW, e1]
end
end K22
namespace K22
open PySem L2 Mi

/-! the wave of a further way -/
/-- each bar beyond that can be gone to is there -/
def Clo (U : List Sw) (f : Int → Int) (K : Led) (y : Int) : Prop := ∀ u ∈ U, ∀ z, Lk u y z → canF f u y = true → z ∈ keysL K
structure WX (U : List Sw) (f : Int → Int) (B : List Int) (n : Int) (K0 K : Led) (L : List Int) : Prop where
  led : LedI U f B K
  eq : keysL K = keysL K0 ++ L
  bar : ∀ x ∈ keysL K, 0 ≤ x ∧ x < n
section
variable {Φ : Phi} {C : FnS} {n : Int} {sw so cu : List PyData} {N : List (List (Int × Int))} {FL : List Int} {g : Int} {B : List Int}
theorem WX.len (hn : n ≤ 60) {U : List Sw} {f : Int → Int} {K0 K : Led} {L : List Int} (h : WX U f B n K0 K L) : K.length ≤ 60 ∧ L.length ≤ K.length := by
  have h1 := nodup_len 60 (keysL K) h.led.nd fun x hx => by have := h.bar x hx; omega
  have h2 : (keysL K).length = K.length := by simp [keysL]
  have h3 : (keysL K).length = (keysL K0).length + L.length := by rw [h.eq, List.length_append]
  omega
theorem fw_for1 (h21 : Φ[30]? = some C) (hC : IsCan C) (hN : NetD n sw so cu) (hl : FL.length = sw.length) {y : Int} {K0 : Led} {wv : AV} : ∀ (l : List (Int × Int)) (K : Led) (L : List Int), (∀ p ∈ l, ∃ u ∈ swU sw, u.1 = p.1 ∧ Lk u y p.2) → y ∈ keysL K → WX (swU sw) (fl FL) B n K0 K L →
    ∃ K' L', forI (fun x e => do let e' ← asgT (.tup (.cons (.ref 10) (.cons (.ref 11) .nil))) (.d x) e; exS Φ fwB e') (l.map pr) (FW n sw so cu N FL g K wv (some (.own (intV L))) (some (.d (.int y)))) = some (.nx, FW n sw so cu N FL g K' wv (some (.own (intV L'))) (some (.d (.int y)))) ∧
      WX (swU sw) (fl FL) B n K0 K' L' ∧ (∀ x ∈ keysL K, x ∈ keysL K') ∧ ∀ p ∈ l, ∀ u ∈ swU sw, u.1 = p.1 → canF (fl FL) u y = true → p.2 ∈ keysL K'
  | [], K, L, _, _, h => ⟨K, L, rfl, h, fun _ m => m, fun _ m => nomatch m⟩
  | p :: l, K, L, hp, hy, h => by
    obtain ⟨u, hu, hu1, hu2⟩ := hp p List.mem_cons_self
    have hlen := h.len hN.n2
    have hin := (swU_ok hN).in_ u hu
    have ht := fw_turn (Φ := Φ) (N := N) (g := g) (y := y) (z := p.2) (K := K) (L := L) (wv := wv) h21 hC hN hl hu (by omega) (by omega)
    rw [hu1] at ht
    have hp' : ∀ q ∈ l, ∃ u ∈ swU sw, u.1 = q.1 ∧ Lk u y q.2 := fun q hq => hp q (List.mem_cons_of_mem _ hq)
    have key : ∀ v ∈ swU sw, v.1 = p.1 → v = u := fun v hv e => lab_uniq (swU_nd sw) hv hu (e.trans hu1.symm)
    rw [List.map_cons, forI]
    simp only [Option.bind_eq_bind] at ht ⊢
    rw [show (pr p) = pr (p.1, p.2) from rfl, ht]
    simp only [Option.bind_some]
    by_cases hc : p.2 ∉ keysL K ∧ canF (fl FL) u y = true
    · rw [if_pos hc]
      have hn2 : 0 ≤ p.2 ∧ p.2 < n := by
        rcases hu2 with ⟨_, e⟩ | ⟨_, e⟩
        · rw [← e]; exact hin.2
        · rw [← e]; exact hin.1
      have hW : WX (swU sw) (fl FL) B n K0 (K ++ [(p.2, some (p.1, y))]) (L ++ [p.2]) := by
        refine ⟨?_, by rw [keys_snoc, h.eq, List.append_assoc], fun x hx => ?_⟩
        · have := LedI.snoc h.led hc.1 hy hu hu2 hc.2
          rw [hu1] at this
          exact this
        · rw [keys_snoc] at hx
          rcases List.mem_append.mp hx with hx | hx
          · exact h.bar x hx
          · rw [List.mem_singleton.mp hx]; exact hn2
      obtain ⟨K', L', h1, h2, h3, h4⟩ := fw_for1 h21 hC hN hl l (K ++ [(p.2, some (p.1, y))]) (L ++ [p.2]) hp' (by rw [keys_snoc]; exact List.mem_append_left _ hy) hW
      simp only [Option.bind_eq_bind] at h1
      refine ⟨K', L', h1, h2, fun x hx => h3 x (by rw [keys_snoc]; exact List.mem_append_left _ hx), fun q hq v hv e ec => ?_⟩
      rcases List.mem_cons.mp hq with rfl | hq
      · exact h3 _ (by rw [keys_snoc]; exact List.mem_append_right _ (List.mem_singleton.mpr rfl))
      · exact h4 q hq v hv e ec
    · rw [if_neg hc]
      obtain ⟨K', L', h1, h2, h3, h4⟩ := fw_for1 h21 hC hN hl l K L hp' hy h
      simp only [Option.bind_eq_bind] at h1
      refine ⟨K', L', h1, h2, h3, fun q hq v hv e ec => ?_⟩
      rcases List.mem_cons.mp hq with rfl | hq
      · rw [key v hv e] at ec
        exact h3 _ (Classical.byContradiction fun hk => hc ⟨hk, ec⟩)
      · exact h4 q hq v hv e ec
theorem fw_for2 (h21 : Φ[30]? = some C) (hC : IsCan C) (hN : NetD n sw so cu) (hNI : NI n N (swU sw)) (hl : FL.length = sw.length) {K0 : Led} {wv : AV} : ∀ (Q : List Int) (K : Led) (L : List Int), (∀ y ∈ Q, y ∈ keysL K) → WX (swU sw) (fl FL) B n K0 K L →
    ∃ K' L', forI (fun x e => do let e' ← asgT (.ref 7) (.d x) e; exS Φ fwO e') (Q.map .int) (FW n sw so cu N FL g K wv (some (.own (intV L))) none) = some (.nx, FW n sw so cu N FL g K' wv (some (.own (intV L'))) none) ∧
      WX (swU sw) (fl FL) B n K0 K' L' ∧ (∀ x ∈ keysL K, x ∈ keysL K') ∧ ∀ y ∈ Q, Clo (swU sw) (fl FL) K' y
  | [], K, L, _, h => ⟨K, L, rfl, h, fun _ m => m, fun _ m => nomatch m⟩
  | y :: Q, K, L, hQ, h => by
    have hy := hQ y List.mem_cons_self
    have hin := h.bar y hy
    have hlN := hNI.len
    obtain ⟨K1, L1, h1, h2, h3, h4⟩ := fw_for1 (Φ := Φ) (N := N) (g := g) (wv := wv) (K0 := K0) h21 hC hN hl (nb N y) K L (fun p hp => by
      obtain ⟨u, hu, e, hh⟩ := hNI.from_ y hin.1 p hp
      exact ⟨u, hu, e, hh⟩) hy h
    have hx := near_at (N := N) hin.1 (by omega)
    have ht : (do let e' ← asgT (.ref 7) (.d (.int y)) (FW n sw so cu N FL g K wv (some (.own (intV L))) none); exS Φ fwO e') = some (.nx, FW n sw so cu N FL g K1 wv (some (.own (intV L1))) none) := by
      have a0 : asgT (.ref 7) (.d (.int y)) (FW n sw so cu N FL g K wv (some (.own (intV L))) none) = some (FW n sw so cu N FL g K wv (some (.own (intV L))) (some (.d (.int y)))) := by simp [asgT, FW]
      rw [a0]
      simp only [Option.bind_eq_bind, Option.bind_some]
      unfold fwO
      refine (seq_nx (e1 := FW n sw so cu N FL g K1 wv (some (.own (intV L1))) (some (.d (.int y)))) ?_).trans (by simp [exS, wipeE, FW])
      have hI : evI Φ (.cons (.ix (.ref 1) (.ref 7)) .nil) (FW n sw so cu N FL g K wv (some (.own (intV L))) (some (.d (.int y)))) = some ((nb N y).map pr, FW n sw so cu N FL g K wv (some (.own (intV L))) (some (.d (.int y))), none) := by
        simp [evI, evE, opd, look, getv, FW, hx, AV.seq?]
      rw [exS, hI]
      simp only [heldOk, Option.bind_eq_bind, Option.bind_some, if_true]
      simp only [Option.bind_eq_bind] at h1
      rw [h1]
      rfl
    obtain ⟨K', L', g1, g2, g3, g4⟩ := fw_for2 h21 hC hN hNI hl Q K1 L1 (fun x hx => h3 x (hQ x (List.mem_cons_of_mem _ hx))) h2
    refine ⟨K', L', ?_, g2, fun x hx => g3 x (h3 x hx), fun x hx => ?_⟩
    · rw [List.map_cons, forI]
      simp only [ht, Option.bind_eq_bind, Option.bind_some]
      simp only [Option.bind_eq_bind] at g1
      exact g1
    · rcases List.mem_cons.mp hx with rfl | hx
      · intro u hu z hlk hc
        refine g3 z ?_
        obtain ⟨t1, t2⟩ := hNI.to_ u hu
        rcases hlk with ⟨e1, e2⟩ | ⟨e1, e2⟩
        · rw [e1, e2] at t1
          exact h4 _ t1 u hu rfl hc
        · rw [e1, e2] at t2
          exact h4 _ t2 u hu rfl hc
      · exact g4 x hx
def fwC : E := (.and (.cmp .NotEq (.ref 5) (.lst .nil)) (.cmp .NotIn (.ref 3) (.ref 4)))
theorem fw_cond {K : Led} {S : List Int} {wv : AV} (hw : wv.dat = intL S) : evT Φ fwC (FW n sw so cu N FL g K wv none none) = some (!S.isEmpty && !decide (g ∈ keysL K), FW n sw so cu N FL g K wv none none) := by
  have h1 : evT Φ (.cmp .NotEq (.ref 5) (.lst .nil)) (FW n sw so cu N FL g K wv none none) = some (!S.isEmpty, FW n sw so cu N FL g K wv none none) := evT_ne rfl hw
  have h2 := evT_notin (Φ := Φ) (env := FW n sw so cu N FL g K wv none none) (i := 3) (j := 4) (t := .d (.int g)) (u := ledV K) rfl rfl (inV_led K g true)
  unfold fwC
  rw [evT, h1]
  simp only [Option.bind_eq_bind, Option.bind_some]
  cases S.isEmpty
  · simpa using h2
  · simp
theorem fw_loop (h21 : Φ[30]? = some C) (hC : IsCan C) (hN : NetD n sw so cu) (hNI : NI n N (swU sw)) (hl : FL.length = sw.length) : ∀ (k : Nat) (K : Led) (S : List Int) (wv : AV), wv.dat = intL S → 2 * (60 - K.length) + (if S = [] then 0 else 1) ≤ k → (∀ y ∈ S, y ∈ keysL K) → WX (swU sw) (fl FL) B n K K [] → (∀ x ∈ keysL K, x ∉ S → Clo (swU sw) (fl FL) K x) →
    ∃ K' wv', whileI (evT Φ fwC) (exS Φ fwW) (FW n sw so cu N FL g K wv none none) = some (.nx, FW n sw so cu N FL g K' wv' none none) ∧ LedI (swU sw) (fl FL) B K' ∧ K'.length ≤ 60 ∧ (g ∉ keysL K' → ∀ x ∈ keysL K', Clo (swU sw) (fl FL) K' x) := by
  intro k
  induction k with
  | zero =>
    intro K S wv hw hk _ h hc
    have : S = [] := by
      by_cases e : S = []
      · exact e
      · rw [if_neg e] at hk
        omega
    subst this
    exact ⟨K, wv, while_f (by rw [fw_cond hw]; rfl), h.led, (h.len hN.n2).1, fun _ x hx => hc x hx (fun m => nomatch m)⟩
  | succ k ih =>
    intro K S wv hw hk hS h hc
    by_cases e : S = []
    · subst e
      exact ⟨K, wv, while_f (by rw [fw_cond hw]; rfl), h.led, (h.len hN.n2).1, fun _ x hx => hc x hx (fun m => nomatch m)⟩
    by_cases eg : g ∈ keysL K
    · exact ⟨K, wv, while_f (by rw [fw_cond hw]; simp [eg]), h.led, (h.len hN.n2).1, fun ng => absurd eg ng⟩
    · rw [if_neg e] at hk
      obtain ⟨K', L, h1, h2, h3, h4⟩ := fw_for2 (Φ := Φ) (N := N) (g := g) (wv := .d (intL S)) (K0 := K) h21 hC hN hNI hl S K [] hS h
      have hst : exS Φ fwW (FW n sw so cu N FL g K wv none none) = some (.nx, FW n sw so cu N FL g K' (.own (intV L)) none none) := by
        unfold fwW
        refine (seq_nx (e1 := FW n sw so cu N FL g K wv (some (.own (intV []))) none) (by simp [exS, evE, evA, fitL, LIM, asgT, FW, intV])).trans ?_
        refine (seq_nx (e1 := FW n sw so cu N FL g K' (.d (intL S)) (some (.own (intV L))) none) ?_).trans ?_
        · have hI : evI Φ (.cons (.var 5) .nil) (FW n sw so cu N FL g K wv (some (.own (intV []))) none) = some (S.map .int, FW n sw so cu N FL g K (.d (intL S)) (some (.own (intV []))) none, none) := by
            simp [evI, evE, getv, hw, FW, AV.seq?, intL]
          rw [exS, hI]
          simp only [heldOk, Option.bind_eq_bind, Option.bind_some, if_true]
          simp only [Option.bind_eq_bind] at h1
          rw [h1]
          rfl
        · simp [exS, evE, getv, FW, asgT, wipeE]
      have hne : S.isEmpty = false := by
        cases S with
        | nil => exact absurd rfl e
        | cons a b => rfl
      rw [while_t (e1 := FW n sw so cu N FL g K wv none none) (by rw [fw_cond hw, hne]; simp [eg]) hst]
      have hl2 := h2.len hN.n2
      have hKL : K'.length = K.length + L.length := by
        have q1 : (keysL K').length = K'.length := by simp [keysL]
        have q2 : (keysL K).length = K.length := by simp [keysL]
        have q3 : (keysL K').length = (keysL K).length + L.length := by rw [h2.eq, List.length_append]
        omega
      refine ih K' L (.own (intV L)) (dat_intV L) ?_ (fun y hy => by rw [h2.eq]; exact List.mem_append_right _ hy) ⟨h2.led, by simp, h2.bar⟩ fun x hx hxL => ?_
      · by_cases eL : L = []
        · rw [if_pos eL]
          omega
        · rw [if_neg eL]
          have : 0 < L.length := List.length_pos_iff.mpr eL
          omega
      · have hxK : x ∈ keysL K := by
          rw [h2.eq] at hx
          exact (List.mem_append.mp hx).resolve_right hxL
        by_cases hxS : x ∈ S
        · exact h4 x hxS
        · exact fun u hu z hlk hcc => h3 z (hc x hxK hxS u hu z hlk hcc)
end
end K22
namespace K22
open PySem L2 Mi

/-! the way back, a further way -/
def wayV (W : List (Int × Int)) : List AV := W.map fun p => .d (pr p)
def BW (n : Int) (sw so cu : List PyData) (N : List (List (Int × Int))) (FL : List Int) (g : Int) (K : Led) (wv : AV) (F : List (Int × Int)) (here : Int) : SEnv := [some (.d (netV n sw so cu)), some (.d (nearV N)), some (.own (intV FL)), some (.d (.int g)), some (ledV K), some wv, none, none, some (.own (wayV F)), some (.d (.int here)), none, none]
def bwC : E := (.cmp .IsNot (.ix (.ref 4) (.ref 9)) (.lit .none))
def bwB : S := (.seq (.app 8 (.ix (.ref 4) (.ref 9))) (.seq (.asg (.ref 9) (.ix (.ix (.ref 4) (.ref 9)) (.lit (.int 1)))) .skip))
section
variable {Φ : Phi} {n : Int} {sw so cu : List PyData} {N : List (List (Int × Int))} {FL : List Int} {g : Int}
theorem bw_cond {K : Led} {wv : AV} {F : List (Int × Int)} {x : Int} {o : Option (Int × Int)} (h : lOf K x = some o) : evT Φ bwC (BW n sw so cu N FL g K wv F x) = some (o.isSome, BW n sw so cu N FL g K wv F x) := by
  have h1 : ixV (ledV K) (.d (.int x)) = some (.d (opV o)) := by rw [ix_led, h]; rfl
  have h2 : cmpV .IsNot (.d (opV o)) (.d .none) = some o.isSome := by
    cases o <;> simp [cmpV, dat_d, isNoneD, opV, pr]
  unfold bwC
  simp [evT, evE, opd, look, getv, BW, h1, h2]
theorem back_loop {K : Led} {wv : AV} {x : Int} {W : List (Int × Int)} (h : Bck K x W) : ∀ F : List (Int × Int), F.length + W.length ≤ 1000 → ∃ x', whileI (evT Φ bwC) (exS Φ bwB) (BW n sw so cu N FL g K wv F x) = some (.nx, BW n sw so cu N FL g K wv (F ++ W) x') := by
  induction h with
  | @nil z h =>
    intro F _
    refine ⟨z, ?_⟩
    rw [List.append_nil]
    exact while_f (bw_cond h)
  | @step x s y W h _ ih =>
    intro F hF
    rw [List.length_cons] at hF
    obtain ⟨x', h3⟩ := ih (F ++ [(s, y)]) (by rw [List.length_append, List.length_singleton]; omega)
    refine ⟨x', ?_⟩
    have h1 : ixV (ledV K) (.d (.int x)) = some (.d (pr (s, y))) := by rw [ix_led, h]; rfl
    have h2 : ixV (.d (pr (s, y))) (.d (.int 1)) = some (.d (.int y)) := by simp [ixV, pr, atI, ixN]
    have f1 : fitL ((wayV F).length + 1) = true := by
      unfold fitL LIM wayV
      rw [List.length_map]
      exact decide_eq_true (by omega)
    have hst : exS Φ bwB (BW n sw so cu N FL g K wv F x) = some (.nx, BW n sw so cu N FL g K wv (F ++ [(s, y)]) y) := by
      unfold bwB
      refine (seq_nx (e1 := BW n sw so cu N FL g K wv (F ++ [(s, y)]) x) ?_).trans ?_
      · simp [exS, evE, opd, look, getv, BW, isOwn, h1, f1]
        simp [wayV]
      · simp [exS, evE, opd, look, getv, BW, h1, h2, asgT]
    rw [while_t (bw_cond h) hst, h3, List.append_assoc]
    rfl
end
def IsFurther (G : FnS) : Prop := G.n = 4 ∧ G.io = [2] ∧ ∀ (n : Int) (sw so cu : List PyData) (N : List (List (Int × Int))) (FL : List Int) (g : Int), NetD n sw so cu → NI n N (swU sw) → FL.length = sw.length →
  (∃ x0 W, x0 ∈ feeds so ∧ Pth (swU sw) (fl FL) x0 g W ∧ (W.map (·.1)).Nodup ∧ W.length ≤ 90 ∧ G.sem [.d (netV n sw so cu), .d (nearV N), .own (intV FL), .d (.int g)] = some (.own (wayV W), [.own (intV FL)])) ∨
  ((∃ R : Int → Bool, (∀ b ∈ feeds so, R b = true) ∧ R g = false ∧ ∀ u ∈ swU sw, ∀ y x, Lk u y x → R y = true → R x = false → canF (fl FL) u y = false) ∧ G.sem [.d (netV n sw so cu), .d (nearV N), .own (intV FL), .d (.int g)] = some (.d .none, [.own (intV FL)]))
theorem pairsK_feeds : ∀ B : List Int, pairsK (B.map fun b => .tuple [.int b, .none]) = some (B.map .inl, B.map fun _ => .none)
  | [] => rfl
  | b :: B => by
    rw [List.map_cons, pairsK, pairsK_feeds B]
    rfl
theorem further_ok (Φ : Phi) {FB C : FnS} (h20 : Φ[26]? = some FB) (hFB : IsFeedBars FB) (h21 : Φ[30]? = some C) (hC : IsCan C) : IsFurther (semOf Φ d31) := by
  obtain ⟨f1, f2, f3⟩ := hFB
  refine ⟨rfl, rfl, fun n sw so cu N FL g hN hNI hl => ?_⟩
  let B := setL (feeds so)
  have up := setL_up (feeds so)
  have hBn : B.Nodup := up.imp fun {a b} h => by omega
  have hBin : ∀ b ∈ B, 0 ≤ b ∧ b < n := fun b hb => feeds_in hN b ((mem_setL b _).mp hb)
  have hBl : B.length ≤ 60 := nodup_len 60 B hBn fun x hx => by have := hBin x hx; have := hN.n2; omega
  let K0 : Led := B.map fun b => (b, none)
  have k0 : keysL K0 = B := by simp [K0, keysL, Function.comp_def]
  have c20 : ∀ env : SEnv, callV FB [.val (.d (netV n sw so cu))] env = some (.own (intV B), env) := fun env => call_d (xs := [netV n sw so cu]) f1 f2 (f3 n sw so cu hN)
  have hW0 : WX (swU sw) (fl FL) B n K0 K0 [] := ⟨.start hBn, by simp, fun x hx => by rw [k0] at hx; exact hBin x hx⟩
  obtain ⟨K, wv, q1, q2, q3, q4⟩ := fw_loop (Φ := Φ) (N := N) (g := g) h21 hC hN hNI hl _ K0 B (.d (intL B)) (dat_d _) (Nat.le_refl _) (fun y hy => by rw [k0]; exact hy) hW0 (fun x hx hnx => absurd (by rw [k0] at hx; exact hx) hnx)
  let e0 : SEnv := [some (.d (netV n sw so cu)), some (.d (nearV N)), some (.own (intV FL)), some (.d (.int g)), none, none, none, none, none, none, none, none]
  have s1 : exS Φ (.par 4 5 (.dctp (.lc [7] (.ref 7) (.cons (.call 26 (.cons (.var 0) .nil)) .nil) .nil (.tup (.cons (.var 7) (.cons (.lit .none) .nil))))) (.frz (.call 26 (.cons (.var 0) .nil)))) e0 = some (.nx, FW n sw so cu N FL g K0 (.d (intL B)) none none) := by
    have hc : evE Φ (.call 26 (.cons (.var 0) .nil)) e0 = some (.own (intV B), e0) := ev_call1 h20 (opd_var (x := netV n sw so cu) rfl) (c20 e0)
    have hlc := ev_lcmap (Φ := Φ) (own := [7]) (tg := .ref 7) (cond := .nil) (elt := .tup (.cons (.var 7) (.cons (.lit .none) .nil))) (fun x => some (.d (.tuple [x, .none]))) (evI_own hc) (by rw [List.length_map]; omega) rfl fun x hx => by
      refine turn_ref (by simp [e0]) rfl ?_
      simp [evE, evA, getv, e0, dat_d, fitL, LIM, mkTup, leafs]
    have hm : (B.map PyData.int).filterMap (fun x => some (AV.d (.tuple [x, .none]))) = (B.map fun b => PyData.tuple [.int b, .none]).map .d := by
      rw [List.filterMap_map, List.map_map]
      simp [Function.comp_def, List.filterMap_eq_map']
    rw [hm] at hlc
    have hkn : (B.map (Sum.inl : Int → Key)).Nodup := List.pairwise_map.mpr (hBn.imp fun h e => h (Sum.inl.inj e))
    have hd : evE Φ (.dctp (.lc [7] (.ref 7) (.cons (.call 26 (.cons (.var 0) .nil)) .nil) .nil (.tup (.cons (.var 7) (.cons (.lit .none) .nil))))) e0 = some (ledV K0, e0) := by
      rw [evE, hlc]
      simp only [Option.bind_eq_bind, Option.bind_some, AV.lst?, leafs_map, pairsK_feeds, hkn, decide_true, if_true]
      simp [ledV, K0, Function.comp_def, opV]
    have hz := frz_e hc
    rw [dat_intV] at hz
    rw [exS, hd]
    simp only [Option.bind_eq_bind, Option.bind_some, hz]
    simp [e0, FW]
  have hcond : evT Φ (.cmp .NotIn (.ref 3) (.ref 4)) (FW n sw so cu N FL g K wv none none) = some (!decide (g ∈ keysL K), FW n sw so cu N FL g K wv none none) := evT_notin (t := .d (.int g)) (u := ledV K) rfl rfl (inV_led K g true)
  by_cases hg : g ∈ keysL K
  · obtain ⟨x0, W, w1, w2, w3, w4, w5⟩ := q2.way (swU_nd sw) g hg
    have hWl : W.length ≤ 90 := by
      have := nodup_len 90 (W.map (·.1)) w4 fun s hs => by
        obtain ⟨p, hp, rfl⟩ := List.mem_map.mp hs
        obtain ⟨u, hu, e, _⟩ := w5 p hp
        have := swU_lt hu
        have := hN.s1
        omega
      rw [List.length_map] at this
      exact this
    refine .inl ⟨x0, W, (mem_setL x0 _).mp w1, w3, w4, hWl, ?_⟩
    obtain ⟨x', hb⟩ := back_loop (Φ := Φ) (n := n) (sw := sw) (so := so) (cu := cu) (N := N) (FL := FL) (g := g) (wv := wv) w2 [] (by simp only [List.length_nil]; omega)
    rw [List.nil_append] at hb
    refine run_rt (e := [some (.d (netV n sw so cu)), some (.d (nearV N)), some (.own (intV FL)), some (.d (.int g)), some (ledV K), some wv, none, none, none, some (.d (.int x')), none, none]) rfl ?_ rfl
    show exS Φ b31 e0 = _
    refine (seq_nx s1).trans ((seq_nx (e1 := FW n sw so cu N FL g K wv none none) (by rw [exS]; exact q1)).trans ((seq_nx (e1 := FW n sw so cu N FL g K wv none none) (ife_skip ?_)).trans ((seq_nx (e1 := BW n sw so cu N FL g K wv [] g) ?_).trans ((seq_nx (e1 := BW n sw so cu N FL g K wv W x') (by rw [exS]; exact hb)).trans (seq_rt (ret_e ?_))))))
    · rw [hcond]
      simp [hg]
    · simp [exS, evE, evA, getv, FW, fitL, LIM, BW, wayV, dat_d]
    · simp [evE, getv, BW]
  · refine .inr ⟨⟨fun x => decide (x ∈ keysL K), fun b hb => ?_, decide_eq_false hg, fun u hu y x hlk hy hx => ?_⟩, ?_⟩
    · exact decide_eq_true (q2.base b ((mem_setL b _).mpr hb))
    · cases e : canF (fl FL) u y with
      | false => rfl
      | true => exact absurd (q4 hg y (of_decide_eq_true hy) u hu x hlk e) (of_decide_eq_false hx)
    · refine run_rt (e := FW n sw so cu N FL g K wv none none) rfl ?_ rfl
      show exS Φ b31 e0 = _
      refine (seq_nx s1).trans ((seq_nx (e1 := FW n sw so cu N FL g K wv none none) (by rw [exS]; exact q1)).trans ?_)
      refine seq_rt ?_
      rw [ife_t (e1 := FW n sw so cu N FL g K wv none none) (by rw [hcond]; simp [hg])]
      exact seq_rt (ret_e (by rw [evE]))
end K22
namespace K22
open PySem L2 Mi

/-! the depth of a bar -/
def e1F (sw : List PyData) (s : Int) : Int := match atI sw s with
  | some (.tuple (.int a :: _)) => a
  | _ => 0
theorem e1F_at {n : Int} {sw so cu : List PyData} (hN : NetD n sw so cu) : ∀ u ∈ swU sw, e1F sw u.1 = u.2.1 := fun u hu => by
  obtain ⟨k, d, hk⟩ := (swU_ok hN).at_ u hu
  unfold e1F
  rw [hk]
theorem sw_ne {n : Int} {sw so cu : List PyData} (hN : NetD n sw so cu) : ∀ u ∈ swU sw, u.2.1 ≠ u.2.2 := fun u hu => by
  obtain ⟨⟨x, i⟩, hp, he⟩ := List.mem_filterMap.mp hu
  have hx : sw[i]? = some x := List.mem_zipIdx_iff_getElem?.mp hp
  rcases hN.w1 x (List.mem_of_getElem? hx) with rfl | ⟨a, b, k, d, rfl, _, _, _, _, h, _⟩
  · simp [swOf] at he
  · simp [swOf] at he
    subst he
    exact h
theorem fl_set {FL : List Int} {s d : Int} (h0 : 0 ≤ s) (h1 : s < (FL.length : Int)) : fl (FL.set s.toNat (fl FL s + d)) = upF (fl FL) s d := by
  funext t
  unfold upF
  by_cases e : t = s
  · subst e
    rw [if_pos rfl]
    show (if t < 0 then 0 else (FL.set t.toNat (fl FL t + d)).getD t.toNat 0) = _
    rw [if_neg (by omega), List.getD_eq_getElem?_getD, List.getElem?_set_self (by omega)]
    rfl
  · rw [if_neg e]
    unfold fl
    by_cases h : t < 0
    · rw [if_pos h, if_pos h]
    · rw [if_neg h, if_neg h]
      simp only [List.getD_eq_getElem?_getD]
      rw [List.getElem?_set_ne (by omega)]
theorem fl_zero (m : Nat) : fl (List.replicate m 0) = fun _ => 0 := by
  funext t
  unfold fl
  rw [List.getD_eq_getElem?_getD, List.getElem?_replicate]
  by_cases h : t < 0
  · rw [if_pos h]
  · rw [if_neg h]
    by_cases h2 : t.toNat < m
    · rw [if_pos h2]; rfl
    · rw [if_neg h2]; rfl
def DE (n : Int) (sw so cu : List PyData) (g : Int) (N : List (List (Int × Int))) (FL : List Int) (w : PyData) (k : Int) : SEnv := [some (.d (netV n sw so cu)), some (.d (.int g)), some (.d w), some (.d (nearV N)), some (.own (intV FL)), some (.d (.int k)), none, none]
def dwB : S := (.seq (.sub 4 (.var 6) (.bin .Add (.ix (.ref 4) (.ref 6)) (.ife (.cmp .Eq (.ix (.ix (.ix (.ref 0) (.lit (.int 2))) (.ref 6)) (.lit (.int 0))) (.ref 7)) (.lit (.int 1)) (.neg (.lit (.int 1)))))) (.seq (.fgt [6, 7]) .skip))
section
variable {Φ : Phi} {n : Int} {sw so cu : List PyData} {N : List (List (Int × Int))} {g : Int}
theorem way_turn (hN : NetD n sw so cu) {FL : List Int} (hl : FL.length = sw.length) {u : Sw} (hu : u ∈ swU sw) {y : Int} {w : PyData} {k : Int} :
    (do let e' ← asgT (.tup (.cons (.ref 6) (.cons (.ref 7) .nil))) (.d (pr (u.1, y))) (DE n sw so cu g N FL w k); exS Φ dwB e') = some (.nx, DE n sw so cu g N (FL.set u.1.toNat (fl FL u.1 + sgn (e1F sw) (u.1, y))) w k) := by
  obtain ⟨kk, d, hk⟩ := (swU_ok hN).at_ u hu
  obtain ⟨h0, h1⟩ := swU_lt hu
  have x1 : ixV (.d (.tuple sw)) (.d (.int u.1)) = some (.d (.tuple [.int u.2.1, .int u.2.2, .str kk, d])) := by simp only [ixV, hk, Option.map_some]
  have x2 : ixV (.d (.tuple [.int u.2.1, .int u.2.2, .str kk, d])) (.d (.int 0)) = some (.d (.int u.2.1)) := by simp [ixV, atI, ixN]
  have x3 := ix_fl (FL := FL) h0 (by omega)
  let e1 : List Int → SEnv := fun FL => [some (.d (netV n sw so cu)), some (.d (.int g)), some (.d w), some (.d (nearV N)), some (.own (intV FL)), some (.d (.int k)), some (.d (.int u.1)), some (.d (.int y))]
  have a0 : asgT (.tup (.cons (.ref 6) (.cons (.ref 7) .nil))) (.d (pr (u.1, y))) (DE n sw so cu g N FL w k) = some (e1 FL) := by simp [asgT, asgT.asgTs, DE, pr, e1]
  rw [a0]
  simp only [Option.bind_eq_bind, Option.bind_some]
  have hs : sgn (e1F sw) (u.1, y) = if u.2.1 = y then 1 else -1 := by
    unfold sgn
    rw [e1F_at hN u hu]
  have st : ∀ v : Int, setIx (.own (intV FL)) (.d (.int u.1)) (.d (.int v)) = some (.own (intV (FL.set u.1.toNat v))) := fun v => by
    have : ixN (intV FL).length u.1 = some u.1.toNat := by
      unfold ixN
      rw [intV_length, if_pos h0, if_pos (by omega)]
    simp only [setIx, this, Option.map_some]
    simp [intV, List.map_set]
  unfold dwB
  refine (seq_nx (e1 := e1 (FL.set u.1.toNat (fl FL u.1 + sgn (e1F sw) (u.1, y)))) ?_).trans (by simp [exS, wipeE, DE, e1])
  rw [hs]
  by_cases h : u.2.1 = y
  · have c0 : cmpV .Eq (.d (.int u.2.1)) (.d (.int y)) = some true := by rw [eq_int, decide_eq_true h]
    rw [if_pos h]
    simp [exS, evE, evT, opd, look, getv, e1, net2, x1, x2, x3, c0, binV, dat_d, st]
  · have c0 : cmpV .Eq (.d (.int u.2.1)) (.d (.int y)) = some false := by rw [eq_int, decide_eq_false h]
    rw [if_neg h]
    simp [exS, evE, evT, opd, look, getv, e1, net2, x1, x2, x3, c0, binV, dat_d, st]
theorem way_for (hN : NetD n sw so cu) {w : PyData} {k : Int} : ∀ (W : List (Int × Int)) (FL : List Int), FL.length = sw.length → (∀ p ∈ W, ∃ u ∈ swU sw, u.1 = p.1) →
    ∃ FL', forI (fun x e => do let e' ← asgT (.tup (.cons (.ref 6) (.cons (.ref 7) .nil))) (.d x) e; exS Φ dwB e') (W.map pr) (DE n sw so cu g N FL w k) = some (.nx, DE n sw so cu g N FL' w k) ∧ FL'.length = sw.length ∧ fl FL' = appF (e1F sw) W (fl FL)
  | [], FL, hl, _ => ⟨FL, rfl, hl, rfl⟩
  | p :: W, FL, hl, hW => by
    obtain ⟨u, hu, e⟩ := hW p List.mem_cons_self
    have ht := way_turn (Φ := Φ) (N := N) (g := g) (w := w) (k := k) (y := p.2) hN hl hu
    obtain ⟨h0, h1⟩ := swU_lt hu
    obtain ⟨FL', q1, q2, q3⟩ := way_for hN (w := w) (k := k) W (FL.set u.1.toNat (fl FL u.1 + sgn (e1F sw) (u.1, p.2))) (by rw [List.length_set]; exact hl) fun q hq => hW q (List.mem_cons_of_mem _ hq)
    refine ⟨FL', ?_, q2, ?_⟩
    · rw [List.map_cons, forI]
      simp only [Option.bind_eq_bind] at ht q1 ⊢
      rw [show pr p = pr (u.1, p.2) by rw [e], ht]
      exact q1
    · rw [q3, fl_set h0 (by omega), e]
      rfl
end
def dW : S := (.seq (.asg (.ref 5) (.bin .Add (.ref 5) (.lit (.int 1)))) (.seq (.forr (.tup (.cons (.ref 6) (.cons (.ref 7) .nil))) (.cons (.var 2) .nil) dwB) (.seq (.asg (.ref 2) (.frz (.call 31 (.cons (.var 0) (.cons (.var 3) (.cons (.ref 4) (.cons (.var 1) .nil))))))) (.seq (.fgt [6, 7]) .skip))))
/-- what further_way tells of flows -/
def WayD (sw so : List PyData) (FL : List Int) (g : Int) (w : PyData) : Prop :=
  (∃ x0 W, x0 ∈ feeds so ∧ Pth (swU sw) (fl FL) x0 g W ∧ (W.map (·.1)).Nodup ∧ W.length ≤ 90 ∧ w = .list (W.map pr)) ∨
  ((∃ R : Int → Bool, (∀ b ∈ feeds so, R b = true) ∧ R g = false ∧ ∀ u ∈ swU sw, ∀ y x, Lk u y x → R y = true → R x = false → canF (fl FL) u y = false) ∧ w = .none)
/-- as many lost switches cut a bar off -/
def DepthN (sw so : List PyData) (g : Int) (k : Nat) : Prop := (∃ S : List Int, S.Sublist (places (swU sw)) ∧ S.length = k ∧ ¬ Rc (links (restU sw S)) (feeds so) [] g) ∧ ∀ S0 : List Int, ¬ Rc (links (restU sw S0)) (feeds so) [] g → k ≤ ((swU sw).filter fun u => decide (u.1 ∈ S0)).length
section
variable {Φ : Phi} {n : Int} {sw so cu : List PyData} {N : List (List (Int × Int))} {g : Int} {F : FnS}
theorem further_e (h22 : Φ[31]? = some F) (hF : IsFurther F) (hN : NetD n sw so cu) (hNI : NI n N (swU sw)) {FL : List Int} (hl : FL.length = sw.length) : ∃ w, WayD sw so FL g w ∧ ∀ env : SEnv, getv env 0 = some (.d (netV n sw so cu)) → getv env 3 = some (.d (nearV N)) → getv env 4 = some (.own (intV FL)) → getv env 1 = some (.d (.int g)) →
    evE Φ (.frz (.call 31 (.cons (.var 0) (.cons (.var 3) (.cons (.ref 4) (.cons (.var 1) .nil)))))) env = some (.d w, env) := by
  obtain ⟨f1, f2, f3⟩ := hF
  have key : ∀ (r : AV), F.sem [.d (netV n sw so cu), .d (nearV N), .own (intV FL), .d (.int g)] = some (r, [.own (intV FL)]) → ∀ env : SEnv, getv env 0 = some (.d (netV n sw so cu)) → getv env 3 = some (.d (nearV N)) → getv env 4 = some (.own (intV FL)) → getv env 1 = some (.d (.int g)) →
      evE Φ (.frz (.call 31 (.cons (.var 0) (.cons (.var 3) (.cons (.ref 4) (.cons (.var 1) .nil)))))) env = some (.d r.dat, env) := fun r hr env q0 q3 q4 q1 => by
    have hc : callV F [.val (.d (netV n sw so cu)), .val (.d (nearV N)), .slot 4, .val (.d (.int g))] env = some (r, env) := by
      have e : (env.set 4 none).set 4 (some (.own (intV FL))) = env := by rw [List.set_set]; exact set_same q4
      simp [callV, f1, f2, prepA, q4, hr, putB, dat_d, e]
    refine frz_e ?_
    simp only [evE, evL, h22, Option.bind_eq_bind, Option.bind_some]
    have s0 : env.set 0 (some (.d (netV n sw so cu))) = env := set_same q0
    have s3 : env.set 3 (some (.d (nearV N))) = env := set_same q3
    have s1 : env.set 1 (some (.d (.int g))) = env := set_same q1
    simp only [opd, q0, q3, q4, q1, dat_d, s0, s3, s1, Option.map_some, Option.bind_some, Option.isSome_some, if_true]
    exact hc
  rcases f3 n sw so cu N FL g hN hNI hl with ⟨x0, W, h1, h2, h3, h4, h5⟩ | ⟨h1, h2⟩
  · refine ⟨.list (W.map pr), .inl ⟨x0, W, h1, h2, h3, h4, rfl⟩, fun env q0 q3 q4 q1 => ?_⟩
    rw [key _ h5 env q0 q3 q4 q1]
    have : (AV.own (wayV W)).dat = .list (W.map pr) := by
      unfold wayV
      rw [AV.dat, datL_map _ pr fun p => dat_d _]
    rw [this]
  · refine ⟨.none, .inr ⟨h1, rfl⟩, fun env q0 q3 q4 q1 => ?_⟩
    rw [key _ h2 env q0 q3 q4 q1, dat_d]
theorem flw_top {U : List Swt} {f : Int → Int} {B : List Int} {g : Int} {k : Nat} (h : Flw U B g f k) (hg : g ∉ B) : k ≤ U.length := by
  have := h.le (S0 := U.map (·.1)) fun hr => by
    have e : restS U (U.map (·.1)) = [] := List.filter_eq_nil_iff.mpr fun u hu => by
      have : u.1 ∈ U.map (·.1) := List.mem_map_of_mem (f := (·.1)) hu
      simp only [decide_eq_true this]
      simp
    rw [e] at hr
    have key : ∀ x, Rc (([] : List Swt).map (·.2)) B [] x → x ∈ B := fun x hx => by
      induction hx with
      | base h1 _ => exact h1
      | fwd _ hm _ _ => cases hm
      | bwd _ hm _ _ => cases hm
    exact hg (key g hr)
  have h2 := List.length_filter_le (fun u : Swt => decide (u.1 ∈ U.map (·.1))) U
  omega
theorem depth_loop (h22 : Φ[31]? = some F) (hF : IsFurther F) (hN : NetD n sw so cu) (hNI : NI n N (swU sw)) (hg : g ∉ feeds so) : ∀ (m k : Nat) (FL : List Int) (w : PyData), (swU sw).length - k ≤ m → Flw (swU sw) (feeds so) g (fl FL) k → FL.length = sw.length → WayD sw so FL g w →
    ∃ (k' : Nat) (FL' : List Int), whileI (evT Φ (.cmp .IsNot (.ref 2) (.lit .none))) (exS Φ dW) (DE n sw so cu g N FL w k) = some (.nx, DE n sw so cu g N FL' .none k') ∧ DepthN sw so g k' := by
  have hcond : ∀ (FL : List Int) (w : PyData) (k : Nat), evT Φ (.cmp .IsNot (.ref 2) (.lit .none)) (DE n sw so cu g N FL w k) = some (!isNoneD w, DE n sw so cu g N FL w k) := fun FL w k => by
    have : cmpV .IsNot (.d w) (.d .none) = some (!isNoneD w) := by simp [cmpV, dat_d, isNoneD]
    simp [evT, evE, opd, look, getv, DE, this]
  have stop : ∀ (k : Nat) (FL : List Int) (w : PyData), Flw (swU sw) (feeds so) g (fl FL) k → (∃ R : Int → Bool, (∀ b ∈ feeds so, R b = true) ∧ R g = false ∧ ∀ u ∈ swU sw, ∀ y x, Lk u y x → R y = true → R x = false → canF (fl FL) u y = false) → w = .none →
      ∃ (k' : Nat) (FL' : List Int), whileI (evT Φ (.cmp .IsNot (.ref 2) (.lit .none))) (exS Φ dW) (DE n sw so cu g N FL w k) = some (.nx, DE n sw so cu g N FL' .none k') ∧ DepthN sw so g k' := fun k FL w hf ⟨R, r1, r2, r3⟩ hw => by
    subst hw
    exact ⟨k, FL, while_f (hcond FL .none k), hf.cut r1 r2 r3 (sw_ne hN), fun S0 h => hf.le h⟩
  intro m
  induction m with
  | zero =>
    intro k FL w hm hf hl hw
    rcases hw with ⟨x0, W, h1, h2, h3, h4, h5⟩ | ⟨h1, h2⟩
    · have := flw_top (hf.step (e1 := e1F sw) (swU_nd sw) (e1F_at hN) (sw_ne hN) h2 h1 h3) hg
      omega
    · exact stop k FL w hf h1 h2
  | succ m ih =>
    intro k FL w hm hf hl hw
    rcases hw with ⟨x0, W, h1, h2, h3, h4, rfl⟩ | ⟨h1, h2⟩
    · have hf2 := hf.step (e1 := e1F sw) (swU_nd sw) (e1F_at hN) (sw_ne hN) h2 h1 h3
      have htop := flw_top hf2 hg
      obtain ⟨FL', q1, q2, q3⟩ := way_for (Φ := Φ) (N := N) (g := g) (so := so) (cu := cu) (w := .list (W.map pr)) (k := ((k + 1 : Nat) : Int)) hN W FL hl fun p hp => by
        obtain ⟨u, hu, e, _⟩ := h2.can p hp
        exact ⟨u, hu, e⟩
      rw [← q3] at hf2
      obtain ⟨w', hw', he⟩ := further_e (g := g) (N := N) h22 hF hN hNI q2
      obtain ⟨k', FL2, r1, r2⟩ := ih (k + 1) FL' w' (by omega) hf2 q2 hw'
      refine ⟨k', FL2, ?_, r2⟩
      have hst : exS Φ dW (DE n sw so cu g N FL (.list (W.map pr)) k) = some (.nx, DE n sw so cu g N FL' w' ((k + 1 : Nat) : Int)) := by
        unfold dW
        refine (seq_nx (e1 := DE n sw so cu g N FL (.list (W.map pr)) ((k + 1 : Nat) : Int)) ?_).trans ((seq_nx (e1 := DE n sw so cu g N FL' (.list (W.map pr)) ((k + 1 : Nat) : Int)) ?_).trans ((seq_nx (e1 := DE n sw so cu g N FL' w' ((k + 1 : Nat) : Int)) ?_).trans ?_))
        · simp [exS, evE, opd, look, getv, DE, binV, asgT]
        · have hI : evI Φ (.cons (.var 2) .nil) (DE n sw so cu g N FL (.list (W.map pr)) ((k + 1 : Nat) : Int)) = some (W.map pr, DE n sw so cu g N FL (.list (W.map pr)) ((k + 1 : Nat) : Int), none) := evI_var rfl (.inr rfl)
          rw [exS, hI]
          simp only [heldOk, Option.bind_eq_bind, Option.bind_some, if_true]
          simp only [Option.bind_eq_bind] at q1
          rw [q1]
          rfl
        · exact asg_e (i := 2) (he (DE n sw so cu g N FL' (.list (W.map pr)) ((k + 1 : Nat) : Int)) rfl rfl rfl rfl) (by simp [DE])
        · simp [exS, wipeE, DE]
      rw [while_t (by rw [hcond]; rfl) hst]
      exact r1
    · exact stop k FL w hf h1 h2
end
def IsDepth (G : FnS) : Prop := G.n = 2 ∧ G.io = [] ∧ ∀ (n : Int) (sw so cu : List PyData) (g : Int), NetD n sw so cu → (g ∈ feeds so → G.sem [.d (netV n sw so cu), .d (.int g)] = some (.d .none, [])) ∧ (g ∉ feeds so → ∃ k : Nat, G.sem [.d (netV n sw so cu), .d (.int g)] = some (.d (.int (k : Int)), []) ∧ DepthN sw so g k)
theorem rest_nil (sw : List PyData) : restU sw [] = swU sw := by
  unfold restU
  exact List.filter_eq_self.mpr fun u _ => by simp
theorem depth_ok (Φ : Phi) {FB F T : FnS} (h20 : Φ[26]? = some FB) (hFB : IsFeedBars FB) (h22 : Φ[31]? = some F) (hF : IsFurther F) (h24 : Φ[25]? = some T) (hT : IsTable T) : IsDepth (semOf Φ d32) := by
  obtain ⟨f1, f2, f3⟩ := hFB
  obtain ⟨t1, t2, t3⟩ := hT
  refine ⟨rfl, rfl, fun n sw so cu g hN => ?_⟩
  let e0 : SEnv := [some (.d (netV n sw so cu)), some (.d (.int g)), none, none, none, none, none, none]
  have c20 : callV FB [.val (.d (netV n sw so cu))] e0 = some (.own (intV (setL (feeds so))), e0) := call_d (xs := [netV n sw so cu]) f1 f2 (f3 n sw so cu hN)
  have hin : evT Φ (.cmp .In (.ref 1) (.call 26 (.cons (.var 0) .nil))) e0 = some (decide (g ∈ feeds so), e0) := by
    have hc : evE Φ (.call 26 (.cons (.var 0) .nil)) e0 = some (.own (intV (setL (feeds so))), e0) := ev_call1 h20 (opd_var (x := netV n sw so cu) rfl) c20
    have := evT_in_e (g := false) (t := .d (.int g)) (fun i h => by cases h) (show getv e0 1 = some (.d (.int g)) from rfl) hc rfl (inV_own (setL (feeds so)) g false)
    simp only [mem_setL] at this
    simpa using this
  constructor
  · intro hg
    refine run_rt (e := e0) rfl ?_ rfl
    show exS Φ b32 e0 = _
    refine seq_rt ?_
    rw [ife_t (e1 := e0) (by rw [hin, decide_eq_true hg])]
    exact seq_rt (ret_e (by rw [evE]))
  · intro hg
    obtain ⟨N, hT2, hNI⟩ := t3 n sw so cu [] (.list []) hN fun x => by
      have := inV_list [] x true
      simpa [intL] using this
    rw [rest_nil] at hNI
    have hl0 : (List.replicate sw.length (0 : Int)).length = sw.length := List.length_replicate
    obtain ⟨w, hw, he⟩ := further_e (g := g) (N := N) h22 hF hN hNI hl0
    obtain ⟨k, FL', r1, r2⟩ := depth_loop (Φ := Φ) (cu := cu) (N := N) h22 hF hN hNI hg _ 0 (List.replicate sw.length 0) w (Nat.le_refl _) (by rw [fl_zero]; exact .zero) hl0 hw
    refine ⟨k, ?_, r2⟩
    refine run_rt (e := DE n sw so cu g N FL' .none k) rfl ?_ rfl
    show exS Φ b32 e0 = _
    let e1 : SEnv := [some (.d (netV n sw so cu)), some (.d (.int g)), none, some (.d (nearV N)), some (.own (intV (List.replicate sw.length 0))), some (.d (.int 0)), none, none]
    refine (seq_nx (e1 := e0) (ife_skip (by rw [hin, decide_eq_false hg]))).trans ((seq_nx (e1 := e1) ?_).trans ((seq_nx (e1 := DE n sw so cu g N (List.replicate sw.length 0) w 0) ?_).trans ((seq_nx (e1 := DE n sw so cu g N FL' .none k) (by rw [exS]; exact r1)).trans (seq_rt (ret_e ?_)))))
    · have hc : evE Φ (.call 25 (.cons (.var 0) (.cons (.lst .nil) .nil))) e0 = some (nest N, e0) := by
        have c24 : callV T [.val (.d (netV n sw so cu)), .val (.own [])] e0 = some (nest N, e0) := call_v (ts := [.d (netV n sw so cu), .own []]) t1 t2 (by
          simp only [List.map_cons, List.map_nil, dat_d, AV.dat, datL]
          exact hT2)
        exact ev_call2 h24 (opd_var (x := netV n sw so cu) rfl) (opd_e (fun _ h => nomatch h) (by simp [evE, evA, fitL, LIM])) c24
      have hz := frz_e hc
      rw [dat_nest] at hz
      have hlen : biV .len [.d (.tuple sw)] = some (.d (.int (sw.length : Int))) := by simp [biV]
      have hs := hN.s1
      have hm : binV .Mult (.own [.d (.int 0)]) (.d (.int (sw.length : Int))) = some (.own (intV (List.replicate sw.length 0))) := by
        have f1 : fitL (1 * ((sw.length : Int)).toNat) = true := by
          unfold fitL LIM
          exact decide_eq_true (by omega)
        have f2 : decide ((0 : Int) ≤ (sw.length : Int) ∧ (sw.length : Int) ≤ 1000000) = true := decide_eq_true (by omega)
        have hr : (List.replicate sw.length [PyData.int 0]).flatten = (List.replicate sw.length (0 : Int)).map .int := by
          rw [List.map_replicate]
          generalize sw.length = m
          induction m with
          | zero => rfl
          | succ m ih => rw [List.replicate_succ, List.flatten_cons, ih, List.replicate_succ]; rfl
        have f3 : fitL sw.length = true := by
          unfold fitL LIM
          exact decide_eq_true (by omega)
        simp only [binV, repV, AV.own?, leafs, Option.map_some, List.length_singleton, f1, f2, Bool.and_self, if_true, Int.toNat_natCast, hr]
        simp [fr, intV, f3]
      rw [exS, hz]
      simp only [Option.bind_eq_bind, Option.bind_some]
      simp [evE, evL, evA, opd, look, getv, e0, net2, hlen, hm, fitL, LIM, e1]
    · exact asg_e (i := 2) (he e1 rfl rfl rfl rfl) (by simp [e1])
    · simp [evE, getv, DE, dat_d]
end K22
namespace K22
open PySem L2 Mi

/-! draws as facts about calls -/
theorem draw_fact {G : FnS} (hG : IsDraw G) {t : AV} {m : Int} (hp : Pot t) (h0 : 0 < m) (h1 : m < 1073741824) : ∃ (d : Int) (u : AV), (∀ rest : SEnv, callV G [.slot 0, .val (.d (.int m))] (some t :: rest) = some (.d (.int d), some u :: rest)) ∧ 0 ≤ d ∧ d < m ∧ Pot u := by
  obtain ⟨g1, g2, g3⟩ := hG
  obtain ⟨d, u, e, h2, h3, h4⟩ := g3 t m hp h0 h1
  refine ⟨d, u, fun rest => ?_, h2, h3, h4⟩
  simp [callV, g1, g2, prepA, getv, e, putB, AV.dat]
theorem pick_fact {G : FnS} (hG : IsPick G) {t : AV} {xs : List PyData} {o : AV} (ho : o.dat = .list xs) (hp : Pot t) (hne : xs ≠ []) (hl : xs.length < 1000) : ∃ (x : PyData) (u : AV), (∀ rest : SEnv, callV G [.slot 0, .val o] (some t :: rest) = some (.d x, some u :: rest)) ∧ x ∈ xs ∧ Pot u := by
  obtain ⟨g1, g2, g3⟩ := hG
  obtain ⟨x, u, e, h2, h3⟩ := g3 t xs hp hne hl
  refine ⟨x, u, fun rest => ?_, h2, h3⟩
  simp [callV, g1, g2, prepA, getv, e, putB, ho]
theorem mixed_fact {G : FnS} (hG : IsMixed G) {t : AV} {ns : List Int} {o : AV} (ho : o.dat = .list (ns.map .int)) (hp : Pot t) (hl : ns.length < 1000) : ∃ (ms : List Int) (u : AV), (∀ rest : SEnv, callV G [.slot 0, .val o] (some t :: rest) = some (.own (intV ms), some u :: rest)) ∧ ms.Perm ns ∧ Pot u := by
  obtain ⟨g1, g2, g3⟩ := hG
  obtain ⟨ms, u, e, h2, h3⟩ := g3 t ns hp hl
  refine ⟨ms, u, fun rest => ?_, h2, h3⟩
  simp [callV, g1, g2, prepA, getv, e, putB, ho, intV]
/-- the bars of a net as a list -/
def barsL (n : Int) : List Int := (List.range n.toNat).map fun (i : Nat) => (i : Int)
theorem barsL_val (n : Int) : fr (rangeL 0 n.toNat) = .own (intV (barsL n)) := by
  simp [fr, rangeL, intV, barsL, Function.comp_def]
theorem barsL_len (n : Int) : (barsL n).length = n.toNat := by simp [barsL]
theorem mem_barsL {n x : Int} : x ∈ barsL n ↔ 0 ≤ x ∧ x < n := by
  unfold barsL
  rw [List.mem_map]
  constructor
  · rintro ⟨i, hi, rfl⟩
    have := List.mem_range.mp hi
    omega
  · rintro ⟨h1, h2⟩
    exact ⟨x.toNat, List.mem_range.mpr (by omega), by omega⟩
theorem barsL_nd (n : Int) : (barsL n).Nodup := by
  unfold barsL
  refine List.Pairwise.map _ (fun a b h => ?_) List.nodup_range
  omega
theorem cut_to (xs : List PyData) (k : Nat) : cutD xs none (some (k : Int)) = xs.take k := by
  unfold cutD
  have h0 : HT.sIx xs.length 0 none = 0 := by simp [HT.sIx]
  have h1 : HT.sIx xs.length xs.length (some (k : Int)) = min k xs.length := by
    simp [HT.sIx] <;> omega
  rw [h0, h1]
  simp [List.take_eq_take_iff]
  try omega
/-! a drawn net -/
def NS (t : AV) (n : Int) (A B C : List PyData) : SEnv := [some t, some (.d (.int 6)), some (.d (.int 8)), none, some (.d (.int n)), some (.own (A.map .d)), some (.own (B.map .d)), some (.own (C.map .d)), none, none, none, none, none, none]
def sB : S := (.seq (.asg (.tup (.cons (.ref 12) (.cons (.ref 13) .nil))) (.frz (.slc (.call 2 (.cons (.ref 0) (.cons (.rg1 false (.var 4)) .nil))) .nil (.cons (.lit (.int 2)) .nil)))) (.seq (.asg (.ref 8) (.call 1 (.cons (.ref 0) (.cons (.lst (.cons (.lit .none) (.cons (.lit .none) (.cons (.bin .Add (.lit (.int 1)) (.call 0 (.cons (.ref 0) (.cons (.lit (.int 30)) .nil)))) .nil)))) .nil)))) (.seq (.asg (.ref 9) (.tup (.cons (.var 12) (.cons (.var 13) (.cons (.call 1 (.cons (.ref 0) (.cons (.lst (.cons (.lit (.str "breaker")) (.cons (.lit (.str "breaker")) (.cons (.lit (.str "link")) .nil)))) .nil))) (.cons (.var 8) .nil)))))) (.seq (.app 5 (.ife (.cmp .Eq (.call 0 (.cons (.ref 0) (.cons (.lit (.int 9)) .nil))) (.lit (.int 0))) (.tup .nil) (.var 9))) (.seq (.fgt [3, 8, 9, 12, 13]) .skip)))))
section
variable {Φ : Phi} {D P M : FnS} (h0 : Φ[0]? = some D) (hD : IsDraw D) (h1 : Φ[1]? = some P) (hP : IsPick P) (h2 : Φ[2]? = some M) (hM : IsMixed M)
include h0 hD h1 hP h2 hM
theorem sw_turn {t : AV} (hp : Pot t) {n : Int} (n1 : 2 ≤ n) (n2 : n ≤ 7) {A : List PyData} (hA : A.length ≤ 100) (hA2 : ∀ x ∈ A, SwD n x) (x : PyData) : ∃ u A', (do let e' ← asgT (.ref 3) (.d x) (NS t n A [] []); exS Φ sB e') = some (.nx, NS u n A' [] []) ∧ Pot u ∧ A'.length = A.length + 1 ∧ ∀ x ∈ A', SwD n x := by
  obtain ⟨ms, u1, c1, hperm, hp1⟩ := mixed_fact hM (o := .own (intV (barsL n))) (ns := barsL n) (dat_intV _) hp (by rw [barsL_len]; omega)
  have hml : ms.length = n.toNat := hperm.length_eq.trans (barsL_len n)
  obtain ⟨a, ms, rfl⟩ : ∃ a ms', ms = a :: ms' := by
    cases ms with
    | nil => simp at hml; omega
    | cons a ms => exact ⟨a, ms, rfl⟩
  obtain ⟨b, ms, rfl⟩ : ∃ b ms', ms = b :: ms' := by
    cases ms with
    | nil => simp at hml; omega
    | cons b ms => exact ⟨b, ms, rfl⟩
  have ha := mem_barsL.mp (hperm.mem_iff.mp (List.mem_cons_self (a := a)))
  have hb := mem_barsL.mp (hperm.mem_iff.mp (List.mem_cons_of_mem a (List.mem_cons_self (a := b))))
  have hab : a ≠ b := by
    have := (hperm.nodup_iff.mpr (barsL_nd n))
    have := (List.nodup_cons.mp this).1
    rintro rfl
    exact this List.mem_cons_self
  obtain ⟨d1, u2, c2, hd1, hd2, hp2⟩ := draw_fact hD (m := 30) hp1 (by omega) (by omega)
  obtain ⟨bd, u3, c3, hbd, hp3⟩ := pick_fact hP (o := .own [.d .none, .d .none, .d (.int (1 + d1))]) (xs := [.none, .none, .int (1 + d1)]) (by simp [AV.dat, datL]) hp2 (by simp) (by simp)
  obtain ⟨kd, u4, c4, hkd, hp4⟩ := pick_fact hP (o := .own [.d (.str "breaker"), .d (.str "breaker"), .d (.str "link")]) (xs := [.str "breaker", .str "breaker", .str "link"]) (by simp [AV.dat, datL]) hp3 (by simp) (by simp)
  obtain ⟨d2, u5, c5, _, _, hp5⟩ := draw_fact hD (m := 9) hp4 (by omega) (by omega)
  have hsw : SwD n (.tuple [.int a, .int b, kd, bd]) := by
    have hk : ∃ k : Str, kd = .str k ∧ (k = "breaker" ∨ k = "link") := by
      simp only [List.mem_cons, List.not_mem_nil, or_false] at hkd
      rcases hkd with rfl | rfl | rfl
      · exact ⟨_, rfl, .inl rfl⟩
      · exact ⟨_, rfl, .inl rfl⟩
      · exact ⟨_, rfl, .inr rfl⟩
    obtain ⟨k, rfl, hk⟩ := hk
    refine .inr ⟨a, b, k, bd, rfl, ha.1, ha.2, hb.1, hb.2, hab, hk, ?_⟩
    simp only [List.mem_cons, List.not_mem_nil, or_false] at hbd
    rcases hbd with rfl | rfl | rfl
    · exact .inl rfl
    · exact .inl rfl
    · exact .inr ⟨1 + d1, rfl, by omega, by omega⟩
  let z : PyData := if d2 = 0 then .tuple [] else .tuple [.int a, .int b, kd, bd]
  have hz : SwD n z := by
    by_cases h : d2 = 0
    · simp only [z, if_pos h]; exact .inl rfl
    · simp only [z, if_neg h]; exact hsw
  refine ⟨u5, A ++ [z], ?_, hp5, by simp, fun y hy => ?_⟩
  · have ok0 : okRgs 0 n = true := by
      have hf : fitL (n - 0).toNat = true := by
        unfold fitL LIM
        rw [decide_eq_true_eq]
        omega
      unfold okRgs
      rw [okRg_small (by omega) (by omega), okRg_small (by omega) (by omega), hf]
      rfl
    have bv : fr (rangeL 0 n.toNat) = .own (intV (barsL n)) := barsL_val n
    have a0 : asgT (.ref 3) (.d x) (NS t n A [] []) = some [some t, some (.d (.int 6)), some (.d (.int 8)), some (.d x), some (.d (.int n)), some (.own (A.map .d)), some (.own []), some (.own []), none, none, none, none, none, none] := by simp [asgT, NS]
    rw [a0]
    simp only [Option.bind_eq_bind, Option.bind_some]
    unfold sB
    have sl : slcV (.own (intV (a :: b :: ms))) none (some 2) = some (.own [.d (.int a), .d (.int b)]) := by
      have := cut_to ((a :: b :: ms).map .int) 2
      simp only [slcV, AV.lst?, leafs_intV, show ((2 : Nat) : Int) = 2 from rfl] at this ⊢
      rw [this]
      simp [fr]
    refine (seq_nx (e1 := [some u1, some (.d (.int 6)), some (.d (.int 8)), some (.d x), some (.d (.int n)), some (.own (A.map .d)), some (.own []), some (.own []), none, none, none, none, some (.d (.int a)), some (.d (.int b))]) ?_).trans ?_
    · simp [exS, evE, evL, evP, opd, look, getv, h2, AV.dat, ok0, bv, c1, sl, datL, asgT, asgT.asgTs]
    refine (seq_nx (e1 := [some u3, some (.d (.int 6)), some (.d (.int 8)), some (.d x), some (.d (.int n)), some (.own (A.map .d)), some (.own []), some (.own []), some (.d bd), none, none, none, some (.d (.int a)), some (.d (.int b))]) ?_).trans ?_
    · simp [exS, evE, evL, evA, opd, look, getv, h0, h1, c2, c3, binV, fitL, LIM, asgT]
    refine (seq_nx (e1 := [some u4, some (.d (.int 6)), some (.d (.int 8)), some (.d x), some (.d (.int n)), some (.own (A.map .d)), some (.own []), some (.own []), some (.d bd), some (.d (.tuple [.int a, .int b, kd, bd])), none, none, some (.d (.int a)), some (.d (.int b))]) ?_).trans ?_
    · simp [exS, evE, evL, evA, opd, look, getv, h0, h1, c4, AV.dat, fitL, LIM, asgT, mkTup, leafs]
    have fl : A.length ≤ 999999 := by omega
    refine (seq_nx (e1 := [some u5, some (.d (.int 6)), some (.d (.int 8)), some (.d x), some (.d (.int n)), some (.own ((A ++ [z]).map .d)), some (.own []), some (.own []), some (.d bd), some (.d (.tuple [.int a, .int b, kd, bd])), none, none, some (.d (.int a)), some (.d (.int b))]) ?_).trans (by simp [exS, wipeE, NS])
    by_cases h : d2 = 0
    · simp [exS, evT, evE, evL, evA, opd, look, getv, h0, c5, AV.dat, fitL, LIM, isOwn, cmpV, ok_int, PyData.eqv, h, z, mkTup, leafs, fl]
    · simp [exS, evT, evE, evL, evA, opd, look, getv, h0, c5, AV.dat, fitL, LIM, isOwn, cmpV, ok_int, PyData.eqv, h, z, mkTup, leafs, fl]
  · rcases List.mem_append.mp hy with hy | hy
    · exact hA2 y hy
    · rw [List.mem_singleton.mp hy]
      exact hz
def oB : S := (.seq (.asg (.ref 10) (.tup (.cons (.call 0 (.cons (.ref 0) (.cons (.var 4) .nil))) (.cons (.call 1 (.cons (.ref 0) (.cons (.lst (.cons (.lit (.int 0)) (.cons (.lit (.int 0)) (.cons (.lit (.int 0)) (.cons (.lit (.int 1)) .nil))))) .nil))) (.cons (.call 1 (.cons (.ref 0) (.cons (.lst (.cons (.lit (.str "feed")) (.cons (.lit (.str "feed")) (.cons (.lit (.str "maybe")) .nil)))) .nil))) .nil))))) (.seq (.app 6 (.ife (.cmp .Eq (.call 0 (.cons (.ref 0) (.cons (.lit (.int 9)) .nil))) (.lit (.int 0))) (.tup .nil) (.var 10))) (.seq (.fgt [3, 10]) .skip)))
theorem so_turn {t : AV} (hp : Pot t) {n : Int} (n1 : 1 ≤ n) (n2 : n ≤ 7) {A B : List PyData} (hB : B.length ≤ 100) (hB2 : ∀ x ∈ B, SoD n x) (x : PyData) : ∃ u B', (do let e' ← asgT (.ref 3) (.d x) (NS t n A B []); exS Φ oB e') = some (.nx, NS u n A B' []) ∧ Pot u ∧ B'.length = B.length + 1 ∧ ∀ x ∈ B', SoD n x := by
  obtain ⟨a, u1, c1, ha1, ha2, hp1⟩ := draw_fact hD (m := n) hp (by omega) (by omega)
  obtain ⟨ph, u2, c2, hph, hp2⟩ := pick_fact hP (o := .own [.d (.int 0), .d (.int 0), .d (.int 0), .d (.int 1)]) (xs := [.int 0, .int 0, .int 0, .int 1]) (by simp [AV.dat, datL]) hp1 (by simp) (by simp)
  obtain ⟨kd, u3, c3, hkd, hp3⟩ := pick_fact hP (o := .own [.d (.str "feed"), .d (.str "feed"), .d (.str "maybe")]) (xs := [.str "feed", .str "feed", .str "maybe"]) (by simp [AV.dat, datL]) hp2 (by simp) (by simp)
  obtain ⟨d2, u4, c4, _, _, hp4⟩ := draw_fact hD (m := 9) hp3 (by omega) (by omega)
  have hsw : SoD n (.tuple [.int a, ph, kd]) := by
    have hk : ∃ k : Str, kd = .str k ∧ (k = "feed" ∨ k = "maybe") := by
      simp only [List.mem_cons, List.not_mem_nil, or_false] at hkd
      rcases hkd with rfl | rfl | rfl
      · exact ⟨_, rfl, .inl rfl⟩
      · exact ⟨_, rfl, .inl rfl⟩
      · exact ⟨_, rfl, .inr rfl⟩
    obtain ⟨k, rfl, hk⟩ := hk
    have hq : ∃ p : Int, ph = .int p ∧ 0 ≤ p ∧ p ≤ 9 := by
      simp only [List.mem_cons, List.not_mem_nil, or_false] at hph
      rcases hph with rfl | rfl | rfl | rfl
      · exact ⟨0, rfl, by omega, by omega⟩
      · exact ⟨0, rfl, by omega, by omega⟩
      · exact ⟨0, rfl, by omega, by omega⟩
      · exact ⟨1, rfl, by omega, by omega⟩
    obtain ⟨p, rfl, q1, q2⟩ := hq
    exact .inr ⟨a, p, k, rfl, ha1, ha2, q1, q2, hk⟩
  let z : PyData := if d2 = 0 then .tuple [] else .tuple [.int a, ph, kd]
  have hz : SoD n z := by
    by_cases h : d2 = 0
    · simp only [z, if_pos h]; exact .inl rfl
    · simp only [z, if_neg h]; exact hsw
  refine ⟨u4, B ++ [z], ?_, hp4, by simp, fun y hy => ?_⟩
  · have a0 : asgT (.ref 3) (.d x) (NS t n A B []) = some [some t, some (.d (.int 6)), some (.d (.int 8)), some (.d x), some (.d (.int n)), some (.own (A.map .d)), some (.own (B.map .d)), some (.own []), none, none, none, none, none, none] := by simp [asgT, NS]
    rw [a0]
    simp only [Option.bind_eq_bind, Option.bind_some]
    unfold oB
    refine (seq_nx (e1 := [some u3, some (.d (.int 6)), some (.d (.int 8)), some (.d x), some (.d (.int n)), some (.own (A.map .d)), some (.own (B.map .d)), some (.own []), none, none, some (.d (.tuple [.int a, ph, kd])), none, none, none]) ?_).trans ?_
    · simp [exS, evE, evL, evA, opd, look, getv, h0, h1, c1, c2, c3, AV.dat, fitL, LIM, asgT, mkTup, leafs]
    have fl : B.length ≤ 999999 := by omega
    refine (seq_nx (e1 := [some u4, some (.d (.int 6)), some (.d (.int 8)), some (.d x), some (.d (.int n)), some (.own (A.map .d)), some (.own ((B ++ [z]).map .d)), some (.own []), none, none, some (.d (.tuple [.int a, ph, kd])), none, none, none]) ?_).trans (by simp [exS, wipeE, NS])
    by_cases h : d2 = 0
    · simp [exS, evT, evE, evL, evA, opd, look, getv, h0, c4, AV.dat, fitL, LIM, isOwn, cmpV, ok_int, PyData.eqv, h, z, mkTup, leafs, fl]
    · simp [exS, evT, evE, evL, evA, opd, look, getv, h0, c4, AV.dat, fitL, LIM, isOwn, cmpV, ok_int, PyData.eqv, h, z, mkTup, leafs, fl]
  · rcases List.mem_append.mp hy with hy | hy
    · exact hB2 y hy
    · rw [List.mem_singleton.mp hy]
      exact hz
def cB : S := (.seq (.asg (.ref 11) (.tup (.cons (.call 0 (.cons (.ref 0) (.cons (.var 4) .nil))) (.cons (.bin .Add (.lit (.int 1)) (.call 0 (.cons (.ref 0) (.cons (.lit (.int 9)) .nil)))) .nil)))) (.seq (.app 7 (.ife (.cmp .Eq (.call 0 (.cons (.ref 0) (.cons (.lit (.int 9)) .nil))) (.lit (.int 0))) (.tup .nil) (.var 11))) (.seq (.fgt [3, 11]) .skip)))
theorem cu_turn {t : AV} (hp : Pot t) {n : Int} (n1 : 1 ≤ n) (n2 : n ≤ 7) {A B C : List PyData} (hC : C.length ≤ 100) (hC2 : ∀ x ∈ C, CuD n x) (x : PyData) : ∃ u C', (do let e' ← asgT (.ref 3) (.d x) (NS t n A B C); exS Φ cB e') = some (.nx, NS u n A B C') ∧ Pot u ∧ C'.length = C.length + 1 ∧ ∀ x ∈ C', CuD n x := by
  obtain ⟨a, u1, c1, ha1, ha2, hp1⟩ := draw_fact hD (m := n) hp (by omega) (by omega)
  obtain ⟨l, u2, c2, hl1, hl2, hp2⟩ := draw_fact hD (m := 9) hp1 (by omega) (by omega)
  obtain ⟨d2, u4, c4, _, _, hp4⟩ := draw_fact hD (m := 9) hp2 (by omega) (by omega)
  let z : PyData := if d2 = 0 then .tuple [] else .tuple [.int a, .int (1 + l)]
  have hz : CuD n z := by
    by_cases h : d2 = 0
    · simp only [z, if_pos h]; exact .inl rfl
    · simp only [z, if_neg h]; exact .inr ⟨a, 1 + l, rfl, ha1, ha2, by omega, by omega⟩
  refine ⟨u4, C ++ [z], ?_, hp4, by simp, fun y hy => ?_⟩
  · have a0 : asgT (.ref 3) (.d x) (NS t n A B C) = some [some t, some (.d (.int 6)), some (.d (.int 8)), some (.d x), some (.d (.int n)), some (.own (A.map .d)), some (.own (B.map .d)), some (.own (C.map .d)), none, none, none, none, none, none] := by simp [asgT, NS]
    rw [a0]
    simp only [Option.bind_eq_bind, Option.bind_some]
    unfold cB
    refine (seq_nx (e1 := [some u2, some (.d (.int 6)), some (.d (.int 8)), some (.d x), some (.d (.int n)), some (.own (A.map .d)), some (.own (B.map .d)), some (.own (C.map .d)), none, none, none, some (.d (.tuple [.int a, .int (1 + l)])), none, none]) ?_).trans ?_
    · simp [exS, evE, evL, evA, opd, look, getv, h0, h1, c1, c2, AV.dat, fitL, LIM, asgT, mkTup, leafs, binV]
    have fl : C.length ≤ 999999 := by omega
    refine (seq_nx (e1 := [some u4, some (.d (.int 6)), some (.d (.int 8)), some (.d x), some (.d (.int n)), some (.own (A.map .d)), some (.own (B.map .d)), some (.own ((C ++ [z]).map .d)), none, none, none, some (.d (.tuple [.int a, .int (1 + l)])), none, none]) ?_).trans (by simp [exS, wipeE, NS])
    by_cases h : d2 = 0
    · simp [exS, evT, evE, evL, evA, opd, look, getv, h0, c4, AV.dat, fitL, LIM, isOwn, cmpV, ok_int, PyData.eqv, h, z, mkTup, leafs, fl]
    · simp [exS, evT, evE, evL, evA, opd, look, getv, h0, c4, AV.dat, fitL, LIM, isOwn, cmpV, ok_int, PyData.eqv, h, z, mkTup, leafs, fl]
  · rcases List.mem_append.mp hy with hy | hy
    · exact hC2 y hy
    · rw [List.mem_singleton.mp hy]
      exact hz
end
end K22
namespace K22
open PySem L2 Mi

def IsNet (G : FnS) : Prop := G.n = 3 ∧ G.io = [0] ∧ ∀ t, Pot t → ∃ (n : Int) (sw so cu : List PyData) (u : AV), G.sem [t, .d (.int 6), .d (.int 8)] = some (.d (netV n sw so cu), [u]) ∧ Pot u ∧ 1 ≤ n ∧ n ≤ 7 ∧ sw.length ≤ 8 ∧ so.length ≤ 3 ∧ cu.length ≤ 4 ∧ (∀ x ∈ sw, SwD n x) ∧ (∀ x ∈ so, SoD n x) ∧ ∀ x ∈ cu, CuD n x
theorem net_ok (Φ : Phi) {D P M : FnS} (h0 : Φ[0]? = some D) (hD : IsDraw D) (h1 : Φ[1]? = some P) (hP : IsPick P) (h2 : Φ[2]? = some M) (hM : IsMixed M) : IsNet (semOf Φ d3) := by
  refine ⟨rfl, rfl, fun t hp => ?_⟩
  obtain ⟨d, u1, c1, hd1, hd2, hp1⟩ := draw_fact hD (m := 6) hp (by omega) (by omega)
  obtain ⟨n, hn⟩ : ∃ n : Int, n = 1 + d := ⟨_, rfl⟩
  have n1 : 1 ≤ n := by omega
  have n2 : n ≤ 7 := by omega
  -- the switches
  have hsw : ∃ (u2 : AV) (A : List PyData), exS Φ (.forr (.ref 3) (.bi .range1 (.cons (.ife (.cmp .Gt (.ref 4) (.lit (.int 1))) (.call 0 (.cons (.ref 0) (.cons (.bin .Add (.ref 2) (.lit (.int 1))) .nil))) (.lit (.int 0))) .nil)) sB) (NS u1 n [] [] []) = some (.nx, NS u2 n A [] []) ∧ Pot u2 ∧ A.length ≤ 8 ∧ ∀ x ∈ A, SwD n x := by
    by_cases h : 1 < n
    · obtain ⟨k, v, ck, hk1, hk2, hpv⟩ := draw_fact hD (m := 9) hp1 (by omega) (by omega)
      have hI : evI Φ (.bi .range1 (.cons (.ife (.cmp .Gt (.ref 4) (.lit (.int 1))) (.call 0 (.cons (.ref 0) (.cons (.bin .Add (.ref 2) (.lit (.int 1))) .nil))) (.lit (.int 0))) .nil)) (NS u1 n [] [] []) = some (rangeL 0 k.toNat, NS v n [] [] [], none) := by
        refine evI_r1 ?_ (okRg_small (by omega) (by omega))
        simp [evE, evT, evL, opd, look, getv, NS, cmpV, intCmp, h, binV, h0, ck]
      obtain ⟨e', q1, u2, A, rfl, q2, q3, q4⟩ := for_grow (tg := .ref 3) (b := sB) (Q := fun k e => ∃ u A, e = NS u n A [] [] ∧ Pot u ∧ A.length = k ∧ ∀ x ∈ A, SwD n x) hI ⟨v, [], rfl, hpv, rfl, fun x hx => (nomatch hx)⟩ fun i x e hi he => by
        obtain ⟨u, A, rfl, a1, a2, a3⟩ := he
        rw [rangeL_len] at hi
        obtain ⟨u', A', b1, b2, b3, b1504⟩ := sw_turn h0 hD h1 hP h2 hM a1 (by omega) n2 (by omega) a3 x
        exact ⟨_, b1, u', A', rfl, b2, by omega, b1504⟩
      rw [rangeL_len] at q3
      exact ⟨u2, A, q1, q2, by omega, q4⟩
    · have hI : evI Φ (.bi .range1 (.cons (.ife (.cmp .Gt (.ref 4) (.lit (.int 1))) (.call 0 (.cons (.ref 0) (.cons (.bin .Add (.ref 2) (.lit (.int 1))) .nil))) (.lit (.int 0))) .nil)) (NS u1 n [] [] []) = some (rangeL 0 (0 : Int).toNat, NS u1 n [] [] [], none) := by
        refine evI_r1 ?_ (okRg_small (by omega) (by omega))
        simp [evE, evT, evL, opd, look, getv, NS, cmpV, intCmp, h, binV, h0]
      refine ⟨u1, [], ?_, hp1, Nat.zero_le _, fun x hx => (nomatch hx)⟩
      rw [exS, hI]
      rfl
  obtain ⟨u2, A, r1, hp2, hA, hA2⟩ := hsw
  -- the sources
  have hso : ∃ (u3 : AV) (B : List PyData), exS Φ (.forr (.ref 3) (.bi .range1 (.cons (.call 0 (.cons (.ref 0) (.cons (.lit (.int 4)) .nil))) .nil)) oB) (NS u2 n A [] []) = some (.nx, NS u3 n A B []) ∧ Pot u3 ∧ B.length ≤ 3 ∧ ∀ x ∈ B, SoD n x := by
    obtain ⟨k, v, ck, hk1, hk2, hpv⟩ := draw_fact hD (m := 4) hp2 (by omega) (by omega)
    have hI : evI Φ (.bi .range1 (.cons (.call 0 (.cons (.ref 0) (.cons (.lit (.int 4)) .nil))) .nil)) (NS u2 n A [] []) = some (rangeL 0 k.toNat, NS v n A [] [], none) := by
      refine evI_r1 ?_ (okRg_small (by omega) (by omega))
      simp [evE, evT, evL, opd, look, getv, NS, h0, ck]
    obtain ⟨e', q1, u2, B, rfl, q2, q3, q4⟩ := for_grow (tg := .ref 3) (b := oB) (Q := fun k e => ∃ u B, e = NS u n A B [] ∧ Pot u ∧ B.length = k ∧ ∀ x ∈ B, SoD n x) hI ⟨v, [], rfl, hpv, rfl, fun x hx => (nomatch hx)⟩ fun i x e hi he => by
      obtain ⟨u, B, rfl, a1, a2, a3⟩ := he
      rw [rangeL_len] at hi
      obtain ⟨u', B', b1, b2, b3, b1504⟩ := so_turn h0 hD h1 hP h2 hM a1 n1 n2 (by omega) a3 x
      exact ⟨_, b1, u', B', rfl, b2, by omega, b1504⟩
    rw [rangeL_len] at q3
    exact ⟨u2, B, q1, q2, by omega, q4⟩
  obtain ⟨u3, B, r2, hp3, hB, hB2⟩ := hso
  -- the customers
  have hcu : ∃ (u4 : AV) (C : List PyData), exS Φ (.forr (.ref 3) (.bi .range1 (.cons (.call 0 (.cons (.ref 0) (.cons (.lit (.int 5)) .nil))) .nil)) cB) (NS u3 n A B []) = some (.nx, NS u4 n A B C) ∧ Pot u4 ∧ C.length ≤ 4 ∧ ∀ x ∈ C, CuD n x := by
    obtain ⟨k, v, ck, hk1, hk2, hpv⟩ := draw_fact hD (m := 5) hp3 (by omega) (by omega)
    have hI : evI Φ (.bi .range1 (.cons (.call 0 (.cons (.ref 0) (.cons (.lit (.int 5)) .nil))) .nil)) (NS u3 n A B []) = some (rangeL 0 k.toNat, NS v n A B [], none) := by
      refine evI_r1 ?_ (okRg_small (by omega) (by omega))
      simp [evE, evT, evL, opd, look, getv, NS, h0, ck]
    obtain ⟨e', q1, u2, C, rfl, q2, q3, q4⟩ := for_grow (tg := .ref 3) (b := cB) (Q := fun k e => ∃ u C, e = NS u n A B C ∧ Pot u ∧ C.length = k ∧ ∀ x ∈ C, CuD n x) hI ⟨v, [], rfl, hpv, rfl, fun x hx => (nomatch hx)⟩ fun i x e hi he => by
      obtain ⟨u, C, rfl, a1, a2, a3⟩ := he
      rw [rangeL_len] at hi
      obtain ⟨u', C', b1, b2, b3, b1504⟩ := cu_turn h0 hD h1 hP h2 hM a1 n1 n2 (by omega) a3 x
      exact ⟨_, b1, u', C', rfl, b2, by omega, b1504⟩
    rw [rangeL_len] at q3
    exact ⟨u2, C, q1, q2, by omega, q4⟩
  obtain ⟨u4, C, r3, hp4, hC, hC2⟩ := hcu
  refine ⟨n, A, B, C, u4, ?_, hp4, n1, n2, hA, hB, hC, hA2, hB2, hC2⟩
  refine run_rt (e := NS u4 n A B C) rfl ?_ (by simp [d3, NS, getv])
  show exS Φ b3 [some t, some (.d (.int 6)), some (.d (.int 8)), none, none, none, none, none, none, none, none, none, none, none] = _
  refine (seq_nx (e1 := NS u1 n [] [] []) ?_).trans ?_
  · simp [exS, evE, evL, evA, opd, look, getv, h0, c1, AV.dat, binV, fitL, LIM, mkTup, leafs, asgT, asgT.asgTs, NS, ← hn]
  refine (seq_nx r1).trans ?_
  refine (seq_nx r2).trans ?_
  refine (seq_nx r3).trans ?_
  refine seq_rt ?_
  have t1 : biV .tuple [.own (A.map .d)] = some (.d (.tuple A)) := by simp only [biV, AV.seq?, leafs_map, Option.map_some]
  have t2 : biV .tuple [.own (B.map .d)] = some (.d (.tuple B)) := by simp only [biV, AV.seq?, leafs_map, Option.map_some]
  have t3 : biV .tuple [.own (C.map .d)] = some (.d (.tuple C)) := by simp only [biV, AV.seq?, leafs_map, Option.map_some]
  simp [exS, evE, evL, evA, opd, look, getv, NS, AV.dat, t1, t2, t3, fitL, LIM, mkTup, leafs, netV]
end K22
namespace K22
open PySem L2 Mi
/-! the package's checks -/
theorem within_t {G : FnS} (hG : IsWithin G) {i a b : Int} (h1 : a ≤ i) (h2 : i ≤ b) (env : SEnv) : callV G [.val (.d (.int i)), .val (.d (.int a)), .val (.d (.int b))] env = some (.d (.bool true), env) := by
  obtain ⟨g1, g2, g3⟩ := hG
  have := call_d (xs := [.int i, .int a, .int b]) (env := env) g1 g2 (g3 (.int i) a b)
  simpa [h1, h2] using this
def IsChkBar (G : FnS) : Prop := G.n = 2 ∧ G.io = [] ∧ ∀ (n : Int) (sw so cu : List PyData) (b : Int), 0 ≤ b → b < n → G.sem [.d (netV n sw so cu), .d (.int b)] = some (.d .none, [])
theorem chkbar_ok (Φ : Phi) {G : FnS} (h10 : Φ[10]? = some G) (hG : IsWithin G) : IsChkBar (semOf Φ d29) := by
  refine ⟨rfl, rfl, fun n sw so cu b h0 h1 => ?_⟩
  have w := within_t hG (i := b) (a := 0) (b := n - 1) h0 (by omega)
  refine run_nx (e := [some (.d (netV n sw so cu)), some (.d (.int b))]) rfl ?_ rfl
  show exS Φ b29 _ = _
  simp [b29, d29, startE, exS, evT, evE, evL, opd, look, getv, dat_d, net1, h10, binV, w, strFit, AV.isDi, truth]
/-! customers by their positions -/
/-! the sound net -/
theorem lc_enc {α : Type} (enc : α → PyData) {f : PyData → SEnv → Option (Option AV × SEnv)} {env : SEnv} (h : α → Option AV) : ∀ {l : List α}, (∀ a ∈ l, f (enc a) env = some (h a, env)) → lcLoop f (l.map enc) env = some (l.filterMap h, env)
  | [], _ => rfl
  | a :: l, hh => by
    have h1 := hh a List.mem_cons_self
    have h2 := lc_enc enc h (l := l) fun b m => hh b (List.mem_cons_of_mem _ m)
    rw [List.map_cons, lcLoop, h1]
    simp only [Option.bind_eq_bind, Option.bind_some, h2]
    rw [List.filterMap_cons]
    cases h a <;> rfl
theorem ev_lcenc {α : Type} (enc : α → PyData) {Φ : Phi} {own : List Nat} {tg it cond elt : E} {env e1 : SEnv} {l : List α} (h : α → Option AV) (hI : evI Φ it env = some (l.map enc, e1, none)) (hfit : l.length ≤ 1000000) (hw : wipeE e1 own = e1) (ht : ∀ a ∈ l, lcTurn Φ own tg cond elt (enc a) e1 = some (h a, e1)) :
    evE Φ (.lc own tg it cond elt) env = some (.own (l.filterMap h), e1) := by
  have h1 := lc_enc enc h ht
  have h2 : fitL (l.map enc).length = true := by
    unfold fitL LIM
    rw [List.length_map]
    exact decide_eq_true hfit
  have h3 : (lcLoop (lcTurn Φ own tg cond elt) (l.map enc) (wipeE e1 own)) = some (l.filterMap h, e1) := by rw [hw]; exact h1
  unfold evE
  simp only [hI, h2, Option.bind_eq_bind, Option.bind_some, if_true]
  show (lcLoop (lcTurn Φ own tg cond elt) (l.map enc) (wipeE e1 own)).bind _ = _
  rw [h3]
  simp only [Option.bind_some, hw, putSlots_none (wipe_none hw), putBack]
theorem fmap_if {α β : Type} (p : α → Bool) (f : α → β) : ∀ l : List α, (l.filterMap fun a => if p a then some (f a) else none) = (l.filter p).map f
  | [] => rfl
  | a :: l => by
    have ih := fmap_if p f l
    rw [List.filterMap_cons]
    cases h : p a with
    | true => rw [List.filter_cons_of_pos h, List.map_cons, ← ih]; rfl
    | false => rw [List.filter_cons_of_neg (by simp [h]), ← ih]; rfl
theorem fmap_some {α β : Type} (f : α → β) (l : List α) : l.filterMap (fun a => some (f a)) = l.map f := by
  rw [List.filterMap_eq_map']
/-! the package's tests of what is lost -/
def zV (tu : Bool) (X : List Int) : PyData := if tu then jobV X else intL X
theorem inV_z (tu : Bool) (X : List Int) (x : Int) : inVal true (.d (.int x)) (.d (zV tu X)) = some (!decide (x ∈ X)) := by
  cases tu
  · exact inV_list X x true
  · exact inV_tup X x true
theorem z_or (tu : Bool) (X : List Int) : zV tu X = .tuple (X.map .int) ∨ zV tu X = .list (X.map .int) := by
  cases tu
  · exact .inr rfl
  · exact .inl rfl
def IsList (G : FnS) : Prop := G.n = 1 ∧ G.io = [] ∧ ∀ (tu : Bool) (X : List Int), G.sem [.d (zV tu X)] = some (.d (.bool true), [])
theorem list_ok (Φ : Phi) : IsList (semOf Φ d19) := by
  refine ⟨rfl, rfl, fun tu X => ?_⟩
  refine run_rt (e := [some (.d (zV tu X))]) rfl ?_ rfl
  show exS Φ b19 _ = _
  cases tu <;> simp [b19, d19, startE, exS, evE, opd, look, getv, zV, jobV, intL, dat_d, isiD]
def IsCount (G : FnS) : Prop := G.n = 1 ∧ G.io = [] ∧ ∀ i : Int, 0 ≤ i → G.sem [.d (.int i)] = some (.d (.bool true), [])
theorem count_ok (Φ : Phi) {G : FnS} (h8 : Φ[9]? = some G) (hG : IsInteger G) : IsCount (semOf Φ d20) := by
  obtain ⟨g1, g2, g3⟩ := hG
  refine ⟨rfl, rfl, fun i hi => ?_⟩
  have w : ∀ env : SEnv, callV G [.val (.d (.int i))] env = some (.d (.bool true), env) := fun env => call_d (xs := [.int i]) (env := env) g1 g2 (g3 (.int i))
  refine run_rt (e := [some (.d (.int i))]) rfl ?_ rfl
  show exS Φ b20 _ = _
  simp [b20, d20, startE, exS, evE, evL, opd, look, getv, dat_d, h8, w, cmpV, intCmp, hi]
/-- positions of switches, rising -/
def Lots (sw : List PyData) (X : List Int) : Prop := (X.Pairwise fun a b => a < b) ∧ ∀ x ∈ X, x ∈ places (swU sw)
theorem places_at {n : Int} {sw so cu : List PyData} (hN : NetD n sw so cu) {x : Int} (h : x ∈ places (swU sw)) : 0 ≤ x ∧ x < (sw.length : Int) ∧ ∃ y, ixV (.d (.tuple sw)) (.d (.int x)) = some (.d y) ∧ eqOk y = true ∧ PyData.eqv y (.tuple []) = false := by
  obtain ⟨u, hu, rfl⟩ := List.mem_map.mp h
  obtain ⟨h0, h1⟩ := swU_lt hu
  obtain ⟨k, d, hk⟩ := (swU_ok hN).at_ u hu
  have hm : (.tuple [.int u.2.1, .int u.2.2, .str k, d]) ∈ sw := by
    have h2 := hk
    rw [show u.1 = ((u.1.toNat : Nat) : Int) by omega, atI_nat _ _ (by omega)] at h2
    exact List.mem_of_getElem? h2
  refine ⟨h0, h1, .tuple [.int u.2.1, .int u.2.2, .str k, d], by simp only [ixV, hk, Option.map_some], ?_, by simp [PyData.eqv, PyData.eqvAll]⟩
  rcases hN.w1 _ hm with h2 | ⟨a, b, k', d', h2, _, _, _, _, _, hk, hd⟩
  · cases h2
  · rw [h2]
    have sok : PyData.strOk k' = true := by rcases hk with rfl | rfl <;> decide +kernel
    have dok : Dk 0 d' := by
      rcases hd with rfl | ⟨z, rfl, _, _⟩
      · exact dk_none
      · exact dk_int z
    exact (dk_tuple (n := 0) (xs := [.int a, .int b, .str k', d']) fun x hx => by
      simp only [List.mem_cons, List.mem_nil_iff, or_false] at hx
      rcases hx with rfl | rfl | rfl | rfl
      · exact dk_int a
      · exact dk_int b
      · exact dk_str sok
      · exact dok).ok (by decide)
def IsAre (G : FnS) : Prop := G.n = 2 ∧ G.io = [] ∧ ∀ (n : Int) (sw so cu : List PyData) (tu : Bool) (X : List Int), NetD n sw so cu → Lots sw X → G.sem [.d (netV n sw so cu), .d (zV tu X)] = some (.d (.bool true), [])
theorem up_len {m : Nat} : ∀ {X : List Int}, (X.Pairwise fun a b => a < b) → (∀ x ∈ X, 0 ≤ x ∧ x < (m : Int)) → X.length ≤ m := fun {X} h hb => by
  have hnd : X.Nodup := h.imp fun {a b} hab => by omega
  refine nodup_len m X hnd fun x hx => ?_
  have := hb x hx
  omega
theorem lots_len {n : Int} {sw so cu : List PyData} (hN : NetD n sw so cu) {X : List Int} (hX : Lots sw X) : X.length ≤ 90 := by
  have := up_len hX.1 (m := sw.length) fun x hx => ⟨(places_at hN (hX.2 x hx)).1, (places_at hN (hX.2 x hx)).2.1⟩
  have := hN.s1
  omega
theorem are_ok (Φ : Phi) {L C : FnS} (h28 : Φ[19]? = some L) (hL : IsList L) (h29 : Φ[20]? = some C) (hC : IsCount C) : IsAre (semOf Φ d21) := by
  obtain ⟨l1, l2, l3⟩ := hL
  obtain ⟨c1, c2, c3⟩ := hC
  refine ⟨rfl, rfl, fun n sw so cu tu X hN hX => ?_⟩
  have wl : ∀ env : SEnv, callV L [.val (.d (zV tu X))] env = some (.d (.bool true), env) := fun env => call_d (xs := [zV tu X]) (env := env) l1 l2 (l3 tu X)
  have wc : ∀ x ∈ X, ∀ env : SEnv, callV C [.val (.d (.int x))] env = some (.d (.bool true), env) := fun x hx env => call_d (xs := [.int x]) (env := env) c1 c2 (c3 x (places_at hN (hX.2 x hx)).1)
  have hlen := lots_len hN hX
  let e0 : SEnv := [some (.d (netV n sw so cu)), some (.d (zV tu X)), none, none]
  have hl : (X.map PyData.int).length ≤ 1000000 := by rw [List.length_map]; omega
  have hI : evI Φ (.cons (.var 1) .nil) e0 = some (X.map .int, e0, none) := evI_var (x := zV tu X) rfl (z_or tu X)
  have a1 : evE Φ (.bi .all (.cons (.lc [2] (.ref 2) (.cons (.var 1) .nil) .nil (.and (.call 20 (.cons (.var 2) .nil)) (.cmp .Lt (.ref 2) (.bi .len (.cons (.ix (.ref 0) (.lit (.int 2))) .nil))))) .nil)) e0 = some (.d (.bool true), e0) := ev_all hI hl rfl fun x hx => by
    obtain ⟨i, hi, rfl⟩ := List.mem_map.mp hx
    refine turn_ref (by simp [e0]) rfl ?_
    have hlt := (places_at hN (hX.2 i hi)).2.1
    simp [evE, evL, opd, look, getv, e0, dat_d, h29, wc i hi, net2, biV, cmpV, intCmp, hlt]
  have a2 : evE Φ (.bi .all (.cons (.lc [2] (.ref 2) (.cons (.var 1) .nil) .nil (.cmp .NotEq (.ix (.ix (.ref 0) (.lit (.int 2))) (.ref 2)) (.tup .nil))) .nil)) e0 = some (.d (.bool true), e0) := ev_all hI hl rfl fun x hx => by
    obtain ⟨i, hi, rfl⟩ := List.mem_map.mp hx
    refine turn_ref (by simp [e0]) rfl ?_
    obtain ⟨_, _, y, hy, ok, ne⟩ := places_at hN (hX.2 i hi)
    have e2 : eqOk (.tuple []) = true := by decide
    simp [evE, evA, opd, look, getv, e0, dat_d, net2, hy, ok, ne, e2, cmpV, mkTup, leafs, fitL, LIM]
  have hZ : evI Φ (.bi .zip (.cons (.var 1) (.cons (.frz (.slc (.ref 1) (.cons (.lit (.int 1)) .nil) .nil)) .nil))) e0 = some (zipL (X.map .int) ((X.map .int).drop 1), e0, none) := by
    have d1 : (fr ((X.map PyData.int).drop 1)).dat = .list ((X.map .int).drop 1) := by
      rw [fr, AV.dat, datL_map AV.d (fun z => z) dat_d]
      exact congrArg PyData.list (List.map_id _)
    cases tu
    · have s1 : slcV (.d (intL X)) (some 1) none = some (fr ((X.map PyData.int).drop 1)) := by simp [slcV, AV.lst?, intL, cut1]
      have z1 : zV false X = intL X := rfl
      simp only [z1, e0]
      simp [evI, evE, evP, opd, look, getv, dat_d, s1, d1, -List.map_drop, -List.drop_one]
      rfl
    · simp [evI, evE, evP, opd, look, getv, e0, dat_d, zV, jobV, slcV, AV.lst?, AV.tup?, cut1]
  have a3 : evE Φ (.bi .all (.cons (.lc [2, 3] (.tup (.cons (.ref 2) (.cons (.ref 3) .nil))) (.bi .zip (.cons (.var 1) (.cons (.frz (.slc (.ref 1) (.cons (.lit (.int 1)) .nil) .nil)) .nil))) .nil (.cmp .Lt (.ref 2) (.ref 3))) .nil)) e0 = some (.d (.bool true), e0) := ev_all hZ (by simp [zipL]; omega) rfl fun x hx => by
    obtain ⟨⟨y, z⟩, hp, rfl⟩ := List.mem_map.mp hx
    rw [← List.map_drop, List.zip_map] at hp
    obtain ⟨⟨i, j⟩, hij, he⟩ := List.mem_map.mp hp
    cases he
    have := zip_up hX.1 _ hij
    simp [lcTurn, asgT, asgT.asgTs, e0, evC, evE, opd, look, getv, cmpV, intCmp, this, wipeE]
  refine run_rt (e := e0) rfl ?_ rfl
  show exS Φ b21 e0 = _
  refine (seq_nx (e1 := e0) (ife_skip ?_)).trans (seq_rt (ret_e ?_))
  · rw [evT_or_f (e1 := e0) (evT_not (k := true) (evT_call (ev_call1 h28 (opd_var (x := zV tu X) rfl) (wl e0))))]
    exact evT_not (k := true) (evT_bi a1)
  · rw [evE, a2]
    simp only [Option.bind_eq_bind, Option.bind_some]
    exact a3
def IsChkLost (G : FnS) : Prop := G.n = 2 ∧ G.io = [] ∧ ∀ (n : Int) (sw so cu : List PyData) (tu : Bool) (X : List Int), NetD n sw so cu → Lots sw X → G.sem [.d (netV n sw so cu), .d (zV tu X)] = some (.d .none, [])
theorem chklost_ok (Φ : Phi) {A : FnS} (h30 : Φ[21]? = some A) (hA : IsAre A) : IsChkLost (semOf Φ d22) := by
  obtain ⟨g1, g2, g3⟩ := hA
  refine ⟨rfl, rfl, fun n sw so cu tu X hN hX => ?_⟩
  have w : ∀ env : SEnv, callV A [.val (.d (netV n sw so cu)), .val (.d (zV tu X))] env = some (.d (.bool true), env) := fun env => call_d (xs := [netV n sw so cu, zV tu X]) (env := env) g1 g2 (g3 n sw so cu tu X hN hX)
  let e0 : SEnv := [some (.d (netV n sw so cu)), some (.d (zV tu X))]
  refine run_nx (e := e0) rfl ?_ rfl
  show exS Φ b22 e0 = _
  exact (seq_nx (ife_skip (evT_not (k := true) (evT_call (ev_call2 (a := .var 0) (b := .var 1) h30 (opd_var (x := netV n sw so cu) rfl) (opd_var (x := zV tu X) rfl) (w e0)))))).trans (by rw [exS])
/-! the worst loss -/
/-! what the sound net is -/
theorem cnt_sub {U : List Swt} (nd : (U.map (·.1)).Nodup) {S : List Int} (h : S.Sublist (U.map (·.1))) : (U.filter fun u => decide (u.1 ∈ S)).length ≤ S.length := by
  have key : ∀ (U : List Swt) (S : List Int), (U.map (·.1)).Nodup → S.Sublist (U.map (·.1)) → (U.filter fun u => decide (u.1 ∈ S)).length ≤ S.length := by
    intro U
    induction U with
    | nil => intro S _ _; simp
    | cons u U ih =>
      intro S nd h
      rw [List.map_cons, List.nodup_cons] at nd
      rw [List.map_cons] at h
      cases h with
      | cons _ h =>
        have hn : u.1 ∉ S := fun m => nd.1 (h.subset m)
        rw [List.filter_cons_of_neg (by simp [hn])]
        exact ih S nd.2 h
      | @cons_cons S' _ _ h =>
        have e : (U.filter fun v => decide (v.1 ∈ u.1 :: S')) = U.filter fun v => decide (v.1 ∈ S') := by
          refine List.filter_congr fun v hv => ?_
          have hne : v.1 ≠ u.1 := fun e => nd.1 (e ▸ List.mem_map_of_mem (f := (·.1)) hv)
          simp [hne]
        rw [List.filter_cons_of_pos (by simp), List.length_cons, List.length_cons, e]
        have := ih S' nd.2 h
        omega
  exact key U S nd h
end K22
namespace K22
open PySem L2 Mi

/-! all that is joined to a bar -/
def JE (nr : PyData) (bg wv : AV) (F : List Int) : SEnv := [some (.d nr), some bg, some (.own (intV F)), some wv, none, none, none, none]
def JI (nr : PyData) (bg : AV) (F : List Int) (S : List Int) (L : List Int) (bar : Option AV) : SEnv := [some (.d nr), some bg, some (.own (intV F)), some (.d (intL S)), some (.own (intV L)), bar, none, none]
def jB : S := (.seq (.ife (.cmp .NotIn (.ref 7) (.ref 2)) (.seq (.app 2 (.var 7)) (.seq (.app 4 (.var 7)) .skip)) .skip) (.seq (.fgt [6, 7]) .skip))
def jO : S := (.seq (.forr (.tup (.cons (.ref 6) (.cons (.ref 7) .nil))) (.cons (.ix (.ref 0) (.ref 5)) .nil) jB) (.seq (.fgt [5, 6, 7]) .skip))
def jW : S := (.seq (.asg (.ref 4) (.lst .nil)) (.seq (.forr (.ref 5) (.cons (.var 3) .nil) jO) (.seq (.asg (.ref 3) (.mv 4)) (.seq (.fgt [4, 5, 6, 7]) .skip))))
/-! the blocks -/
/-! all that is joined to a bar -/
theorem join_turn {Φ : Phi} {nr : PyData} {bg : AV} {F S L : List Int} {bar : Option AV} {p : Int × Int} (hF : F.length ≤ 1000) (hL : L.length ≤ 1000) :
    (do let e' ← asgT (.tup (.cons (.ref 6) (.cons (.ref 7) .nil))) (.d (pr p)) (JI nr bg F S L bar); exS Φ jB e') = some (.nx, if p.2 ∈ F then JI nr bg F S L bar else JI nr bg (F ++ [p.2]) S (L ++ [p.2]) bar) := by
  let e1 : SEnv := [some (.d nr), some bg, some (.own (intV F)), some (.d (intL S)), some (.own (intV L)), bar, some (.d (.int p.1)), some (.d (.int p.2))]
  have a0 : asgT (.tup (.cons (.ref 6) (.cons (.ref 7) .nil))) (.d (pr p)) (JI nr bg F S L bar) = some e1 := by simp [asgT, asgT.asgTs, JI, pr, e1]
  rw [a0]
  simp only [Option.bind_eq_bind, Option.bind_some]
  have hT := evT_notin (Φ := Φ) (env := e1) (i := 7) (j := 2) rfl rfl (inV_own F p.2 true)
  unfold jB
  by_cases h : p.2 ∈ F
  · rw [if_pos h]
    have hT' : evT Φ (.cmp .NotIn (.ref 7) (.ref 2)) e1 = some (false, e1) := by
      rw [hT]
      simp [h]
    exact (seq_nx (ife_skip hT')).trans (by simp [exS, wipeE, JI, e1])
  · rw [if_neg h]
    have hT' : evT Φ (.cmp .NotIn (.ref 7) (.ref 2)) e1 = some (true, e1) := by
      rw [hT]
      simp [h]
    let e2 : SEnv := [some (.d nr), some bg, some (.own (intV (F ++ [p.2]))), some (.d (intL S)), some (.own (intV L)), bar, some (.d (.int p.1)), some (.d (.int p.2))]
    let e3 : SEnv := [some (.d nr), some bg, some (.own (intV (F ++ [p.2]))), some (.d (intL S)), some (.own (intV (L ++ [p.2]))), bar, some (.d (.int p.1)), some (.d (.int p.2))]
    have f1 : fitL (F.length + 1) = true := by
      unfold fitL LIM
      rw [decide_eq_true_eq]
      omega
    have f2 : fitL (L.length + 1) = true := by
      unfold fitL LIM
      rw [decide_eq_true_eq]
      omega
    refine (seq_nx (e1 := e3) ((ife_t hT').trans ?_)).trans (by simp [exS, wipeE, JI, e3])
    refine (seq_nx (e1 := e2) ?_).trans ?_
    · simp [exS, evE, getv, isOwn, intV_length, f1, AV.dat, intV_append, e1, e2]
      simp [intV]
    · simp [exS, evE, getv, isOwn, intV_length, f2, AV.dat, intV_append, e2, e3]
      simp [intV]
theorem snoc_nodup {K : List Int} {y : Int} (h : K.Nodup) (hy : y ∉ K) : (K ++ [y]).Nodup := by
  rw [List.nodup_append]
  refine ⟨h, by simp, fun a ha b hb e => ?_⟩
  rw [List.mem_singleton.mp hb] at e
  exact hy (e ▸ ha)
/-- beside one another, by some row -/
def Nbr (P : List Sw) (x z : Int) : Prop := ∃ u ∈ P, (u.2.1 = x ∧ u.2.2 = z) ∨ (u.2.2 = x ∧ u.2.1 = z)
theorem Nbr.rc {P : List Sw} {B : List Int} {x z : Int} (h : Nbr P x z) (hx : Rc (links P) B [] x) : Rc (links P) B [] z := by
  obtain ⟨u, hu, h | h⟩ := h
  · obtain ⟨rfl, rfl⟩ := h
    exact .fwd hx (List.mem_map.mpr ⟨u, hu, rfl⟩) (by simp)
  · obtain ⟨rfl, rfl⟩ := h
    exact .bwd hx (List.mem_map.mpr ⟨u, hu, rfl⟩) (by simp)
theorem nbr_of {n : Int} {N : List (List (Int × Int))} {P : List Sw} (h : NI n N P) {x : Int} (h0 : 0 ≤ x) {q : Int × Int} (hq : q ∈ nb N x) : Nbr P x q.2 := by
  obtain ⟨u, hu, _, h2⟩ := h.from_ x h0 q hq
  exact ⟨u, hu, h2⟩
theorem of_nbr {n : Int} {N : List (List (Int × Int))} {P : List Sw} (h : NI n N P) {x z : Int} (hz : Nbr P x z) : ∃ q ∈ nb N x, q.2 = z := by
  obtain ⟨u, hu, h2 | h2⟩ := hz
  · obtain ⟨rfl, rfl⟩ := h2
    exact ⟨_, (h.to_ u hu).1, rfl⟩
  · obtain ⟨rfl, rfl⟩ := h2
    exact ⟨_, (h.to_ u hu).2, rfl⟩
structure JX (n : Int) (P : List Sw) (B : List Int) (F0 F L : List Int) : Prop where
  eq : F = F0 ++ L
  nd : F.Nodup
  bar : ∀ x ∈ F, 0 ≤ x ∧ x < n
  rc : ∀ x ∈ F, Rc (links P) B [] x
section
variable {n : Int} {P : List Sw} {B : List Int}
theorem JX.len (hn : n ≤ 60) {F0 F L : List Int} (h : JX n P B F0 F L) : F.length ≤ 60 ∧ L.length ≤ F.length := by
  refine ⟨nodup_len 60 F h.nd fun x hx => ?_, by rw [h.eq, List.length_append]; omega⟩
  have := h.bar x hx
  omega
theorem join_for1 {Φ : Phi} {nr : PyData} {bg : AV} (hn : n ≤ 60) {F0 S : List Int} {bar : Option AV} : ∀ (l : List (Int × Int)) (F L : List Int), (∀ p ∈ l, (0 ≤ p.2 ∧ p.2 < n) ∧ Rc (links P) B [] p.2) → JX n P B F0 F L →
    ∃ F' L', forI (fun y e => do let e' ← asgT (.tup (.cons (.ref 6) (.cons (.ref 7) .nil))) (.d y) e; exS Φ jB e') (l.map pr) (JI nr bg F S L bar) = some (.nx, JI nr bg F' S L' bar) ∧ JX n P B F0 F' L' ∧ (∀ p ∈ l, p.2 ∈ F') ∧ ∀ x ∈ F, x ∈ F'
  | [], F, L, _, h => ⟨F, L, rfl, h, fun _ m => (nomatch m), fun _ m => m⟩
  | p :: l, F, L, hl, h => by
    have hlen := h.len hn
    have ht := join_turn (Φ := Φ) (nr := nr) (bg := bg) (F := F) (S := S) (L := L) (bar := bar) (p := p) (by omega) (by omega)
    rw [List.map_cons, forI]
    simp only [ht, Option.bind_eq_bind, Option.bind_some]
    by_cases hp : p.2 ∈ F
    · rw [if_pos hp]
      obtain ⟨F', L', h1, h2, h3, h4⟩ := join_for1 (Φ := Φ) (nr := nr) (bg := bg) hn (S := S) (bar := bar) l F L (fun q hq => hl q (List.mem_cons_of_mem _ hq)) h
      simp only [Option.bind_eq_bind] at h1
      refine ⟨F', L', h1, h2, fun q hq => ?_, h4⟩
      rcases List.mem_cons.mp hq with rfl | hq
      · exact h4 _ hp
      · exact h3 q hq
    · rw [if_neg hp]
      obtain ⟨F', L', h1, h2, h3, h4⟩ := join_for1 (Φ := Φ) (nr := nr) (bg := bg) hn (S := S) (bar := bar) l (F ++ [p.2]) (L ++ [p.2]) (fun q hq => hl q (List.mem_cons_of_mem _ hq)) ⟨by rw [h.eq, List.append_assoc], snoc_nodup h.nd hp, fun x hx => by
        rcases List.mem_append.mp hx with hx | hx
        · exact h.bar x hx
        · rw [List.mem_singleton.mp hx]
          exact (hl p List.mem_cons_self).1, fun x hx => by
        rcases List.mem_append.mp hx with hx | hx
        · exact h.rc x hx
        · rw [List.mem_singleton.mp hx]
          exact (hl p List.mem_cons_self).2⟩
      simp only [Option.bind_eq_bind] at h1
      refine ⟨F', L', h1, h2, fun q hq => ?_, fun x hx => h4 x (List.mem_append_left _ hx)⟩
      rcases List.mem_cons.mp hq with rfl | hq
      · exact h4 _ (List.mem_append_right _ (List.mem_singleton.mpr rfl))
      · exact h3 q hq
theorem join_for2 {Φ : Phi} {bg : AV} (hn : n ≤ 60) {N : List (List (Int × Int))} (hN : NI n N P) (hP : ∀ x z, Nbr P x z → 0 ≤ z ∧ z < n) {F0 S : List Int} : ∀ (Q : List Int) (F L : List Int), (∀ b ∈ Q, (0 ≤ b ∧ b < n) ∧ Rc (links P) B [] b) → JX n P B F0 F L →
    ∃ F' L', forI (fun y e => do let e' ← asgT (.ref 5) (.d y) e; exS Φ jO e') (Q.map .int) (JI (nearV N) bg F S L none) = some (.nx, JI (nearV N) bg F' S L' none) ∧ JX n P B F0 F' L' ∧ (∀ b ∈ Q, ∀ z, Nbr P b z → z ∈ F') ∧ ∀ x ∈ F, x ∈ F'
  | [], F, L, _, h => ⟨F, L, rfl, h, fun _ m => (nomatch m), fun _ m => m⟩
  | b :: Q, F, L, hQ, h => by
    obtain ⟨hin, hrc⟩ := hQ b List.mem_cons_self
    have hl := hN.len
    obtain ⟨F1, L1, h1, h2, h3, h4⟩ := join_for1 (Φ := Φ) (nr := nearV N) (bg := bg) (P := P) (B := B) hn (S := S) (bar := some (.d (.int b))) (nb N b) F L (fun p hp => ⟨hP b p.2 (nbr_of hN hin.1 hp), (nbr_of hN hin.1 hp).rc hrc⟩) h
    have hx := near_at (N := N) hin.1 (by omega)
    have ht : (do let e' ← asgT (.ref 5) (.d (.int b)) (JI (nearV N) bg F S L none); exS Φ jO e') = some (.nx, JI (nearV N) bg F1 S L1 none) := by
      have a0 : asgT (.ref 5) (.d (.int b)) (JI (nearV N) bg F S L none) = some (JI (nearV N) bg F S L (some (.d (.int b)))) := by simp [asgT, JI]
      rw [a0]
      simp only [Option.bind_eq_bind, Option.bind_some]
      unfold jO
      refine (seq_nx (e1 := JI (nearV N) bg F1 S L1 (some (.d (.int b)))) ?_).trans (by simp [exS, wipeE, JI])
      have hI : evI Φ (.cons (.ix (.ref 0) (.ref 5)) .nil) (JI (nearV N) bg F S L (some (.d (.int b)))) = some ((nb N b).map pr, JI (nearV N) bg F S L (some (.d (.int b))), none) := by
        simp [evI, evE, opd, look, getv, JI, hx, AV.seq?]
      rw [exS, hI]
      simp only [heldOk, Option.bind_eq_bind, Option.bind_some, if_true]
      simp only [Option.bind_eq_bind] at h1
      rw [h1]
      rfl
    obtain ⟨F', L', g1, g2, g3, g4⟩ := join_for2 (Φ := Φ) (bg := bg) hn hN hP (S := S) Q F1 L1 (fun c hc => hQ c (List.mem_cons_of_mem _ hc)) h2
    refine ⟨F', L', ?_, g2, fun c hc z hz => ?_, fun x hx => g4 x (h4 x hx)⟩
    · rw [List.map_cons, forI]
      simp only [ht, Option.bind_eq_bind, Option.bind_some]
      simp only [Option.bind_eq_bind] at g1
      exact g1
    · rcases List.mem_cons.mp hc with rfl | hc
      · obtain ⟨q, hq, rfl⟩ := of_nbr hN hz
        exact g4 _ (h3 q hq)
      · exact g3 c hc z hz
theorem join_loop {Φ : Phi} {bg : AV} (hn : n ≤ 60) {N : List (List (Int × Int))} (hN : NI n N P) (hP : ∀ x z, Nbr P x z → 0 ≤ z ∧ z < n) : ∀ (k : Nat) (F S : List Int) (wv : AV), wv.dat = intL S → 2 * (60 - F.length) + (if S = [] then 0 else 1) ≤ k → (∀ b ∈ S, b ∈ F) → JX n P B F F [] → (∀ b ∈ B, b ∈ F) → (∀ x ∈ F, x ∉ S → ∀ z, Nbr P x z → z ∈ F) →
    ∃ F' wv', whileI (evT Φ (.cmp .NotEq (.ref 3) (.lst .nil))) (exS Φ jW) (JE (nearV N) bg wv F) = some (.nx, JE (nearV N) bg wv' F') ∧ JX n P B F' F' [] ∧ (∀ b ∈ B, b ∈ F') ∧ ∀ x ∈ F', ∀ z, Nbr P x z → z ∈ F' := by
  intro k
  induction k with
  | zero =>
    intro F S wv hw hk _ h hb hc
    have : S = [] := by
      by_cases e : S = []
      · exact e
      · rw [if_neg e] at hk
        omega
    subst this
    exact ⟨F, wv, while_f (by rw [evT_ne rfl hw]; rfl), h, hb, fun x hx => hc x hx (fun m => nomatch m)⟩
  | succ k ih =>
    intro F S wv hw hk hS h hb hc
    by_cases e : S = []
    · subst e
      exact ⟨F, wv, while_f (by rw [evT_ne rfl hw]; rfl), h, hb, fun x hx => hc x hx (fun m => nomatch m)⟩
    · rw [if_neg e] at hk
      obtain ⟨F', L, h1, h2, h3, h4⟩ := join_for2 (Φ := Φ) (bg := bg) hn hN hP (B := B) (F0 := F) (S := S) S F [] (fun b hbS => ⟨h.bar b (hS b hbS), h.rc b (hS b hbS)⟩) h
      have hst : exS Φ jW (JE (nearV N) bg wv F) = some (.nx, JE (nearV N) bg (.own (intV L)) F') := by
        unfold jW
        let e1 : SEnv := [some (.d (nearV N)), some bg, some (.own (intV F)), some wv, some (.own (intV [])), none, none, none]
        refine (seq_nx (e1 := e1) (by simp [exS, evE, evA, fitL, LIM, asgT, JE, e1, intV])).trans ?_
        refine (seq_nx (e1 := JI (nearV N) bg F' S L none) ?_).trans ?_
        · have hI : evI Φ (.cons (.var 3) .nil) e1 = some (S.map .int, JI (nearV N) bg F S [] none, none) := by
            simp [evI, evE, getv, e1, hw, JI, AV.seq?, intL]
          rw [exS, hI]
          simp only [heldOk, Option.bind_eq_bind, Option.bind_some, if_true]
          simp only [Option.bind_eq_bind] at h1
          rw [h1]
          rfl
        · simp [exS, evE, getv, JI, asgT, wipeE, JE]
      have hne : S.isEmpty = false := by
        cases S with
        | nil => exact absurd rfl e
        | cons a b => rfl
      rw [while_t (e1 := JE (nearV N) bg wv F) (by rw [evT_ne rfl hw, hne]; rfl) hst]
      have hl := (h2.len hn).1
      have hFL : F'.length = F.length + L.length := by rw [h2.eq, List.length_append]
      refine ih F' L (.own (intV L)) (dat_intV L) ?_ (fun b hbL => by rw [h2.eq]; exact List.mem_append_right _ hbL) ⟨by simp, h2.nd, h2.bar, h2.rc⟩ (fun b hbB => h4 b (hb b hbB)) fun x hx hxL z hz => ?_
      · by_cases eL : L = []
        · rw [if_pos eL]
          omega
        · rw [if_neg eL]
          have : 0 < L.length := List.length_pos_iff.mpr eL
          omega
      · have hxF : x ∈ F := by
          rw [h2.eq] at hx
          exact (List.mem_append.mp hx).resolve_right hxL
        by_cases hxS : x ∈ S
        · exact h3 x hxS z hz
        · exact h4 z (hc x hxF hxS z hz)
end
def IsJoin (G : FnS) : Prop := G.n = 2 ∧ G.io = [] ∧ ∀ (n : Int) (N : List (List (Int × Int))) (P : List Sw) (B : List Int), n ≤ 60 → NI n N P → (∀ x z, Nbr P x z → 0 ≤ z ∧ z < n) → B.Nodup → (∀ b ∈ B, 0 ≤ b ∧ b < n) → ∃ F : List Int, G.sem [.d (nearV N), .d (intL B)] = some (.own (intV F), []) ∧ (∀ x, x ∈ F ↔ Rc (links P) B [] x) ∧ F.Pairwise fun a b => a < b
theorem join_ok (Φ : Phi) : IsJoin (semOf Φ d23) := by
  refine ⟨rfl, rfl, fun n N P B hn hN hP hBn hB => ?_⟩
  have hBl := nodup_len 60 B hBn fun x hx => by have := hB x hx; omega
  obtain ⟨F, wv, h1, h2, h3, h4⟩ := join_loop (Φ := Φ) (bg := .d (intL B)) (B := B) hn hN hP _ B B (.d (intL B)) (dat_d _) (Nat.le_refl _) (fun c hc => hc) ⟨by simp, hBn, hB, fun x hx => .base hx (by simp)⟩ (fun c hc => hc) (fun x hx hn => absurd hx hn)
  have hFl := (h2.len hn).1
  obtain ⟨F', h5, h6, h7⟩ := sort_up (F := F) (by omega) h2.nd
  refine ⟨F', ?_, fun x => ?_, h7⟩
  · let e0 : SEnv := [some (.d (nearV N)), some (.d (intL B)), none, none, none, none, none, none]
    refine run_rt (e := JE (nearV N) (.d (intL B)) wv F) rfl ?_ rfl
    show exS Φ b23 e0 = _
    refine (seq_nx (e1 := JE (nearV N) (.d (intL B)) (.d (intL B)) B) ?_).trans ?_
    · have hq : biV .list [.d (intL B)] = some (fr (B.map .int)) := rfl
      have hq2 : fr (B.map .int) = .own (intV B) := by simp [fr, intV]
      rw [hq2] at hq
      have hq3 : (AV.own (intV B)).dat = intL B := dat_intV B
      simp [exS, evE, evL, opd, look, getv, e0, hq, hq3, JE]
    refine (seq_nx (e1 := JE (nearV N) (.d (intL B)) wv F) (by rw [exS]; exact h1)).trans (seq_rt ?_)
    have hb : biV .sorted [.own (intV F)] = some (.own (intV F')) := by
      simp only [biV, AV.lst?, leafs_intV, h5, fr, Option.bind_some, Option.map_some, List.map_map]
      rfl
    simp [exS, evE, evL, opd, look, getv, JE, hb]
  · rw [h6.mem_iff]
    constructor
    · exact fun hx => h2.rc x hx
    · exact fun hx => Rc.sub (fun b hb _ => h3 b hb) (fun a b hab => by
        obtain ⟨u, hu, he⟩ := List.mem_map.mp hab
        have e1 : u.2.1 = a := by rw [he]
        have e2 : u.2.2 = b := by rw [he]
        exact ⟨fun ha _ => h4 a ha b ⟨u, hu, .inl ⟨e1, e2⟩⟩, fun hb _ => h4 b hb a ⟨u, hu, .inr ⟨e2, e1⟩⟩⟩) hx
end K22
namespace K22
open PySem L2 Mi

/-! what is reached behind lost switches -/
def IsReachB (G : FnS) : Prop := G.n = 2 ∧ G.io = [] ∧ ∀ (n : Int) (sw so cu : List PyData) (S0 : List Int) (z : PyData), NetD n sw so cu → (∀ x : Int, inVal true (.d (.int x)) (.d z) = some (!decide (x ∈ S0))) → ∃ F : List Int, G.sem [.d (netV n sw so cu), .d z] = some (.own (intV F), []) ∧ (∀ x, x ∈ F ↔ Rc (links (restU sw S0)) (feeds so) [] x) ∧ F.Pairwise fun a b => a < b
theorem rest_in {n : Int} {sw so cu : List PyData} (hN : NetD n sw so cu) (S0 : List Int) : ∀ x z, Nbr (restU sw S0) x z → 0 ≤ z ∧ z < n := by
  rintro x z ⟨u, hu, h⟩
  have := (swU_ok hN).in_ u (List.mem_filter.mp hu).1
  rcases h with ⟨_, rfl⟩ | ⟨_, rfl⟩
  · exact this.2
  · exact this.1
theorem reachb_ok (Φ : Phi) {T J B : FnS} (h21 : Φ[25]? = some T) (hT : IsTable T) (h19 : Φ[23]? = some J) (hJ : IsJoin J) (h22 : Φ[26]? = some B) (hB : IsFeedBars B) : IsReachB (semOf Φ d27) := by
  obtain ⟨t1, t2, t3⟩ := hT
  obtain ⟨j1, j2, j3⟩ := hJ
  obtain ⟨f1, f2, f3⟩ := hB
  refine ⟨rfl, rfl, fun n sw so cu S0 z hN hz => ?_⟩
  obtain ⟨N, hT2, hNI⟩ := t3 n sw so cu S0 z hN hz
  have up := setL_up (feeds so)
  obtain ⟨F, hJ2, hF, hFp⟩ := j3 n N (restU sw S0) (setL (feeds so)) hN.n2 hNI (rest_in hN S0) (up.imp fun h => by omega) (fun b hb => feeds_in hN b ((mem_setL b _).mp hb))
  have c21 : ∀ env : SEnv, callV T [.val (.d (netV n sw so cu)), .val (.d z)] env = some (nest N, env) := fun env => call_d (xs := [netV n sw so cu, z]) t1 t2 hT2
  have c22 : ∀ env : SEnv, callV B [.val (.d (netV n sw so cu))] env = some (.own (intV (setL (feeds so))), env) := fun env => call_d (xs := [netV n sw so cu]) f1 f2 (f3 n sw so cu hN)
  have c19 : ∀ env : SEnv, callV J [.val (nest N), .val (.own (intV (setL (feeds so))))] env = some (.own (intV F), env) := fun env => by
    have := call_v (ts := [nest N, .own (intV (setL (feeds so)))]) (env := env) j1 j2 (r := .own (intV F)) (by
      simp only [List.map_cons, List.map_nil, dat_nest, dat_intV]
      exact hJ2)
    exact this
  refine ⟨F, ?_, fun x => (hF x).trans ⟨Rc.congr (fun b _ hb => (mem_setL b _).mp hb) fun b hb => hb, Rc.congr (fun b _ hb => (mem_setL b _).mpr hb) fun b hb => hb⟩, hFp⟩
  refine run_rt (e := [some (.d (netV n sw so cu)), some (.d z)]) rfl ?_ rfl
  show exS Φ b27 [some (.d (netV n sw so cu)), some (.d z)] = _
  have d1 : ∀ x : PyData, (AV.d x).dat = x := dat_d
  simp [b27, exS, evE, evL, opd, look, getv, d1, h19, h21, h22, c19, c21, c22]
/-! customers -/
end K22
namespace K22
open PySem L2 Mi

/-! all lots of switches, by rising numbers -/
def subsL (X : List Int) : List (List Int) := X.foldl (fun F x => F ++ F.map (· ++ [x])) [[]]
theorem subs_snoc (X : List Int) (x : Int) : subsL (X ++ [x]) = subsL X ++ (subsL X).map (· ++ [x]) := by
  unfold subsL
  rw [List.foldl_append]
  rfl
theorem mem_subs : ∀ (m : Nat) (X : List Int), X.length = m → ∀ S : List Int, S ∈ subsL X ↔ S.Sublist X
  | 0, X, h, S => by
    rw [List.length_eq_zero_iff] at h
    subst h
    show S ∈ [[]] ↔ _
    rw [List.mem_singleton, List.sublist_nil]
  | m + 1, X, h, S => by
    have hne : X ≠ [] := fun e => by rw [e] at h; simp at h
    obtain ⟨Y, x, rfl⟩ : ∃ Y x, X = Y ++ [x] := ⟨X.dropLast, X.getLast hne, (List.dropLast_concat_getLast hne).symm⟩
    have ih := mem_subs m Y (by simpa using h)
    rw [subs_snoc, List.mem_append, ih, List.mem_map]
    constructor
    · rintro (h | ⟨T, hT, rfl⟩)
      · exact h.trans (List.sublist_append_left _ _)
      · exact List.Sublist.append ((ih T).mp hT) (List.Sublist.refl _)
    · intro h
      obtain ⟨l1, l2, rfl, h1, h2⟩ := List.sublist_append_iff.mp h
      cases h2 with
      | cons _ h3 =>
        rw [List.sublist_nil.mp h3, List.append_nil]
        exact .inl h1
      | cons_cons _ h3 =>
        rw [List.sublist_nil.mp h3]
        exact .inr ⟨l1, (ih l1).mpr h1, rfl⟩
theorem subs_len : ∀ (m : Nat) (X : List Int), X.length = m → (subsL X).length = 2 ^ m
  | 0, X, h => by
    rw [List.length_eq_zero_iff] at h
    subst h
    rfl
  | m + 1, X, h => by
    have hne : X ≠ [] := fun e => by rw [e] at h; simp at h
    obtain ⟨Y, x, rfl⟩ : ∃ Y x, X = Y ++ [x] := ⟨X.dropLast, X.getLast hne, (List.dropLast_concat_getLast hne).symm⟩
    rw [subs_snoc, List.length_append, List.length_map, subs_len m Y (by simpa using h)]
    omega
def lotsS (X : List Int) : List (List Int) := (subsL X).mergeSort fun a b => decide (a.length ≤ b.length)
theorem mem_lotsS {X S : List Int} : S ∈ lotsS X ↔ S.Sublist X := (List.mergeSort_perm _ _).mem_iff.trans (mem_subs _ X rfl S)
theorem up_lotsS (X : List Int) : (lotsS X).Pairwise fun a b => a.length ≤ b.length := by
  have := List.pairwise_mergeSort (le := fun a b : List Int => decide (a.length ≤ b.length)) (fun a b c h1 h2 => by
    simp only [decide_eq_true_eq] at h1 h2 ⊢
    omega) (fun a b => by
    simp only [Bool.or_eq_true, decide_eq_true_eq]
    omega) (subsL X)
  exact this.imp fun h => of_decide_eq_true h
theorem srt_lists (F : List (List Int)) : srtL (F.map intL) = (F.mergeSort fun a b => decide (a.length ≤ b.length)).map intL := by
  unfold srtL
  refine (PySem.W.sort_maps (r := fun a b : List Int => decide (a.length ≤ b.length)) (s := PySem.W.dataLe false fun x => .int (lenD x)) intL fun a _ b _ => ?_).symm
  have h : PySem.W.dataLe false (fun x => .int (lenD x)) (intL a) (intL b) = decide (lenD (intL a) ≤ lenD (intL b)) := le_int _ _
  rw [h]
  have e : ∀ a : List Int, lenD (intL a) = (a.length : Int) := fun a => by simp [lenD, intL]
  rw [e, e, decide_eq_decide]
  omega
def IsLots (G : FnS) : Prop := G.n = 1 ∧ G.io = [] ∧ ∀ X : List Int, X.length ≤ 10 → G.sem [.d (intL X)] = some (.own ((lotsS X).map fun l => .d (intL l)), [])
def OW (X : List Int) (F : List (List Int)) : SEnv := [some (.d (intL X)), some (.d (.list (F.map intL))), none, none]
def loB : S := (.seq (.asg (.ref 1) (.frz (.bin .Add (.ref 1) (.lc [3] (.ref 3) (.cons (.var 1) .nil) .nil (.frz (.bin .Add (.ref 3) (.lst (.cons (.var 2) .nil)))))))) (.seq (.fgt [2]) .skip))
theorem lots_turn {Φ : Phi} {X : List Int} {F : List (List Int)} {x : Int} (hF : F.length ≤ 10000) (hl : ∀ l ∈ F, l.length ≤ 100) :
    (do let e' ← asgT (.ref 2) (.d (.int x)) (OW X F); exS Φ loB e') = some (.nx, OW X (F ++ F.map (· ++ [x]))) := by
  let e1 : SEnv := [some (.d (intL X)), some (.d (.list (F.map intL))), some (.d (.int x)), none]
  have a0 : asgT (.ref 2) (.d (.int x)) (OW X F) = some e1 := by simp [asgT, OW, e1]
  rw [a0]
  simp only [Option.bind_eq_bind, Option.bind_some]
  have hlc := ev_lcenc intL (Φ := Φ) (own := [3]) (tg := .ref 3) (cond := .nil) (elt := .frz (.bin .Add (.ref 3) (.lst (.cons (.var 2) .nil)))) (fun l => some (.d (intL (l ++ [x])))) (show evI Φ (.cons (.var 1) .nil) e1 = some (F.map intL, e1, none) from evI_var rfl (.inr rfl)) (by omega) rfl fun l hlF => by
    refine turn_ref (by simp [e1]) rfl ?_
    have hll := hl l hlF
    have f1 : fitL ((l.map PyData.int).length + [PyData.int x].length) = true := by
      unfold fitL LIM
      rw [List.length_map, List.length_singleton]
      exact decide_eq_true (by omega)
    have hc : catV (.d (intL l)) (.own [.d (.int x)]) = some (fr (l.map .int ++ [.int x])) := by
      unfold catV
      simp only [AV.lst?, intL, leafs, Option.map_some, f1, if_true]
    have hb : binV .Add (.d (intL l)) (.own [.d (.int x)]) = some (fr (l.map .int ++ [.int x])) := hc
    have hd : (fr (l.map PyData.int ++ [.int x])).dat = intL (l ++ [x]) := by
      have : fr (l.map PyData.int ++ [.int x]) = .own (intV (l ++ [x])) := by simp [fr, intV]
      rw [this, dat_intV]
    simp [evE, evA, opd, look, getv, e1, dat_d, fitL, LIM, hb]
    simpa using hd
  rw [fmap_some] at hlc
  have f2 : fitL ((F.map intL).length + (F.map fun l => intL (l ++ [x])).length) = true := by
    unfold fitL LIM
    rw [List.length_map, List.length_map]
    exact decide_eq_true (by omega)
  have hm : (F.map fun l => AV.d (intL (l ++ [x]))) = (F.map fun l => intL (l ++ [x])).map .d := by rw [List.map_map]; rfl
  have hc : binV .Add (.d (.list (F.map intL))) (.own (F.map fun l => AV.d (intL (l ++ [x])))) = some (fr (F.map intL ++ F.map fun l => intL (l ++ [x]))) := by
    have : catV (.d (.list (F.map intL))) (.own (F.map fun l => AV.d (intL (l ++ [x])))) = some (fr (F.map intL ++ F.map fun l => intL (l ++ [x]))) := by
      unfold catV
      rw [hm]
      simp only [AV.lst?, leafs_map, f2, if_true]
    exact this
  have hd : (fr (F.map intL ++ F.map fun l => intL (l ++ [x]))).dat = .list ((F ++ F.map (· ++ [x])).map intL) := by
    rw [fr, AV.dat, datL_map AV.d (fun z => z) dat_d]
    congr 1
    simp [Function.comp_def]
  unfold loB
  refine (seq_nx (e1 := [some (.d (intL X)), some (.d (.list ((F ++ F.map (· ++ [x])).map intL))), some (.d (.int x)), none]) ?_).trans (by simp [exS, wipeE, OW])
  have g1 : getv e1 1 = some (.d (.list (F.map intL))) := rfl
  have h4 : evE Φ (.bin .Add (.ref 1) (.lc [3] (.ref 3) (.cons (.var 1) .nil) .nil (.frz (.bin .Add (.ref 3) (.lst (.cons (.var 2) .nil)))))) e1 = some (fr (F.map intL ++ F.map fun l => intL (l ++ [x])), e1) := by
    rw [evE, opd]
    simp only [g1, Option.isSome_some, if_true, Option.bind_eq_bind, Option.bind_some]
    rw [opd_e (fun i h => by cases h) hlc]
    simp only [Option.bind_some, look, g1, hc]
  have h5 := asg_e (i := 1) (frz_e h4) (by simp [e1])
  rw [hd] at h5
  exact h5
theorem lots_for {Φ : Phi} {X : List Int} : ∀ (Q P : List Int), P.length + Q.length ≤ 10 → (∀ l ∈ subsL P, l.length ≤ P.length) → forI (fun y e => do let e' ← asgT (.ref 2) (.d y) e; exS Φ loB e') (Q.map .int) (OW X (subsL P)) = some (.nx, OW X (subsL (P ++ Q)))
  | [], P, _, _ => by rw [List.append_nil]; rfl
  | x :: Q, P, h, hl => by
    rw [List.length_cons] at h
    have hlen : (subsL P).length ≤ 1024 := by
      rw [subs_len P.length P rfl]
      exact Nat.le_trans (Nat.pow_le_pow_right (by omega) (show P.length ≤ 10 by omega)) (by decide)
    have ht := lots_turn (Φ := Φ) (X := X) (F := subsL P) (x := x) (by omega) fun l hlF => by have := hl l hlF; omega
    rw [← subs_snoc] at ht
    have ih := lots_for (Φ := Φ) (X := X) Q (P ++ [x]) (by rw [List.length_append, List.length_singleton]; omega) fun l hlF => (((mem_subs _ _ rfl l).mp hlF).length_le)
    rw [List.append_assoc] at ih
    rw [List.map_cons, forI]
    simp only [Option.bind_eq_bind] at ht ih ⊢
    rw [ht]
    exact ih
theorem lots_ok (Φ : Phi) : IsLots (semOf Φ d6) := by
  refine ⟨rfl, rfl, fun X hX => ?_⟩
  refine run_rt (e := OW X (subsL X)) rfl ?_ rfl
  show exS Φ b6 [some (.d (intL X)), none, none, none] = _
  refine (seq_nx (e1 := OW X (subsL [])) ?_).trans ((seq_nx (e1 := OW X (subsL X)) ?_).trans (seq_rt (ret_e ?_)))
  · simp [exS, evE, evA, fitL, LIM, AV.dat, datL, asgT, OW, subsL, intL]
  · have hf := lots_for (Φ := Φ) (X := X) X [] (by simpa using hX) fun l hl => by
      rw [List.mem_singleton.mp (show l ∈ [[]] from hl)]
      exact Nat.le_refl _
    rw [List.nil_append] at hf
    rw [exS, show evI Φ (.cons (.var 0) .nil) (OW X (subsL [])) = some (X.map .int, OW X (subsL []), none) from evI_var rfl (.inr rfl)]
    simp only [heldOk, Option.bind_eq_bind, Option.bind_some, if_true]
    simp only [Option.bind_eq_bind] at hf
    rw [show (.seq (.asg (.ref 1) (.frz (.bin .Add (.ref 1) (.lc [3] (.ref 3) (.cons (.var 1) .nil) .nil (.frz (.bin .Add (.ref 3) (.lst (.cons (.var 2) .nil)))))))) (.seq (.fgt [2]) .skip)) = loB from rfl, hf]
    rfl
  · have hlen : (subsL X).length ≤ 1024 := by
      rw [subs_len X.length X rfl]
      exact Nat.le_trans (Nat.pow_le_pow_right (by omega) hX) (by decide)
    have f1 : fitL ((subsL X).map intL).length = true := by
      unfold fitL LIM
      rw [List.length_map]
      exact decide_eq_true (by omega)
    have a1 : ((subsL X).map intL).all isLstD = true := List.all_eq_true.mpr fun y hy => by
      obtain ⟨l, _, rfl⟩ := List.mem_map.mp hy
      rfl
    rw [evE, ev_var (x := .list ((subsL X).map intL)) rfl]
    simp only [Option.bind_eq_bind, Option.bind_some, AV.lst?, a1, f1, Bool.and_self, if_true, srt_lists]
    simp [fr, lotsS]
theorem evE_call4 {Φ : Phi} {k : Nat} {G : FnS} {a b c d : E} {env e1 e2 e3 e4 e5 : SEnv} {t u v w r : AV} (hk : Φ[k]? = some G) (na : opd a (evE Φ a) env = some (.val t, e1)) (nb : opd b (evE Φ b) e1 = some (.val u, e2)) (nc : opd c (evE Φ c) e2 = some (.val v, e3)) (nd : opd d (evE Φ d) e3 = some (.val w, e4)) (hc : callV G [.val t, .val u, .val v, .val w] e4 = some (r, e5)) : evE Φ (.call k (.cons a (.cons b (.cons c (.cons d .nil))))) env = some (r, e5) := by
  simp only [evE, evL, hk, na, nb, nc, nd, hc, Option.bind_eq_bind, Option.bind_some]
theorem places_rest (sw : List PyData) (S0 : List Int) : (places (swU sw)).filter (fun x => !decide (x ∈ S0)) = places (restU sw S0) := by
  unfold places restU
  rw [List.filter_map]
  rfl
theorem rest_UD {n : Int} {sw so cu : List PyData} (hN : NetD n sw so cu) (S0 : List Int) : UD n sw (restU sw S0) := by
  have h := swU_ok hN
  exact ⟨fun u hu => h.at_ u (List.mem_filter.mp hu).1, fun u hu => h.in_ u (List.mem_filter.mp hu).1, Nat.le_trans (List.length_filter_le _ _) h.len⟩
end K22
namespace K22
open PySem L2 Mi

/-! the depth as a datum -/
open Classical in
noncomputable def depD (sw so : List PyData) (b : Int) : PyData := if h : ∃ k, DepthN sw so b k then .int ((Classical.choose h : Nat) : Int) else .none
theorem depN_uniq {sw so : List PyData} {b : Int} {k m : Nat} (h : DepthN sw so b k) (h' : DepthN sw so b m) : k = m := by
  have key : ∀ {k m : Nat}, DepthN sw so b k → DepthN sw so b m → k ≤ m := fun {k m} h h' => by
    obtain ⟨⟨S, s1, s2, s3⟩, _⟩ := h'
    have h1 := h.2 S s3
    have h2 := cnt_sub (swU_nd sw) (S := S) s1
    rw [s2] at h2
    exact Nat.le_trans h1 h2
  exact Nat.le_antisymm (key h h') (key h' h)
theorem depD_eq {sw so : List PyData} {b : Int} {k : Nat} (h : DepthN sw so b k) : depD sw so b = .int (k : Int) := by
  unfold depD
  rw [dif_pos ⟨k, h⟩, depN_uniq (Classical.choose_spec (p := fun k => DepthN sw so b k) ⟨k, h⟩) h]
theorem depD_feed {sw so : List PyData} {b : Int} (h : b ∈ feeds so) : depD sw so b = .none := by
  unfold depD
  rw [dif_neg]
  rintro ⟨k, ⟨S, _, _, s3⟩, _⟩
  exact s3 (.base h (by simp))
/-! the first lot in the row that cuts a bar off -/
open Classical in
noncomputable def fndD (sw so : List PyData) (ls : List (List Int)) (b : Int) : PyData := match ls.find? (fun l => decide (¬ Rc (links (restU sw l)) (feeds so) [] b)) with
  | some l => .int (l.length : Int)
  | none => .none
theorem find_row {α : Type} {p : α → Bool} {R : α → α → Prop} : ∀ {ls : List α} {l l' : α}, ls.Pairwise R → ls.find? p = some l → l' ∈ ls → p l' = true → l' = l ∨ R l l'
  | [], _, _, _, h, _, _ => by simp at h
  | a :: ls, l, l', hp, h, hm, hq => by
    obtain ⟨p1, p2⟩ := List.pairwise_cons.mp hp
    rw [List.find?_cons] at h
    cases e : p a with
    | true =>
      rw [e] at h
      cases h
      rcases List.mem_cons.mp hm with rfl | hm
      · exact .inl rfl
      · exact .inr (p1 l' hm)
    | false =>
      rw [e] at h
      rcases List.mem_cons.mp hm with rfl | hm
      · rw [e] at hq; cases hq
      · exact find_row p2 h hm hq
theorem rest_cut (sw : List PyData) (S0 : List Int) : restU sw (places ((swU sw).filter fun u => decide (u.1 ∈ S0))) = restU sw S0 := by
  unfold restU
  refine List.filter_congr fun u hu => ?_
  have : u.1 ∈ places ((swU sw).filter fun u => decide (u.1 ∈ S0)) ↔ u.1 ∈ S0 := by
    constructor
    · intro m
      obtain ⟨v, hv, e⟩ := List.mem_map.mp m
      have h1 : v.1 ∈ S0 := of_decide_eq_true (List.mem_filter.mp hv).2
      have e' : v.1 = u.1 := e
      rw [← e']
      exact h1
    · intro m
      exact List.mem_map.mpr ⟨u, List.mem_filter.mpr ⟨hu, decide_eq_true m⟩, rfl⟩
  rw [Bool.eq_iff_iff]
  simp [this]
theorem fnd_all (sw so : List PyData) (b : Int) : fndD sw so (lotsS (places (swU sw))) b = depD sw so b := by
  classical
  unfold fndD
  by_cases hb : b ∈ feeds so
  · have : (lotsS (places (swU sw))).find? (fun l => decide (¬ Rc (links (restU sw l)) (feeds so) [] b)) = none := List.find?_eq_none.mpr fun l _ h => (of_decide_eq_true h) (.base hb (by simp))
    rw [this, depD_feed hb]
  · cases hf : (lotsS (places (swU sw))).find? (fun l => decide (¬ Rc (links (restU sw l)) (feeds so) [] b)) with
    | none =>
      exfalso
      have h1 := List.find?_eq_none.mp hf (places (swU sw)) (mem_lotsS.mpr (List.Sublist.refl _))
      refine h1 (decide_eq_true fun hr => hb ?_)
      have e : restU sw (places (swU sw)) = [] := List.filter_eq_nil_iff.mpr fun u hu => by
        have : u.1 ∈ places (swU sw) := List.mem_map_of_mem (f := (·.1)) hu
        simp [this]
      rw [e] at hr
      have key : ∀ x, Rc (links []) (feeds so) [] x → x ∈ feeds so := fun x hx => by
        induction hx with
        | base h1 _ => exact h1
        | fwd _ hm _ _ => cases hm
        | bwd _ hm _ _ => cases hm
      exact key b hr
    | some l =>
      have hl := mem_lotsS.mp (List.mem_of_find?_eq_some hf)
      have hu := of_decide_eq_true (List.find?_some (p := fun l => decide (¬ Rc (links (restU sw l)) (feeds so) [] b)) hf)
      have hd : DepthN sw so b l.length := by
        refine ⟨⟨l, hl, rfl, hu⟩, fun S0 h0 => ?_⟩
        have h1 := find_row (up_lotsS (places (swU sw))) hf (l' := places ((swU sw).filter fun u => decide (u.1 ∈ S0))) (mem_lotsS.mpr (List.Sublist.map _ List.filter_sublist)) (by
          rw [rest_cut]
          exact decide_eq_true h0)
        have e : (places ((swU sw).filter fun u => decide (u.1 ∈ S0))).length = ((swU sw).filter fun u => decide (u.1 ∈ S0)).length := by simp [places]
        rcases h1 with h1 | h1
        · rw [← h1, e]
          exact Nat.le_refl _
        · rw [e] at h1
          exact h1
      exact (depD_eq hd).symm
theorem depD_small {n : Int} {sw so cu : List PyData} (hN : NetD n sw so cu) (b : Int) : depD sw so b = .none ∨ ∃ i : Int, depD sw so b = .int i ∧ 0 ≤ i ∧ i ≤ 90 := by
  unfold depD
  split
  · rename_i h
    refine .inr ⟨_, rfl, by omega, ?_⟩
    obtain ⟨⟨S, s1, s2, _⟩, _⟩ := Classical.choose_spec h
    have h1 := s1.length_le
    have h2 : (places (swU sw)).length = (swU sw).length := by simp [places]
    have h3 := (swU_ok hN).len
    omega
  · exact .inl rfl
theorem depD_none {Φ : Phi} {D : FnS} (hD : IsDepth D) {n : Int} {sw so cu : List PyData} (hN : NetD n sw so cu) {b : Int} : isNoneD (depD sw so b) = decide (b ∈ feeds so) := by
  by_cases h : b ∈ feeds so
  · rw [depD_feed h, decide_eq_true h]
    rfl
  · obtain ⟨k, _, r2⟩ := (hD.2.2 n sw so cu b hN).2 h
    rw [depD_eq r2, decide_eq_false h]
    rfl
theorem dep_sem {D : FnS} (hD : IsDepth D) {n : Int} {sw so cu : List PyData} (hN : NetD n sw so cu) (b : Int) : D.sem [.d (netV n sw so cu), .d (.int b)] = some (.d (depD sw so b), []) := by
  obtain ⟨q1, q2⟩ := hD.2.2 n sw so cu b hN
  by_cases h : b ∈ feeds so
  · rw [depD_feed h]
    exact q1 h
  · obtain ⟨k, r1, r2⟩ := q2 h
    rw [depD_eq r2]
    exact r1
def IsSupply (G : FnS) : Prop := G.n = 2 ∧ G.io = [] ∧ ∀ (n : Int) (sw so cu : List PyData) (g : Int), NetD n sw so cu → 0 ≤ g → g < n → G.sem [.d (netV n sw so cu), .d (.int g)] = some (.d (depD sw so g), [])
theorem supply_ok (Φ : Phi) {N C D : FnS} (h18 : Φ[18]? = some N) (hN : IsChkNet N) (h29 : Φ[29]? = some C) (hC : IsChkBar C) (h32 : Φ[32]? = some D) (hD : IsDepth D) : IsSupply (semOf Φ d33) := by
  obtain ⟨n1, n2, n3⟩ := hN
  obtain ⟨c1, c2, c3⟩ := hC
  refine ⟨rfl, rfl, fun n sw so cu g hN hg0 hg1 => ?_⟩
  have cn : ∀ env, callV N [.val (.d (netV n sw so cu))] env = some (.d .none, env) := fun env => call_d (xs := [netV n sw so cu]) n1 n2 (n3 n sw so cu hN)
  have cc : ∀ env, callV C [.val (.d (netV n sw so cu)), .val (.d (.int g))] env = some (.d .none, env) := fun env => call_d (xs := [netV n sw so cu, .int g]) c1 c2 (c3 n sw so cu g hg0 hg1)
  have cd : ∀ env, callV D [.val (.d (netV n sw so cu)), .val (.d (.int g))] env = some (.d (depD sw so g), env) := fun env => call_d (xs := [netV n sw so cu, .int g]) hD.1 hD.2.1 (dep_sem hD hN g)
  refine run_rt (e := [some (.d (netV n sw so cu)), some (.d (.int g))]) rfl ?_ rfl
  show exS Φ b33 _ = _
  simp [b33, K22.d33, startE, exS, evE, evL, opd, getv, dat_d, h18, h29, h32, cn, cc, cd]
/-! whether a bar holds a number -/
def geD (D : PyData) (k : Int) : Bool := match D with
  | .int i => decide (k ≤ i)
  | _ => true
def IsDeep (G : FnS) : Prop := G.n = 2 ∧ G.io = [] ∧ ∀ (D : PyData) (k : Int), (D = .none ∨ ∃ i : Int, D = .int i) → G.sem [.d D, .d (.int k)] = some (.d (.bool (geD D k)), [])
theorem deep_ok (Φ : Phi) : IsDeep (semOf Φ d36) := by
  refine ⟨rfl, rfl, fun D k hD => ?_⟩
  refine run_rt (e := [some (.d D), some (.d (.int k))]) rfl ?_ rfl
  show exS Φ b36 _ = _
  rcases hD with rfl | ⟨i, rfl⟩
  · have c1 : cmpV .Is (.d .none) (.d .none) = some true := by simp [cmpV, dat_d, isNoneD]
    simp [b36, d36, startE, exS, evE, opd, look, getv, c1, geD]
  · have c1 : cmpV .Is (.d (.int i)) (.d .none) = some false := by simp [cmpV, dat_d, isNoneD]
    have c2 : cmpV .GtE (.d (.int i)) (.d (.int k)) = some (decide (k ≤ i)) := rfl
    simp [b36, d36, startE, exS, evE, opd, look, getv, c1, c2, geD]
def IsHolds (G : FnS) : Prop := G.n = 3 ∧ G.io = [] ∧ ∀ (n : Int) (sw so cu : List PyData) (g k : Int), NetD n sw so cu → 0 ≤ g → g < n → 0 ≤ k → G.sem [.d (netV n sw so cu), .d (.int g), .d (.int k)] = some (.d (.bool (geD (depD sw so g) k)), [])
theorem holds_ok (Φ : Phi) {N C K D P : FnS} (h18 : Φ[18]? = some N) (hN : IsChkNet N) (h29 : Φ[29]? = some C) (hC : IsChkBar C) (h20 : Φ[20]? = some K) (hK : IsCount K) (h32 : Φ[32]? = some D) (hD : IsDepth D) (h36 : Φ[36]? = some P) (hP : IsDeep P) : IsHolds (semOf Φ d37) := by
  obtain ⟨n1, n2, n3⟩ := hN
  obtain ⟨c1, c2, c3⟩ := hC
  obtain ⟨k1, k2, k3⟩ := hK
  obtain ⟨p1, p2, p3⟩ := hP
  refine ⟨rfl, rfl, fun n sw so cu g k hN hg0 hg1 hk => ?_⟩
  have cn : ∀ env, callV N [.val (.d (netV n sw so cu))] env = some (.d .none, env) := fun env => call_d (xs := [netV n sw so cu]) n1 n2 (n3 n sw so cu hN)
  have cc : ∀ env, callV C [.val (.d (netV n sw so cu)), .val (.d (.int g))] env = some (.d .none, env) := fun env => call_d (xs := [netV n sw so cu, .int g]) c1 c2 (c3 n sw so cu g hg0 hg1)
  have ck : ∀ env, callV K [.val (.d (.int k))] env = some (.d (.bool true), env) := fun env => call_d (xs := [.int k]) k1 k2 (k3 k hk)
  have cd : ∀ env, callV D [.val (.d (netV n sw so cu)), .val (.d (.int g))] env = some (.d (depD sw so g), env) := fun env => call_d (xs := [netV n sw so cu, .int g]) hD.1 hD.2.1 (dep_sem hD hN g)
  have cp : ∀ env, callV P [.val (.d (depD sw so g)), .val (.d (.int k))] env = some (.d (.bool (geD (depD sw so g) k)), env) := fun env => call_d (xs := [depD sw so g, .int k]) p1 p2 (p3 _ k ((depD_small hN g).imp id fun ⟨i, h, _⟩ => ⟨i, h⟩))
  refine run_rt (e := [some (.d (netV n sw so cu)), some (.d (.int g)), some (.d (.int k))]) rfl ?_ rfl
  show exS Φ b37 _ = _
  simp [b37, d37, startE, exS, evT, evE, evL, opd, look, getv, dat_d, h18, h29, h20, h32, h36, cn, cc, ck, cd, cp, strFit, AV.isDi, truth]
def IsBehind (G : FnS) : Prop := G.n = 2 ∧ G.io = [] ∧ ∀ (n : Int) (sw so cu : List PyData) (X : List Int), NetD n sw so cu → Lots sw X → ∃ F : List Int, (∀ tu : Bool, G.sem [.d (netV n sw so cu), .d (zV tu X)] = some (.own (intV F), [])) ∧ (∀ x, x ∈ F ↔ Rc (links (restU sw X)) (feeds so) [] x) ∧ F.Pairwise fun a b => a < b
theorem behind_ok (Φ : Phi) {N C R : FnS} (h18 : Φ[18]? = some N) (hN : IsChkNet N) (h22 : Φ[22]? = some C) (hC : IsChkLost C) (h27 : Φ[27]? = some R) (hR : IsReachB R) : IsBehind (semOf Φ d28) := by
  obtain ⟨n1, n2, n3⟩ := hN
  obtain ⟨c1, c2, c3⟩ := hC
  obtain ⟨r1, r2, r3⟩ := hR
  refine ⟨rfl, rfl, fun n sw so cu X hN hX => ?_⟩
  have each : ∀ tu : Bool, ∃ F : List Int, (semOf Φ d28).sem [.d (netV n sw so cu), .d (zV tu X)] = some (.own (intV F), []) ∧ (∀ x, x ∈ F ↔ Rc (links (restU sw X)) (feeds so) [] x) ∧ F.Pairwise fun a b => a < b := fun tu => by
    obtain ⟨F, h1, h2, h3⟩ := r3 n sw so cu X (zV tu X) hN (inV_z tu X)
    have cn : ∀ env, callV N [.val (.d (netV n sw so cu))] env = some (.d .none, env) := fun env => call_d (xs := [netV n sw so cu]) n1 n2 (n3 n sw so cu hN)
    have cc : ∀ env, callV C [.val (.d (netV n sw so cu)), .val (.d (zV tu X))] env = some (.d .none, env) := fun env => call_d (xs := [netV n sw so cu, zV tu X]) c1 c2 (c3 n sw so cu tu X hN hX)
    have cr : ∀ env, callV R [.val (.d (netV n sw so cu)), .val (.d (zV tu X))] env = some (.own (intV F), env) := fun env => call_d (xs := [netV n sw so cu, zV tu X]) r1 r2 h1
    refine ⟨F, ?_, h2, h3⟩
    refine run_rt (e := [some (.d (netV n sw so cu)), some (.d (zV tu X))]) rfl ?_ rfl
    show exS Φ b28 _ = _
    simp [b28, d28, startE, exS, evE, evL, opd, getv, dat_d, h18, h22, h27, cn, cc, cr]
  obtain ⟨F, h1, h2, h3⟩ := each true
  refine ⟨F, fun tu => ?_, h2, h3⟩
  obtain ⟨F', q1, q2, q3⟩ := each tu
  have : F' = F := up_unique q3 h3 fun x => (q2 x).trans (h2 x).symm
  rw [← this]
  exact q1
end K22
namespace K22
open PySem L2 Mi

/-! what is reached behind lost switches -/
/-! customers -/
def cuOf : PyData → Option (Int × Int)
  | .tuple [.int a, .int l] => some (a, l)
  | _ => none
def cuV (p : Int × Int) : PyData := .tuple [.int p.1, .int p.2]
def tolds (cu : List PyData) : List (Int × Int) := cu.filterMap cuOf
def IsTold (G : FnS) : Prop := G.n = 1 ∧ G.io = [] ∧ ∀ (n : Int) (sw so cu : List PyData), NetD n sw so cu → G.sem [.d (netV n sw so cu)] = some (.own ((tolds cu).map fun p => .d (cuV p)), [])
/-- [customer for customer in net[4] if customer != ()] -/
theorem told_e {Φ : Phi} {e0 : SEnv} {i j : Nat} {n : Int} {sw so cu : List PyData} (hN : NetD n sw so cu) (h : getv e0 i = some (.d (netV n sw so cu))) (hj : j < e0.length) (hg : getv e0 j = none) : evE Φ (.lc [j] (.ref j) (.cons (.ix (.ref i) (.lit (.int 4))) .nil) (.cons (.cmp .NotEq (.ref j) (.tup .nil)) .nil) (.var j)) e0 = some (.own ((tolds cu).map fun p => .d (cuV p)), e0) := by
  have hI : evI Φ (.cons (.ix (.ref i) (.lit (.int 4))) .nil) e0 = some (cu, e0, none) := by
    have h2 : evE Φ (.ix (.ref i) (.lit (.int 4))) e0 = some (.d (.tuple cu), e0) := by simp [evE, opd, h, look, net4]
    simp [evI, h2, AV.seq?]
  have hl := hN.s3
  rw [ev_lcmap (fun x => (cuOf x).map fun p => .d (cuV p)) hI (by omega) (wipe1 hg) fun x hx => ?_]
  · simp only [tolds, List.map_filterMap]
  · have e2 : eqOk (.tuple []) = true := by decide
    have g2 : getv (e0.set j (some (.d x))) j = some (.d x) := getv_set_self hj
    have hw : (e0.set j (some (.d x))).set j none = e0 := by
      rw [List.set_set]
      exact set_none hg
    have hw2 : (e0.set j (some (.d x))).set j (some (.d x)) = e0.set j (some (.d x)) := by rw [List.set_set]
    rcases hN.w3 x hx with rfl | ⟨a, l, rfl, _⟩
    · simp [lcTurn, asgT, hj, evC, evT, evE, evA, opd, look, g2, cmpV, mkTup, leafs, fitL, LIM, dat_d, e2, PyData.eqv, PyData.eqvAll, wipeE, hw, cuOf]
    · have e1 := ok_cust (hN.w3 _ hx)
      have e7 : PyData.eqv (.tuple [.int a, .int l]) (.tuple []) = false := by simp [PyData.eqv, PyData.eqvAll]
      simp [lcTurn, asgT, hj, evC, evT, evE, evA, opd, look, g2, cmpV, mkTup, leafs, fitL, LIM, dat_d, e1, e2, e7, wipeE, hw, hw2, cuOf, cuV]
theorem told_ok (Φ : Phi) : IsTold (semOf Φ d34) := by
  refine ⟨rfl, rfl, fun n sw so cu hN => ?_⟩
  refine run_rt (e := [some (.d (netV n sw so cu)), none]) rfl ?_ rfl
  show exS Φ b34 [some (.d (netV n sw so cu)), none] = _
  exact seq_rt (ret_e (told_e hN rfl (by simp) rfl))
theorem tolds_len {n : Int} {sw so cu : List PyData} (hN : NetD n sw so cu) : (tolds cu).length ≤ 40 := Nat.le_trans (List.length_filterMap_le _ _) hN.s3
end K22
namespace K22
open PySem L2 Mi
/-! the least of data -/
theorem min_fold : ∀ (xs : List PyData) (a : PyData), (xs.foldl (fun a y => if PySem.W.dataLt y a then y else a) a ∈ a :: xs) ∧ ∀ z, (z = a ∨ z ∈ xs ∨ PySem.W.dataLt z a = false) → PySem.W.dataLt z (xs.foldl (fun a y => if PySem.W.dataLt y a then y else a) a) = false
  | [], a => ⟨List.mem_cons_self, fun z hz => by
    rcases hz with rfl | hz | hz
    · exact PySem.W.dataLt_self _
    · cases hz
    · exact hz⟩
  | x :: xs, a => by
    rw [List.foldl_cons]
    by_cases h : PySem.W.dataLt x a = true
    · rw [if_pos h]
      obtain ⟨h1, h2⟩ := min_fold xs x
      refine ⟨List.mem_cons_of_mem _ h1, fun z hz => h2 z ?_⟩
      have tr : PySem.W.dataLt z a = false → PySem.W.dataLt z x = false := fun q => by
        cases hq : PySem.W.dataLt z x with
        | false => rfl
        | true =>
          have := PyProof.Rows.lex_trans (O := PyProof.Rows.itemOrd) _ _ _ hq h
          have q' : PyProof.Rows.lexLt PyProof.Rows.itemOrd (PySem.W.keyToks z) (PySem.W.keyToks a) = false := q
          rw [this] at q'
          cases q'
      rcases hz with rfl | hz | hz
      · exact .inr (.inr (tr (PySem.W.dataLt_self _)))
      · rcases List.mem_cons.mp hz with rfl | hz
        · exact .inl rfl
        · exact .inr (.inl hz)
      · exact .inr (.inr (tr hz))
    · rw [if_neg h]
      obtain ⟨h1, h2⟩ := min_fold xs a
      refine ⟨?_, fun z hz => h2 z ?_⟩
      · rcases List.mem_cons.mp h1 with h1 | h1
        · rw [h1]; exact List.mem_cons_self
        · exact List.mem_cons_of_mem _ (List.mem_cons_of_mem _ h1)
      · rcases hz with rfl | hz | hz
        · exact .inl rfl
        · rcases List.mem_cons.mp hz with rfl | hz
          · exact .inr (.inr (by simpa using h))
          · exact .inr (.inl hz)
        · exact .inr (.inr hz)
/-- min of a list of alike data -/
theorem min_ok {xs : List PyData} (hne : xs ≠ []) (ha : ∀ x ∈ xs, ∀ y ∈ xs, PySem.W.alike x y = true) (hn : ∀ x ∈ xs, x ≠ .none) (hd : ∀ x ∈ xs, Dk 3 x) : ∃ m, minV xs = some m ∧ m ∈ xs ∧ ∀ z ∈ xs, PySem.W.dataLt z m = false := by
  cases xs with
  | nil => exact absurd rfl hne
  | cons x xs =>
    obtain ⟨h1, h2⟩ := min_fold xs x
    refine ⟨PySem.W.minD x xs, ?_, h1, fun z hz => h2 z ((List.mem_cons.mp hz).imp id .inl)⟩
    have c1 : alikes (x :: xs) = true := by
      unfold alikes
      rw [List.all_eq_true]
      intro a h
      rw [List.all_eq_true]
      intro b h'
      exact ha a h b h'
    have c2 : noNones (x :: xs) = true := by
      unfold noNones
      rw [List.all_eq_true]
      intro a h
      have := hn a h
      cases a <;> simp at this ⊢
    obtain ⟨c3, c4⟩ := dk_all (n := 3) hd
    have c5 : shallow (x :: xs) = true := by
      unfold shallow
      rw [decide_eq_true_eq]
      omega
    show (if alikes (x :: xs) && noNones (x :: xs) && PyData.canLayAll0 (x :: xs) && shallow (x :: xs) then some (PySem.W.minD x xs) else none) = _
    rw [c1, c2, c3, c5]
    rfl
theorem lt_pr (p q : Int × Int) : PySem.W.dataLt (pr p) (pr q) = if p.1 = q.1 then decide (p.2 < q.2) else decide (p.1 < q.1) :=
  PySem.W.DatumOrd.lt_eq (α := Int × Int) p q
theorem alike_pr (p q : Int × Int) : PySem.W.alike (pr p) (pr q) = true := PySem.W.DatumOrd.alike (α := Int × Int) p q
theorem dk_pr (p : Int × Int) : Dk 1 (pr p) := dk_tuple (n := 0) fun x hx => by
  simp only [List.mem_cons, List.not_mem_nil, or_false] at hx
  rcases hx with rfl | rfl
  · exact dk_int _
  · exact dk_int _
theorem min_pairs {P : List (Int × Int)} (hne : P ≠ []) : ∃ m, minV (P.map pr) = some (pr m) ∧ m ∈ P ∧ ∀ p ∈ P, m.1 ≤ p.1 := by
  obtain ⟨m, h1, h2, h3⟩ := min_ok (xs := P.map pr) (by simpa using hne) (fun x hx y hy => by
    obtain ⟨p, _, rfl⟩ := List.mem_map.mp hx
    obtain ⟨q, _, rfl⟩ := List.mem_map.mp hy
    exact alike_pr p q) (fun x hx => by
    obtain ⟨p, _, rfl⟩ := List.mem_map.mp hx
    simp [pr]) (fun x hx => by
    obtain ⟨p, _, rfl⟩ := List.mem_map.mp hx
    exact (dk_pr p).mono (by omega))
  obtain ⟨m, hm, rfl⟩ := List.mem_map.mp h2
  refine ⟨m, h1, hm, fun p hp => ?_⟩
  have := h3 (pr p) (List.mem_map.mpr ⟨p, hp, rfl⟩)
  rw [lt_pr] at this
  by_cases e : p.1 = m.1
  · omega
  · rw [if_neg e, decide_eq_false_iff_not] at this
    omega
theorem min_ints {P : List Int} (hne : P ≠ []) : ∃ m, minV (P.map .int) = some (.int m) ∧ m ∈ P ∧ ∀ p ∈ P, m ≤ p := by
  obtain ⟨m, h1, h2, h3⟩ := min_ok (xs := P.map .int) (by simpa using hne) (fun x hx y hy => by
    obtain ⟨p, _, rfl⟩ := List.mem_map.mp hx
    obtain ⟨q, _, rfl⟩ := List.mem_map.mp hy
    simp only [PySem.W.alike]) (fun x hx => by
    obtain ⟨p, _, rfl⟩ := List.mem_map.mp hx
    simp) (fun x hx => by
    obtain ⟨p, _, rfl⟩ := List.mem_map.mp hx
    exact (dk_int p).mono (by omega))
  obtain ⟨m, hm, rfl⟩ := List.mem_map.mp h2
  refine ⟨m, h1, hm, fun p hp => ?_⟩
  have := h3 (.int p) (List.mem_map.mpr ⟨p, hp, rfl⟩)
  rw [PySem.W.dataLt_int, decide_eq_false_iff_not] at this
  omega
end K22
namespace K22
open PySem L2 Mi

/-! the law's depths -/
theorem bars_get {n : Int} {k : Nat} (h : k < n.toNat) : (barsL n)[k]? = some (k : Int) := by
  unfold barsL
  rw [List.getElem?_map, List.getElem?_range h]
  rfl
/-- a list with an item for each bar -/
def bV (n : Int) (f : Int → PyData) : AV := .own ((barsL n).map fun b => .d (f b))
def upB (f : Int → PyData) (b : Int) (v : PyData) : Int → PyData := fun x => if x = b then v else f x
theorem ix_bV {n b : Int} {f : Int → PyData} (h0 : 0 ≤ b) (h1 : b < n) : ixV (bV n f) (.d (.int b)) = some (.d (f b)) := by
  have h : atI ((barsL n).map fun b => AV.d (f b)) b = some (.d (f b)) := by
    unfold atI ixN
    rw [List.length_map, barsL_len, if_pos h0, if_pos (by omega)]
    show ((barsL n).map fun b => AV.d (f b))[b.toNat]? = _
    rw [List.getElem?_map, bars_get (by omega)]
    show some (AV.d (f (b.toNat : Int))) = _
    rw [show ((b.toNat : Nat) : Int) = b by omega]
  simp [ixV, bV, h]
theorem set_bV {n b : Int} {f : Int → PyData} {v : PyData} (h0 : 0 ≤ b) (h1 : b < n) : setIx (bV n f) (.d (.int b)) (.d v) = some (bV n (upB f b v)) := by
  have h : ixN ((barsL n).map fun b => AV.d (f b)).length b = some b.toNat := by
    unfold ixN
    rw [List.length_map, barsL_len, if_pos h0, if_pos (by omega)]
  have e : ((barsL n).map fun b => AV.d (f b)).set b.toNat (.d v) = (barsL n).map fun x => AV.d (upB f b v x) := by
    apply List.ext_getElem?
    intro i
    rw [List.getElem?_map]
    by_cases hi : i < n.toNat
    · rw [bars_get hi]
      by_cases e : i = b.toNat
      · rw [e, List.getElem?_set_self (by rw [List.length_map, barsL_len]; omega)]
        show _ = some (AV.d (upB f b v (b.toNat : Int)))
        rw [show ((b.toNat : Nat) : Int) = b by omega]
        simp [upB]
      · rw [List.getElem?_set_ne (Ne.symm e), List.getElem?_map, bars_get hi]
        show some (AV.d (f (i : Int))) = some (AV.d (upB f b v (i : Int)))
        rw [show upB f b v (i : Int) = f (i : Int) from if_neg (by omega)]
    · have h2 : (barsL n)[i]? = none := List.getElem?_eq_none (by rw [barsL_len]; omega)
      rw [h2, List.getElem?_eq_none (by rw [List.length_set, List.length_map, barsL_len]; omega)]
      rfl
  show (ixN ((barsL n).map fun b => AV.d (f b)).length b).map (fun j => AV.own (((barsL n).map fun b => AV.d (f b)).set j (.d v))) = _
  rw [h]
  simp only [Option.map_some, e]
  rfl
def QE (n : Int) (sw so cu : List PyData) (f : Int → PyData) (lost rc bar : Option AV) : SEnv := [some (.d (netV n sw so cu)), lost, some (.d (intL (feeds so))), some (bV n f), rc, bar, none]
def qB : S := (.seq (.ife (.and (.cmp .NotIn (.ref 5) (.ref 4)) (.cmp .Is (.ix (.ref 3) (.ref 5)) (.lit .none))) (.seq (.sub 3 (.var 5) (.bi .len (.cons (.ref 1) .nil))) .skip) .skip) (.seq (.fgt [5]) .skip))
def stB (F : List Int) (k : Int) (f : Int → PyData) (b : Int) : Int → PyData := if b ∉ F ∧ isNoneD (f b) = true then upB f b (.int k) else f
theorem q_turn {Φ : Phi} {n : Int} {sw so cu : List PyData} {f : Int → PyData} {l F : List Int} {b : Int} (h0 : 0 ≤ b) (h1 : b < n) :
    (do let e' ← asgT (.ref 5) (.d (.int b)) (QE n sw so cu f (some (.d (intL l))) (some (.d (intL F))) none); exS Φ qB e') = some (.nx, QE n sw so cu (stB F l.length f b) (some (.d (intL l))) (some (.d (intL F))) none) := by
  have a0 : asgT (.ref 5) (.d (.int b)) (QE n sw so cu f (some (.d (intL l))) (some (.d (intL F))) none) = some (QE n sw so cu f (some (.d (intL l))) (some (.d (intL F))) (some (.d (.int b)))) := by simp [asgT, QE]
  rw [a0]
  simp only [Option.bind_eq_bind, Option.bind_some]
  have k1 : cmpV .NotIn (.d (.int b)) (.d (intL F)) = some (!decide (b ∈ F)) := inV_list F b true
  have k2 : cmpV .Is (.d (f b)) (.d .none) = some (isNoneD (f b)) := by simp [cmpV, dat_d, isNoneD]
  have x1 := ix_bV (f := f) h0 h1
  have s1 := set_bV (f := f) (v := .int (l.length : Int)) h0 h1
  have hl : biV .len [.d (intL l)] = some (.d (.int (l.length : Int))) := by simp [biV, intL]
  unfold qB
  by_cases h2 : b ∈ F
  · rw [show stB F l.length f b = f from if_neg (fun h => h.1 h2)]
    simp [exS, evT, evE, opd, look, getv, QE, k1, h2, wipeE]
  · cases h3 : isNoneD (f b) with
    | true =>
      rw [show stB F l.length f b = upB f b (.int (l.length : Int)) from if_pos ⟨h2, h3⟩]
      simp [exS, evT, evE, evL, opd, look, getv, QE, k1, k2, h2, h3, x1, s1, hl, dat_d, wipeE]
    | false =>
      rw [show stB F l.length f b = f from if_neg (fun h => by rw [h3] at h; cases h.2)]
      simp [exS, evT, evE, opd, look, getv, QE, k1, k2, h2, h3, x1, wipeE]
theorem q_for {Φ : Phi} {n : Int} {sw so cu : List PyData} {l F : List Int} : ∀ (Q : List Int) (f : Int → PyData), (∀ b ∈ Q, 0 ≤ b ∧ b < n) → forI (fun y e => do let e' ← asgT (.ref 5) (.d y) e; exS Φ qB e') (Q.map .int) (QE n sw so cu f (some (.d (intL l))) (some (.d (intL F))) none) = some (.nx, QE n sw so cu (Q.foldl (stB F l.length) f) (some (.d (intL l))) (some (.d (intL F))) none)
  | [], f, _ => rfl
  | b :: Q, f, h => by
    have hb := h b List.mem_cons_self
    have ht := q_turn (Φ := Φ) (sw := sw) (so := so) (cu := cu) (f := f) (l := l) (F := F) hb.1 hb.2
    have ih := q_for (Φ := Φ) (n := n) (sw := sw) (so := so) (cu := cu) (l := l) (F := F) Q (stB F l.length f b) fun c hc => h c (List.mem_cons_of_mem _ hc)
    rw [List.map_cons, forI]
    simp only [Option.bind_eq_bind] at ht ih ⊢
    rw [ht]
    exact ih
theorem st_fold {F : List Int} {k : Int} : ∀ (Q : List Int) (f : Int → PyData), Q.Nodup → ∀ x, Q.foldl (stB F k) f x = if x ∈ Q ∧ x ∉ F ∧ isNoneD (f x) = true then .int k else f x
  | [], f, _, x => by rw [if_neg (fun h => nomatch h.1)]; rfl
  | b :: Q, f, hn, x => by
    obtain ⟨n1, n2⟩ := List.nodup_cons.mp hn
    rw [List.foldl_cons, st_fold Q (stB F k f b) n2 x]
    have e : ∀ y, y ≠ b → stB F k f b y = f y := fun y hy => by
      unfold stB
      split
      · exact if_neg hy
      · rfl
    by_cases hx : x = b
    · subst hx
      rw [if_neg (fun h => n1 h.1)]
      unfold stB
      by_cases h : x ∉ F ∧ isNoneD (f x) = true
      · rw [if_pos h, if_pos ⟨List.mem_cons_self, h⟩]
        exact if_pos rfl
      · rw [if_neg h, if_neg (fun q => h q.2)]
    · rw [e x hx]
      by_cases h : x ∈ Q ∧ x ∉ F ∧ isNoneD (f x) = true
      · rw [if_pos h, if_pos ⟨List.mem_cons_of_mem _ h.1, h.2⟩]
      · rw [if_neg h, if_neg (fun q => h ⟨(List.mem_cons.mp q.1).resolve_left hx, q.2⟩)]
def qO : S := (.seq (.asg (.ref 4) (.frz (.call 7 (.cons (.var 0) (.cons (.lc [6] (.ref 6) (.cons (.call 4 (.cons (.var 0) .nil)) .nil) (.cons (.cmp .NotIn (.ref 6) (.ref 1)) .nil) (.var 6)) (.cons (.var 2) (.cons (.lst .nil) .nil))))))) (.seq (.forr (.ref 5) (.bi .range1 (.cons (.ix (.ref 0) (.lit (.int 1))) .nil)) qB) (.seq (.fgt [1, 4, 5]) .skip)))
theorem rangeL_bars (n : Int) : rangeL 0 n.toNat = (barsL n).map .int := by
  unfold rangeL barsL
  rw [List.map_map]
  simp [Function.comp_def]
open Classical in
theorem o_turn {Φ : Phi} {W R : FnS} (h4 : Φ[4]? = some W) (hW : IsSws W) (h7 : Φ[7]? = some R) (hR : IsReach R) {n : Int} {sw so cu : List PyData} (hN : NetD n sw so cu) {f : Int → PyData} {l : List Int} :
    ∃ f', (do let e' ← asgT (.ref 1) (.d (intL l)) (QE n sw so cu f none none none); exS Φ qO e') = some (.nx, QE n sw so cu f' none none none) ∧ ∀ x, 0 ≤ x → x < n → f' x = if ¬ Rc (links (restU sw l)) (feeds so) [] x ∧ isNoneD (f x) = true then .int (l.length : Int) else f x := by
  obtain ⟨w1, w2, w3⟩ := hW
  obtain ⟨r1, r2, r3⟩ := hR
  have hfl := feeds_len hN
  obtain ⟨F, hF1, hF, _⟩ := r3 n sw so cu (restU sw l) (feeds so) [] (rest_UD hN l) hN.n2 (feeds_in hN) (by omega)
  have n1 := hN.n1
  have n2 := hN.n2
  let f' := (barsL n).foldl (stB F l.length) f
  have hlen := (swU_ok hN).len
  refine ⟨f', ?_, fun x h0 h1 => ?_⟩
  · have a0 : asgT (.ref 1) (.d (intL l)) (QE n sw so cu f none none none) = some (QE n sw so cu f (some (.d (intL l))) none none) := by simp [asgT, QE]
    rw [a0]
    simp only [Option.bind_eq_bind, Option.bind_some]
    have c4 : ∀ env, callV W [.val (.d (netV n sw so cu))] env = some (.own (intV (places (swU sw))), env) := fun env => call_d (xs := [netV n sw so cu]) w1 w2 (w3 n sw so cu hN)
    have hdn : (AV.own []).dat = intL [] := by simp [AV.dat, datL, intL]
    have c7 : ∀ env, callV R [.val (.d (netV n sw so cu)), .val (.own (intV (places (restU sw l)))), .val (.d (intL (feeds so))), .val (.own [])] env = some (.own (intV F), env) := fun env => call_v (ts := [.d (netV n sw so cu), .own (intV (places (restU sw l))), .d (intL (feeds so)), .own []]) r1 r2 (by
      simp only [List.map_cons, List.map_nil, dat_d, dat_intV, hdn]
      exact hF1)
    let e1 := QE n sw so cu f (some (.d (intL l))) none none
    unfold qO
    refine (seq_nx (e1 := QE n sw so cu f (some (.d (intL l))) (some (.d (intL F))) none) ?_).trans ((seq_nx (e1 := QE n sw so cu f' (some (.d (intL l))) (some (.d (intL F))) none) ?_).trans (by simp [exS, wipeE, QE]))
    · have hc : evE Φ (.call 4 (.cons (.var 0) .nil)) e1 = some (.own (intV (places (swU sw))), e1) := ev_call1 h4 (opd_var (x := netV n sw so cu) rfl) (c4 _)
      have hlc := ev_lcfil (Φ := Φ) (i := 6) (it := .cons (.call 4 (.cons (.var 0) .nil)) .nil) (c := .cmp .NotIn (.ref 6) (.ref 1)) (X := places (swU sw)) (fun y => !decide (y ∈ l)) (evI_own hc) (by simp [places]; omega) (by simp [e1, QE]) rfl fun y _ => evT_notin (t := .d (.int y)) (u := .d (intL l)) rfl rfl (inV_list l y true)
      rw [places_rest] at hlc
      obtain ⟨q, hq⟩ : ∃ q : E, q = (.lc [6] (.ref 6) (.cons (.call 4 (.cons (.var 0) .nil)) .nil) (.cons (.cmp .NotIn (.ref 6) (.ref 1)) .nil) (.var 6)) := ⟨_, rfl⟩
      have hn : ∀ i, q ≠ .ref i := by rw [hq]; intro i h; cases h
      rw [← hq] at hlc ⊢
      have c := evE_call4 (Φ := Φ) (k := 7) (a := .var 0) (b := q) (c := .var 2) (d := .lst .nil) h7 (opd_var rfl) (opd_e hn hlc) (opd_var rfl) (opd_e (t := .own []) (env := e1) (e1 := e1) (by intro i h; cases h) (by simp [evE, evA, fitL, LIM])) (c7 _)
      have h := asg_e (i := 4) (frz_e c) (by simp [e1, QE])
      rw [dat_intV] at h
      exact h
    · have hI : evI Φ (.bi .range1 (.cons (.ix (.ref 0) (.lit (.int 1))) .nil)) (QE n sw so cu f (some (.d (intL l))) (some (.d (intL F))) none) = some ((barsL n).map .int, QE n sw so cu f (some (.d (intL l))) (some (.d (intL F))) none, none) := by
        rw [← rangeL_bars]
        refine evI_r1 ?_ (okRg_small (by omega) (by omega))
        simp [evE, opd, look, getv, QE, net1]
      have hf := q_for (Φ := Φ) (n := n) (sw := sw) (so := so) (cu := cu) (l := l) (F := F) (barsL n) f fun b hb => mem_barsL.mp hb
      rw [exS, hI]
      simp only [heldOk, Option.bind_eq_bind, Option.bind_some, if_true]
      simp only [Option.bind_eq_bind] at hf
      rw [hf]
      rfl
  · show (barsL n).foldl (stB F l.length) f x = _
    rw [st_fold (barsL n) f (barsL_nd n) x]
    have hx : x ∈ barsL n := mem_barsL.mpr ⟨h0, h1⟩
    by_cases h : ¬ Rc (links (restU sw l)) (feeds so) [] x ∧ isNoneD (f x) = true
    · rw [if_pos h, if_pos ⟨hx, fun m => h.1 ((hF x).mp m), h.2⟩]
    · rw [if_neg h, if_neg (fun q => h ⟨fun r => q.2.1 ((hF x).mpr r), q.2.2⟩)]
open Classical in
theorem fnd_snoc (sw so : List PyData) (P : List (List Int)) (l : List Int) (x : Int) : fndD sw so (P ++ [l]) x = if ¬ Rc (links (restU sw l)) (feeds so) [] x ∧ isNoneD (fndD sw so P x) = true then .int (l.length : Int) else fndD sw so P x := by
  unfold fndD
  rw [List.find?_append]
  cases h : P.find? (fun l => decide (¬ Rc (links (restU sw l)) (feeds so) [] x)) with
  | some l0 => simp [isNoneD]
  | none =>
    by_cases q : Rc (links (restU sw l)) (feeds so) [] x
    · simp [q]
    · simp [q, isNoneD]
theorem o_for {Φ : Phi} {W R : FnS} (h4 : Φ[4]? = some W) (hW : IsSws W) (h7 : Φ[7]? = some R) (hR : IsReach R) {n : Int} {sw so cu : List PyData} (hN : NetD n sw so cu) : ∀ (Q P : List (List Int)) (f : Int → PyData), (∀ x, 0 ≤ x → x < n → f x = fndD sw so P x) → ∃ f', forI (fun y e => do let e' ← asgT (.ref 1) (.d y) e; exS Φ qO e') (Q.map intL) (QE n sw so cu f none none none) = some (.nx, QE n sw so cu f' none none none) ∧ ∀ x, 0 ≤ x → x < n → f' x = fndD sw so (P ++ Q) x
  | [], P, f, h => ⟨f, rfl, by rw [List.append_nil]; exact h⟩
  | l :: Q, P, f, h => by
    obtain ⟨f1, t1, t2⟩ := o_turn (Φ := Φ) (f := f) (l := l) h4 hW h7 hR hN
    obtain ⟨f', q1, q2⟩ := o_for h4 hW h7 hR hN Q (P ++ [l]) f1 fun x h0 h1 => by rw [t2 x h0 h1, fnd_snoc, h x h0 h1]
    refine ⟨f', ?_, by rw [List.append_assoc] at q2; exact q2⟩
    rw [List.map_cons, forI]
    simp only [Option.bind_eq_bind] at t1 q1 ⊢
    rw [t1]
    exact q1
noncomputable def dueL (n : Int) (sw so : List PyData) : List PyData := (barsL n).map (depD sw so)
def IsDepths (G : FnS) : Prop := G.n = 1 ∧ G.io = [] ∧ ∀ (n : Int) (sw so cu : List PyData), NetD n sw so cu → sw.length ≤ 10 → G.sem [.d (netV n sw so cu)] = some (.own ((dueL n sw so).map .d), [])
theorem depths_ok (Φ : Phi) {L W F R : FnS} (h6 : Φ[6]? = some L) (hL : IsLots L) (h4 : Φ[4]? = some W) (hW : IsSws W) (h5 : Φ[5]? = some F) (hF : IsFeeds F) (h7 : Φ[7]? = some R) (hR : IsReach R) : IsDepths (semOf Φ d8) := by
  refine ⟨rfl, rfl, fun n sw so cu hN hsl => ?_⟩
  obtain ⟨l1, l2, l3⟩ := hL
  obtain ⟨f1, f2, f3⟩ := hF
  have n1 := hN.n1
  have n2 := hN.n2
  let e0 : SEnv := [some (.d (netV n sw so cu)), none, none, none, none, none, none]
  let z : Int → PyData := fun _ => .none
  obtain ⟨f', q1, q2⟩ := o_for (Φ := Φ) h4 hW h7 hR hN (lotsS (places (swU sw))) [] z fun x _ _ => rfl
  have hpl : (places (swU sw)).length ≤ 10 := by
    have h1 : (swU sw).length ≤ sw.zipIdx.length := List.length_filterMap_le _ _
    rw [List.length_zipIdx] at h1
    simp [places]
    omega
  have hres : bV n f' = .own ((dueL n sw so).map .d) := by
    unfold bV dueL
    rw [List.map_map]
    congr 1
    refine List.map_congr_left fun b hb => ?_
    have hb := mem_barsL.mp hb
    rw [q2 b hb.1 hb.2, List.nil_append, fnd_all]
    rfl
  rw [← hres]
  refine run_rt (e := [some (.d (netV n sw so cu)), none, some (.d (intL (feeds so))), none, none, none, none]) rfl ?_ rfl
  show exS Φ b8 e0 = _
  have c5 : callV F [.val (.d (netV n sw so cu))] e0 = some (.own (intV (feeds so)), e0) := call_d (xs := [netV n sw so cu]) f1 f2 (f3 n sw so cu hN)
  refine (seq_nx (e1 := QE n sw so cu z none none none) ?_).trans ((seq_nx (e1 := QE n sw so cu f' none none none) ?_).trans (seq_rt (ret_e ?_)))
  · have hc := frz_e (ev_call1 (Φ := Φ) (a := .var 0) h5 (opd_var (x := netV n sw so cu) rfl) c5)
    rw [dat_intV] at hc
    have hm : binV .Mult (.own [.d .none]) (.d (.int n)) = some (bV n z) := by
      have g1 : fitL (1 * n.toNat) = true := by
        unfold fitL LIM
        exact decide_eq_true (by omega)
      have g2 : decide ((0 : Int) ≤ n ∧ n ≤ 1000000) = true := decide_eq_true (by omega)
      have hr : (List.replicate n.toNat [PyData.none]).flatten.map AV.d = (barsL n).map fun b => AV.d (z b) := by
        apply List.ext_getElem?
        intro i
        have e : ∀ m : Nat, (List.replicate m [PyData.none]).flatten = List.replicate m PyData.none := by
          intro m
          induction m with
          | zero => rfl
          | succ m ih => rw [List.replicate_succ, List.flatten_cons, ih, List.replicate_succ]; rfl
        rw [e, List.getElem?_map, List.getElem?_map, List.getElem?_replicate]
        by_cases hi : i < n.toNat
        · rw [if_pos hi, bars_get hi]; rfl
        · rw [if_neg hi, List.getElem?_eq_none (by rw [barsL_len]; omega)]; rfl
      have g3 : fitL n.toNat = true := by
        unfold fitL LIM
        exact decide_eq_true (by omega)
      have : repV (.own [.d .none]) n = some (bV n z) := by
        simp only [repV, AV.own?, leafs, Option.map_some, List.length_singleton, g1, g2, Bool.and_self, if_true]
        simp only [fr, hr]
        rfl
      exact this
    simp only [exS, hc, Option.bind_eq_bind, Option.bind_some]
    simp [evE, evA, opd, look, getv, e0, net1, fitL, LIM, hm, QE]
  · let e1 := QE n sw so cu z none none none
    have w := hW
    obtain ⟨w1, w2, w3⟩ := w
    have c4 : callV W [.val (.d (netV n sw so cu))] e1 = some (.own (intV (places (swU sw))), e1) := call_d (xs := [netV n sw so cu]) w1 w2 (w3 n sw so cu hN)
    have c6 : callV L [.val (.own (intV (places (swU sw))))] e1 = some (.own ((lotsS (places (swU sw))).map fun l => .d (intL l)), e1) := call_v (ts := [.own (intV (places (swU sw)))]) l1 l2 (by
      simp only [List.map_cons, List.map_nil, dat_intV]
      exact l3 _ hpl)
    have hI : evI Φ (.cons (.call 6 (.cons (.call 4 (.cons (.var 0) .nil)) .nil)) .nil) e1 = some ((lotsS (places (swU sw))).map intL, e1, none) := by
      refine evI_list ?_
      rw [List.map_map]
      exact ev_call1 h6 (opd_e (fun i h => by cases h) (ev_call1 h4 (opd_var (x := netV n sw so cu) rfl) c4)) c6
    rw [exS, hI]
    simp only [heldOk, Option.bind_eq_bind, Option.bind_some, if_true]
    simp only [Option.bind_eq_bind] at q1
    rw [show (.seq (.asg (.ref 4) (.frz (.call 7 (.cons (.var 0) (.cons (.lc [6] (.ref 6) (.cons (.call 4 (.cons (.var 0) .nil)) .nil) (.cons (.cmp .NotIn (.ref 6) (.ref 1)) .nil) (.var 6)) (.cons (.var 2) (.cons (.lst .nil) .nil))))))) (.seq (.forr (.ref 5) (.bi .range1 (.cons (.ix (.ref 0) (.lit (.int 1))) .nil)) (.seq (.ife (.and (.cmp .NotIn (.ref 5) (.ref 4)) (.cmp .Is (.ix (.ref 3) (.ref 5)) (.lit .none))) (.seq (.sub 3 (.var 5) (.bi .len (.cons (.ref 1) .nil))) .skip) .skip) (.seq (.fgt [5]) .skip))) (.seq (.fgt [1, 4, 5]) .skip))) = qO from rfl, q1]
    rfl
  · simp [evE, getv, QE]
end K22
namespace K22
open PySem L2 Mi

/-! the weakest customers -/
noncomputable def dN (sw so : List PyData) (b : Int) : Int := match depD sw so b with
  | .int i => i
  | _ => 0
theorem dN_eq {Φ : Phi} {D : FnS} (hD : IsDepth D) {n : Int} {sw so cu : List PyData} (hN : NetD n sw so cu) {b : Int} (h : b ∉ feeds so) : depD sw so b = .int (dN sw so b) := by
  have h1 := depD_none (Φ := Φ) hD hN (b := b)
  rw [decide_eq_false h] at h1
  rcases depD_small hN b with e | ⟨i, e, _⟩
  · rw [e] at h1; cases h1
  · unfold dN
    rw [e]
noncomputable def weakB (so cu : List PyData) : List Int := setL (((tolds cu).filter fun p => !decide (p.1 ∈ feeds so)).map (·.1))
structure WeakP (sw so cu : List PyData) (L : PyData) (B : List Int) : Prop where
  nil : weakB so cu = [] → L = .none ∧ B = []
  some : weakB so cu ≠ [] → ∃ m, (∃ b ∈ weakB so cu, dN sw so b = m) ∧ (∀ b ∈ weakB so cu, m ≤ dN sw so b) ∧ L = .int m ∧ B = (weakB so cu).filter fun b => decide (dN sw so b = m)
theorem weak_uniq {sw so cu : List PyData} {L L' : PyData} {B B' : List Int} (h : WeakP sw so cu L B) (h' : WeakP sw so cu L' B') : L = L' ∧ B = B' := by
  by_cases e : weakB so cu = []
  · obtain ⟨a, b⟩ := h.nil e
    obtain ⟨c, d⟩ := h'.nil e
    exact ⟨a.trans c.symm, b.trans d.symm⟩
  · obtain ⟨m, ⟨b, hb, eb⟩, h2, rfl, rfl⟩ := h.some e
    obtain ⟨m', ⟨b', hb', eb'⟩, h2', rfl, rfl⟩ := h'.some e
    have : m = m' := by
      have := h2 b' hb'
      have := h2' b hb
      omega
    subst this
    exact ⟨rfl, rfl⟩
theorem weak_in {n : Int} {sw so cu : List PyData} (hN : NetD n sw so cu) {b : Int} (h : b ∈ weakB so cu) : b ∉ feeds so ∧ 0 ≤ b ∧ b < n := by
  obtain ⟨p, hp, rfl⟩ := List.mem_map.mp ((mem_setL b _).mp h)
  obtain ⟨h1, h2⟩ := List.mem_filter.mp hp
  obtain ⟨y, hy, he⟩ := List.mem_filterMap.mp h1
  refine ⟨by simpa using h2, ?_⟩
  rcases hN.w3 y hy with rfl | ⟨a, l, rfl, q1, q2, _⟩
  · simp [cuOf] at he
  · simp [cuOf] at he
    rw [← he]
    exact ⟨q1, q2⟩
theorem weak_len {n : Int} {sw so cu : List PyData} (hN : NetD n sw so cu) : (weakB so cu).length ≤ 60 := by
  refine nodup_len 60 _ ((setL_up _).imp fun {a b} h => by omega) fun x hx => ?_
  have := weak_in hN hx
  have := hN.n2
  omega
def IsWeak (G : FnS) : Prop := G.n = 1 ∧ G.io = [] ∧ ∀ (n : Int) (sw so cu : List PyData), NetD n sw so cu → ∃ (L : PyData) (B : List Int), G.sem [.d (netV n sw so cu)] = some (.tup [.d L, .own (intV B)], []) ∧ WeakP sw so cu L B
theorem sset_ints {l : List Int} (h : l.length ≤ 60) : biV .sset [.own (intV l)] = some (.own (intV (setL l))) := by
  simp only [biV, AV.seq?, leafs_intV, Option.bind_some, allInts_map, h, decide_true, if_true]
  simp [fr, intV]
theorem weak_ok (Φ : Phi) {N T F D : FnS} (h18 : Φ[18]? = some N) (hN' : IsChkNet N) (h34 : Φ[34]? = some T) (hT : IsTold T) (h26 : Φ[26]? = some F) (hF : IsFeedBars F) (h32 : Φ[32]? = some D) (hD : IsDepth D) : IsWeak (semOf Φ d35) := by
  obtain ⟨n1, n2, n3⟩ := hN'
  obtain ⟨t1, t2, t3⟩ := hT
  obtain ⟨f1, f2, f3⟩ := hF
  refine ⟨rfl, rfl, fun n sw so cu hN => ?_⟩
  let W := weakB so cu
  have hWl := weak_len hN
  let V : Option AV → Option AV → Option AV → SEnv := fun a b c => [some (.d (netV n sw so cu)), a, b, c, none, none, none]
  have cn : ∀ env, callV N [.val (.d (netV n sw so cu))] env = some (.d .none, env) := fun env => call_d (xs := [netV n sw so cu]) n1 n2 (n3 n sw so cu hN)
  have ct : ∀ env, callV T [.val (.d (netV n sw so cu))] env = some (.own ((tolds cu).map fun p => .d (cuV p)), env) := fun env => call_d (xs := [netV n sw so cu]) t1 t2 (t3 n sw so cu hN)
  have cf : ∀ env, callV F [.val (.d (netV n sw so cu))] env = some (.own (intV (setL (feeds so))), env) := fun env => call_d (xs := [netV n sw so cu]) f1 f2 (f3 n sw so cu hN)
  have cd : ∀ (b : Int) env, callV D [.val (.d (netV n sw so cu)), .val (.d (.int b))] env = some (.d (depD sw so b), env) := fun b env => call_d (xs := [netV n sw so cu, .int b]) hD.1 hD.2.1 (dep_sem hD hN b)
  have s1 : exS Φ (.expr (.call 18 (.cons (.var 0) .nil))) (V none none none) = some (.nx, V none none none) := by
    rw [exS, ev_call1 h18 (opd_var (x := netV n sw so cu) rfl) (cn _)]
    rfl
  have htl := tolds_len hN
  have s2 : exS Φ (.asg (.ref 1) (.frz (.bi .sset (.cons (.lc [4, 6] (.tup (.cons (.ref 4) (.cons (.ref 6) .nil))) (.cons (.call 34 (.cons (.var 0) .nil)) .nil) (.cons (.cmp .NotIn (.ref 4) (.call 26 (.cons (.var 0) .nil))) .nil) (.var 4)) .nil)))) (V none none none) = some (.nx, V (some (.d (intL W))) none none) := by
    have hI : evI Φ (.cons (.call 34 (.cons (.var 0) .nil)) .nil) (V none none none) = some ((tolds cu).map cuV, V none none none, none) := by
      refine evI_list ?_
      rw [List.map_map]
      exact ev_call1 h34 (opd_var (x := netV n sw so cu) rfl) (ct _)
    have hlc := ev_lcenc cuV (Φ := Φ) (own := [4, 6]) (tg := .tup (.cons (.ref 4) (.cons (.ref 6) .nil))) (cond := .cons (.cmp .NotIn (.ref 4) (.call 26 (.cons (.var 0) .nil))) .nil) (elt := .var 4) (fun p => if !decide (p.1 ∈ feeds so) then some (.d (.int p.1)) else none) hI (by omega) rfl fun p _ => by
      let e1 : SEnv := [some (.d (netV n sw so cu)), none, none, none, some (.d (.int p.1)), none, some (.d (.int p.2))]
      have a0 : asgT (.tup (.cons (.ref 4) (.cons (.ref 6) .nil))) (.d (cuV p)) (V none none none) = some e1 := by simp [asgT, asgT.asgTs, V, cuV, e1]
      have hc : evE Φ (.call 26 (.cons (.var 0) .nil)) e1 = some (.own (intV (setL (feeds so))), e1) := ev_call1 h26 (opd_var (x := netV n sw so cu) rfl) (cf e1)
      have ht : evT Φ (.cmp .NotIn (.ref 4) (.call 26 (.cons (.var 0) .nil))) e1 = some (!decide (p.1 ∈ setL (feeds so)), e1) := evT_in_e (g := true) (t := .d (.int p.1)) (fun i h => by cases h) rfl hc rfl (inV_own (setL (feeds so)) p.1 true)
      have e2 : decide (p.1 ∈ setL (feeds so)) = decide (p.1 ∈ feeds so) := by rw [decide_eq_decide]; exact mem_setL _ _
      rw [e2] at ht
      simp only [lcTurn, a0, evC, ht, Option.bind_eq_bind, Option.bind_some]
      by_cases h : p.1 ∈ feeds so
      · simp [h, wipeE, e1, V]
      · simp [h, evE, getv, dat_d, wipeE, e1, V]
    rw [fmap_if] at hlc
    have e7 : ((tolds cu).filter fun p => !decide (p.1 ∈ feeds so)).map (fun p => AV.d (.int p.1)) = intV (((tolds cu).filter fun p => !decide (p.1 ∈ feeds so)).map (·.1)) := by
      unfold intV
      rw [List.map_map]
      rfl
    rw [e7] at hlc
    have hb := sset_ints (l := ((tolds cu).filter fun p => !decide (p.1 ∈ feeds so)).map (·.1)) (by rw [List.length_map]; exact Nat.le_trans (List.length_filter_le _ _) (by omega))
    have h := asg_e (i := 1) (frz_e (ev_bi1 (fun i h => by cases h) hlc hb)) (by simp [V])
    rw [dat_intV] at h
    exact h
  let rows : List (Int × Int) := W.map fun b => (dN sw so b, b)
  have s3 : exS Φ (.asg (.ref 2) (.frz (.lc [4] (.ref 4) (.cons (.var 1) .nil) .nil (.tup (.cons (.call 32 (.cons (.var 0) (.cons (.var 4) .nil))) (.cons (.var 4) .nil)))))) (V (some (.d (intL W))) none none) = some (.nx, V (some (.d (intL W))) (some (.d (.list (rows.map pr)))) none) := by
    have hlc := ev_lcenc PyData.int (Φ := Φ) (own := [4]) (tg := .ref 4) (cond := .nil) (elt := .tup (.cons (.call 32 (.cons (.var 0) (.cons (.var 4) .nil))) (.cons (.var 4) .nil))) (fun b => some (.d (pr (dN sw so b, b)))) (l := W) (show evI Φ (.cons (.var 1) .nil) (V (some (.d (intL W))) none none) = some (W.map .int, V (some (.d (intL W))) none none, none) from evI_var rfl (.inr rfl)) (by show (weakB so cu).length ≤ _; omega) rfl fun b hb => by
      refine turn_ref (by simp [V]) rfl ?_
      have hd := dN_eq (Φ := Φ) hD hN (weak_in hN hb).1
      have c := cd b ((V (some (.d (intL W))) none none).set 4 (some (.d (.int b))))
      rw [hd] at c
      have e1 := ev_call2 (Φ := Φ) (a := .var 0) (b := .var 4) (env := (V (some (.d (intL W))) none none).set 4 (some (.d (.int b)))) h32 (opd_var (x := netV n sw so cu) rfl) (opd_var (x := .int b) rfl) c
      have e2 : evE Φ (.var 4) ((V (some (.d (intL W))) none none).set 4 (some (.d (.int b)))) = some (.d (.int b), (V (some (.d (intL W))) none none).set 4 (some (.d (.int b)))) := ev_var rfl
      rw [evE, evA, e1]
      simp only [Option.bind_eq_bind, Option.bind_some]
      rw [evA, e2]
      simp only [Option.bind_eq_bind, Option.bind_some]
      rw [evA]
      simp [fitL, LIM, mkTup, leafs, pr]
    rw [fmap_some] at hlc
    have hd : (AV.own (W.map fun b => AV.d (pr (dN sw so b, b)))).dat = .list (rows.map pr) := by
      rw [AV.dat, datL_map _ (fun b => pr (dN sw so b, b)) fun p => dat_d _]
      simp only [rows, List.map_map]
      rfl
    have h := asg_e (i := 2) (frz_e hlc) (by simp [V])
    rw [hd] at h
    exact h
  have okr : eqOk (.list (rows.map pr)) = true := (dk_list (n := 1) fun x hx => by
    obtain ⟨p, _, rfl⟩ := List.mem_map.mp hx
    exact dk_pr p).ok (by decide)
  let e2 := V (some (.d (intL W))) (some (.d (.list (rows.map pr)))) none
  have tst : evT Φ (.cmp .Eq (.ref 2) (.lst .nil)) e2 = some (rows.isEmpty, e2) := by
    have e1 : eqOk (.list []) = true := by decide
    have hdn : (AV.own []).dat = .list [] := by simp [AV.dat, datL]
    have hc : cmpV .Eq (.d (.list (rows.map pr))) (.own []) = some rows.isEmpty := by
      simp only [cmpV, dat_d, hdn, okr, e1, eqv_nil, Bool.and_self, if_true]
      cases rows <;> rfl
    simp [evT, evE, evA, opd, look, getv, e2, V, fitL, LIM, hc]
  by_cases hW : W = []
  · refine ⟨.none, [], ?_, ⟨fun _ => ⟨rfl, rfl⟩, fun h => absurd hW h⟩⟩
    refine run_rt (e := e2) rfl ?_ rfl
    show exS Φ b35 (V none none none) = _
    refine (seq_nx s1).trans ((seq_nx s2).trans ((seq_nx s3).trans (seq_rt ?_)))
    rw [ife_t (e1 := e2) (by rw [tst]; simp [rows, hW])]
    refine seq_rt (ret_e ?_)
    simp [evE, evA, fitL, LIM, mkTup, leafs, intV]
  · have hrne : rows ≠ [] := by simp [rows, hW]
    obtain ⟨m, m1, m2, m3⟩ := min_pairs hrne
    have hm : ∃ b ∈ W, dN sw so b = m.1 := by
      obtain ⟨b, hb, e⟩ := List.mem_map.mp m2
      exact ⟨b, hb, by rw [← e]⟩
    refine ⟨.int m.1, W.filter (fun b => decide (dN sw so b = m.1)), ?_, ⟨fun h => absurd h hW, fun _ => ⟨m.1, hm, fun b hb => m3 _ (List.mem_map.mpr ⟨b, hb, rfl⟩), rfl, rfl⟩⟩⟩
    let e3 := V (some (.d (intL W))) (some (.d (.list (rows.map pr)))) (some (.d (.int m.1)))
    refine run_rt (e := e3) rfl ?_ rfl
    show exS Φ b35 (V none none none) = _
    refine (seq_nx s1).trans ((seq_nx s2).trans ((seq_nx s3).trans ((seq_nx (e1 := e2) (ife_skip ?_)).trans ((seq_nx (e1 := e3) ?_).trans (seq_rt (ret_e ?_))))))
    · rw [tst]
      cases e : rows with
      | nil => exact absurd e hrne
      | cons a b => rfl
    · have hb : biV .min1 [.d (.list (rows.map pr))] = some (.d (pr m)) := by
        simp only [biV, AV.lst?, Option.bind_some, m1, Option.map_some]
      have x0 : ixV (.d (pr m)) (.d (.int 0)) = some (.d (.int m.1)) := by simp [ixV, pr, atI, ixN]
      simp [exS, evE, evL, opd, look, getv, e2, e3, V, hb, x0, asgT]
    · have hlc := ev_lcenc pr (Φ := Φ) (own := [5, 4]) (tg := .tup (.cons (.ref 5) (.cons (.ref 4) .nil))) (cond := .cons (.cmp .Eq (.ref 5) (.ref 3)) .nil) (elt := .var 4) (fun p => if decide (p.1 = m.1) then some (.d (.int p.2)) else none) (l := rows) (show evI Φ (.cons (.var 2) .nil) e3 = some (rows.map pr, e3, none) from evI_var rfl (.inr rfl)) (by simp only [rows, List.length_map]; show (weakB so cu).length ≤ _; omega) rfl fun p _ => by
        have c1 := eq_int p.1 m.1
        by_cases h : p.1 = m.1
        · rw [decide_eq_true h] at c1
          simp [lcTurn, asgT, asgT.asgTs, e3, V, pr, evC, evT, evE, opd, look, getv, c1, h, dat_d, wipeE]
          rw [h] at c1
          simp [c1, dat_d]
        · rw [decide_eq_false h] at c1
          simp [lcTurn, asgT, asgT.asgTs, e3, V, pr, evC, evT, evE, opd, look, getv, c1, h, dat_d, wipeE]
      rw [fmap_if] at hlc
      have e7 : (rows.filter fun p => decide (p.1 = m.1)).map (fun p => AV.d (.int p.2)) = intV (W.filter fun b => decide (dN sw so b = m.1)) := by
        simp only [rows, List.filter_map, List.map_map, intV]
        rfl
      rw [e7] at hlc
      have v3 : evE Φ (.var 3) e3 = some (.d (.int m.1), e3) := ev_var rfl
      rw [evE, evA, v3]
      simp only [Option.bind_eq_bind, Option.bind_some]
      rw [evA, hlc]
      simp only [Option.bind_eq_bind, Option.bind_some]
      rw [evA]
      simp [fitL, LIM, mkTup, leafs]
end K22
namespace K22
open PySem L2 Mi

/-! one net -/
structure Slots where
  b : Option AV := none
  t : Option AV := none
  so : Option AV := none
  le : Option AV := none
  nu : Option AV := none
  go : Option AV := none
  lo : Option AV := none
  re : Option AV := none
  to : Option AV := none
def GE (u : AV) (net sh ev fe du : PyData) (z : Slots) : SEnv := [some u, some (.d net), z.b, z.t, z.so, z.le, some (.d sh), some (.d ev), some (.d fe), some (.d du), z.nu, z.go, z.lo, z.re, z.to, none, none, none]
/-! shown atoms -/
theorem atom_ok {D : PyData} (h : D = .none ∨ ∃ i : Int, D = .int i ∧ 0 ≤ i ∧ i ≤ 90) : ∃ s, reprV D = some (.str s) ∧ cmpV .NotEq (.d (.str s)) (.d (.str s)) = some false := by
  have hr : Rp2 0 0 D := by
    rcases h with rfl | ⟨i, rfl, h0, h1⟩
    · exact rp_none
    · exact rp_int (by omega) (by omega)
  have hs := hr.sh.text
  have ok : eqOk (.str (PyData.shown D)) = true := (dk_str hs).ok (by decide)
  refine ⟨PyData.shown D, ?_, ne_same ok⟩
  have h1 : okRepr D = false := by
    rcases h with rfl | ⟨i, rfl, _⟩ <;> simp [okRepr, isSeqD]
  have h2 : atomR D = true := by
    rcases h with rfl | ⟨i, rfl, h0, h1⟩
    · rfl
    · refine decide_eq_true ?_
      have : i.natAbs < 2 ^ 1000 := Nat.lt_of_le_of_lt (show i.natAbs ≤ 90 by omega) (by decide)
      by_cases z : i.natAbs = 0
      · rw [z]; decide
      · have := (Nat.log2_lt z).mpr this
        omega
  unfold reprV
  rw [h1, h2]
  rfl
def numsD (D : PyData) : List Int := [0, 1, 2, 3, 1000000] ++ match D with
  | .int i => [i, i + 1]
  | _ => []
def eB : S := (.seq (.ife (.cmp .NotEq (.bi .repr (.cons (.callk 33 [1, 0] (.cons (.var 2) (.cons (.var 1) .nil))) .nil)) (.bi .repr (.cons (.ix (.ref 9) (.ref 2)) .nil))) (.seq (.ret (.lit (.bool false))) .skip) .skip) (.seq (.asg (.ref 10) (.frz (.bin .Add (.lst (.cons (.lit (.int 0)) (.cons (.lit (.int 1)) (.cons (.lit (.int 2)) (.cons (.lit (.int 3)) (.cons (.bin .Pow (.lit (.int 10)) (.lit (.int 6))) .nil)))))) (.ife (.cmp .Is (.ix (.ref 9) (.ref 2)) (.lit .none)) (.lst .nil) (.lst (.cons (.ix (.ref 9) (.ref 2)) (.cons (.bin .Add (.ix (.ref 9) (.ref 2)) (.lit (.int 1))) .nil))))))) (.seq (.asg (.ref 11) (.frz (.lc [16] (.ref 16) (.cons (.var 10) .nil) .nil (.or (.cmp .Is (.ix (.ref 9) (.ref 2)) (.lit .none)) (.cmp .GtE (.ix (.ref 9) (.ref 2)) (.ref 16)))))) (.seq (.ife (.cmp .NotEq (.bi .repr (.cons (.lc [16] (.ref 16) (.cons (.var 10) .nil) .nil (.call 37 (.cons (.var 1) (.cons (.var 2) (.cons (.var 16) .nil))))) .nil)) (.bi .repr (.cons (.ref 11) .nil))) (.seq (.ret (.lit (.bool false))) .skip) .skip) (.seq (.fgt [2, 10, 11]) .skip)))))
theorem ix_due {n : Int} {sw so : List PyData} {b : Int} (h0 : 0 ≤ b) (h1 : b < n) : ixV (.d (.list (dueL n sw so))) (.d (.int b)) = some (.d (depD sw so b)) := by
  have h : atI (dueL n sw so) b = some (depD sw so b) := by
    unfold atI ixN dueL
    rw [List.length_map, barsL_len, if_pos h0, if_pos (by omega)]
    show ((barsL n).map (depD sw so))[b.toNat]? = _
    rw [List.getElem?_map, bars_get (by omega)]
    show some (depD sw so (b.toNat : Int)) = _
    rw [show ((b.toNat : Nat) : Int) = b by omega]
  simp [ixV, h]
theorem e_turn {Φ : Phi} {S H : FnS} (h33 : Φ[33]? = some S) (hS : IsSupply S) (h37 : Φ[37]? = some H) (hH : IsHolds H) {n : Int} {sw so cu : List PyData} (hN : NetD n sw so cu) {u : AV} {sh ev fe : PyData} {b : Int} (h0 : 0 ≤ b) (h1 : b < n) :
    (do let e' ← asgT (.ref 2) (.d (.int b)) (GE u (netV n sw so cu) sh ev fe (.list (dueL n sw so)) {}); exS Φ eB e') = some (.nx, GE u (netV n sw so cu) sh ev fe (.list (dueL n sw so)) {}) := by
  obtain ⟨s1, s2, s3⟩ := hS
  obtain ⟨p1, p2, p3⟩ := hH
  let net := netV n sw so cu
  let du : PyData := .list (dueL n sw so)
  have x9 : ixV (.d du) (.d (.int b)) = some (.d (depD sw so b)) := ix_due h0 h1
  have hsm := depD_small hN b
  obtain ⟨st, a1, a2⟩ := atom_ok hsm
  generalize hDD : depD sw so b = D at *
  have c33 : ∀ env, callV S [.val (.d net), .val (.d (.int b))] env = some (.d D, env) := fun env => by
    have := s3 n sw so cu b hN h0 h1
    rw [hDD] at this
    exact call_d (xs := [net, .int b]) s1 s2 this
  let Ns := numsD D
  have hNs : ∀ k ∈ Ns, 0 ≤ k ∧ k ≤ 1000000 := by
    rcases hsm with e | ⟨i, e, i0, i1⟩
    · intro k hk
      simp only [Ns, numsD, e, List.append_nil, List.mem_cons, List.not_mem_nil, or_false] at hk
      omega
    · intro k hk
      simp only [Ns, numsD, e, List.mem_append, List.mem_cons, List.not_mem_nil, or_false] at hk
      omega
  have hNl : Ns.length ≤ 7 := by
    rcases hsm with e | ⟨i, e, i0, i1⟩ <;> simp [Ns, numsD, e]
  have c37 : ∀ k ∈ Ns, ∀ env, callV H [.val (.d net), .val (.d (.int b)), .val (.d (.int k))] env = some (.d (.bool (geD D k)), env) := fun k hk env => by
    have := p3 n sw so cu b k hN h0 h1 (hNs k hk).1
    rw [hDD] at this
    exact call_d (xs := [net, .int b, .int k]) p1 p2 this
  let good : PyData := .list (Ns.map fun k => .bool (geD D k))
  have rG : Rp2 100 1 good := (rp_list (b := 0) (d := 0) (k := 7) (fun x hx => by
    obtain ⟨k, _, rfl⟩ := List.mem_map.mp hx
    exact rp_bool _) (by rw [List.length_map]; exact hNl)).mono (by omega) (by omega)
  obtain ⟨v1, v2⟩ := repr_ok rG (by omega) (by omega) rfl
  have v3 := ne_same v2
  generalize hsG : PyData.shown good = sG at v1 v2 v3
  let e0 : Option AV → Option AV → SEnv := fun a c => GE u net sh ev fe du { b := some (.d (.int b)), nu := a, go := c }
  have a0 : asgT (.ref 2) (.d (.int b)) (GE u net sh ev fe du {}) = some (e0 none none) := by simp [asgT, GE, e0]
  show (do let e' ← asgT (.ref 2) (.d (.int b)) (GE u net sh ev fe du {}); exS Φ eB e') = some (.nx, GE u net sh ev fe du {})
  rw [a0]
  simp only [Option.bind_eq_bind, Option.bind_some]
  have is_ : cmpV .Is (.d D) (.d .none) = some (isNoneD D) := by simp [cmpV, dat_d, isNoneD]
  have hr : biV .repr [.d D] = some (.d (.str st)) := by simp only [biV, dat_d, a1, Option.map_some]
  unfold eB
  refine (seq_nx (e1 := e0 none none) (ife_skip ?_)).trans ((seq_nx (e1 := e0 (some (.d (intL Ns))) none) ?_).trans ((seq_nx (e1 := e0 (some (.d (intL Ns))) (some (.d good))) ?_).trans ((seq_nx (e1 := e0 (some (.d (intL Ns))) (some (.d good))) (ife_skip ?_)).trans (by simp [exS, wipeE, GE, e0]))))
  · simp [evT, evE, evL, opd, look, getv, e0, GE, h33, frz_d, dat_d, perm10, c33, x9, hr, a2]
  · have pw : binV .Pow (.d (.int 10)) (.d (.int 6)) = some (.d (.int 1000000)) := by simp [binV]
    have f5 : fitL 5 = true := by decide
    have f2 : fitL 2 = true := by decide
    have f0 : fitL 0 = true := by decide
    rcases hsm with e | ⟨i, e, i0, i1⟩
    · have hi : isNoneD D = true := by rw [e]; rfl
      have hb : binV .Add (.own [.d (.int 0), .d (.int 1), .d (.int 2), .d (.int 3), .d (.int 1000000)]) (.own []) = some (.own (intV Ns)) := by
        simp [Ns, numsD, e, intV, binV, catV, AV.lst?, leafs, fr, fitL, LIM]
      simp [exS, evE, evT, evA, opd, look, getv, e0, GE, pw, f5, f0, x9, is_, hi, hb, dat_intV, asgT]
    · have hi : isNoneD D = false := by rw [e]; rfl
      have hb : binV .Add (.own [.d (.int 0), .d (.int 1), .d (.int 2), .d (.int 3), .d (.int 1000000)]) (.own [.d (.int i), .d (.int (i + 1))]) = some (.own (intV Ns)) := by
        simp [Ns, numsD, e, intV, binV, catV, AV.lst?, leafs, fr, fitL, LIM]
      have b2 : binV .Add (.d (.int i)) (.d (.int 1)) = some (.d (.int (i + 1))) := rfl
      rw [e] at x9 is_ hi
      simp [exS, evE, evT, evA, opd, look, getv, e0, GE, pw, f5, f2, x9, is_, hi, b2, hb, dat_intV, asgT]
  · have hlc := ev_lcenc PyData.int (Φ := Φ) (own := [16]) (tg := .ref 16) (cond := .nil) (elt := .or (.cmp .Is (.ix (.ref 9) (.ref 2)) (.lit .none)) (.cmp .GtE (.ix (.ref 9) (.ref 2)) (.ref 16))) (fun k => some (.d (.bool (geD D k)))) (l := Ns) (show evI Φ (.cons (.var 10) .nil) (e0 (some (.d (intL Ns))) none) = some (Ns.map .int, e0 (some (.d (intL Ns))) none, none) from evI_var rfl (.inr rfl)) (by omega) rfl fun k _ => by
      refine turn_ref (by simp [e0, GE]) rfl ?_
      rcases hsm with e | ⟨i, e, i0, i1⟩
      · have hi : isNoneD D = true := by rw [e]; rfl
        have hg : geD D k = true := by rw [e]; rfl
        simp [evE, opd, look, getv, e0, GE, x9, is_, hi, hg]
      · have hi : isNoneD D = false := by rw [e]; rfl
        have hg : geD D k = decide (k ≤ i) := by rw [e]; rfl
        have cg : cmpV .GtE (.d D) (.d (.int k)) = some (decide (k ≤ i)) := by rw [e]; rfl
        rw [hg]
        simp [evE, opd, look, getv, e0, GE, x9, is_, hi, cg]
    rw [fmap_some] at hlc
    have hd : (AV.own (Ns.map fun k => AV.d (.bool (geD D k)))).dat = good := by
      rw [AV.dat, datL_map _ (fun k => .bool (geD D k)) fun p => dat_d _]
    have h := asg_e (i := 11) (frz_e hlc) (by simp [e0, GE])
    rw [hd] at h
    exact h
  · let e3 := e0 (some (.d (intL Ns))) (some (.d good))
    have hlc := ev_lcenc PyData.int (Φ := Φ) (own := [16]) (tg := .ref 16) (cond := .nil) (elt := .call 37 (.cons (.var 1) (.cons (.var 2) (.cons (.var 16) .nil)))) (fun k => some (.d (.bool (geD D k)))) (l := Ns) (show evI Φ (.cons (.var 10) .nil) e3 = some (Ns.map .int, e3, none) from evI_var rfl (.inr rfl)) (by omega) rfl fun k hk => by
      refine turn_ref (by simp [e3, e0, GE]) rfl ?_
      exact ev_call3 h37 (opd_var (x := net) rfl) (opd_var (x := .int b) rfl) (opd_var (x := .int k) rfl) (c37 k hk _)
    rw [fmap_some] at hlc
    have hd : (AV.own (Ns.map fun k => AV.d (.bool (geD D k)))).dat = good := by
      rw [AV.dat, datL_map _ (fun k => .bool (geD D k)) fun p => dat_d _]
    have b1 : biV .repr [.own (Ns.map fun k => AV.d (.bool (geD D k)))] = some (.d (.str sG)) := by simp only [biV, hd, v1, Option.map_some]
    have b2 : biV .repr [.d good] = some (.d (.str sG)) := by simp only [biV, dat_d, v1, Option.map_some]
    have q1 := ev_bi1 (fun i h => by cases h) hlc b1
    have q2 : evE Φ (.bi .repr (.cons (.ref 11) .nil)) e3 = some (.d (.str sG), e3) := by
      simp [evE, evL, opd, look, getv, e3, e0, GE, b2]
    rw [evT, opd_e (fun i h => by cases h) q1]
    simp only [Option.bind_eq_bind, Option.bind_some]
    rw [opd_e (fun i h => by cases h) q2]
    simp only [Option.bind_eq_bind, Option.bind_some, look, v3]
    rfl
/-! losses that are drawn -/
def fB2 : S := (.seq (.asg (.ref 12) (.frz (.bi .sorted (.cons (.slc (.call 2 (.cons (.ref 0) (.cons (.var 7) .nil))) .nil (.cons (.call 0 (.cons (.ref 0) (.cons (.lit (.int 4)) .nil))) .nil)) .nil)))) (.seq (.asg (.ref 13) (.frz (.call 7 (.cons (.var 1) (.cons (.lc [17] (.ref 17) (.cons (.var 7) .nil) (.cons (.cmp .NotIn (.ref 17) (.ref 12)) .nil) (.var 17)) (.cons (.var 8) (.cons (.lst .nil) .nil))))))) (.seq (.asg (.ref 14) (.lst (.cons (.call 28 (.cons (.var 1) (.cons (.var 12) .nil))) (.cons (.callk 28 [1, 0] (.cons (.bi .tuple (.cons (.ref 12) .nil)) (.cons (.var 1) .nil))) .nil)))) (.seq (.ife (.cmp .NotEq (.bi .repr (.cons (.ref 14) .nil)) (.repL (.cons (.ref 13) (.cons (.ref 13) .nil)))) (.seq (.ret (.lit (.bool false))) .skip) .skip) (.seq (.app1 14 (.lit (.int 0)) (.lit .none)) (.seq (.ife (.cmp .NotEq (.bi .repr (.cons (.call 28 (.cons (.var 1) (.cons (.var 12) .nil))) .nil)) (.bi .repr (.cons (.ref 13) .nil))) (.seq (.ret (.lit (.bool false))) .skip) .skip) (.seq (.fgt [3, 12, 13, 14]) .skip)))))))
theorem f_turn {Φ : Phi} {D M R B : FnS} (h0 : Φ[0]? = some D) (hD : IsDraw D) (h2 : Φ[2]? = some M) (hM : IsMixed M) (h7 : Φ[7]? = some R) (hR : IsReach R) (h28 : Φ[28]? = some B) (hB : IsBehind B) {n : Int} {sw so cu : List PyData} (hN : NetD n sw so cu) {t : AV} (hp : Pot t) {sh du : PyData} (x : PyData) :
    ∃ u, (do let e' ← asgT (.ref 3) (.d x) (GE t (netV n sw so cu) sh (intL (places (swU sw))) (intL (feeds so)) du {}); exS Φ fB2 e') = some (.nx, GE u (netV n sw so cu) sh (intL (places (swU sw))) (intL (feeds so)) du {}) ∧ Pot u := by
  obtain ⟨r1, r2, r3⟩ := hR
  obtain ⟨k1, k2, k3⟩ := hB
  have hpl : (places (swU sw)).length ≤ 90 := by
    have := (swU_ok hN).len
    simpa [places] using this
  have up := swU_up sw
  let net := netV n sw so cu
  let ev := intL (places (swU sw))
  let fe := intL (feeds so)
  obtain ⟨ms, u1, cM, hperm, hp1⟩ := mixed_fact hM (o := .d ev) (ns := places (swU sw)) (dat_d _) hp (by omega)
  obtain ⟨d, u, cD, d0, d5, hp2⟩ := draw_fact hD (m := 4) hp1 (by omega) (by omega)
  have hml : ms.length ≤ 90 := by rw [hperm.length_eq]; exact hpl
  have hnd : ms.Nodup := hperm.nodup_iff.mpr (up.imp fun {a b} h => by omega)
  obtain ⟨G, g1, g2, g3⟩ := sort_up (F := ms.take d.toNat) (by rw [List.length_take]; omega) (List.Sublist.nodup (List.take_sublist _ _) hnd)
  have hG : Lots sw G := ⟨g3, fun y hy => hperm.mem_iff.mp (List.mem_of_mem_take (g2.mem_iff.mp hy))⟩
  have s1 : slcV (.own (intV ms)) none (some d) = some (.own (intV (ms.take d.toNat))) := by
    have := cut_to (ms.map PyData.int) d.toNat
    rw [show ((d.toNat : Nat) : Int) = d by omega] at this
    simp only [slcV, AV.lst?, leafs_intV, this]
    simp [fr, intV, List.map_take, Function.comp_def]
  have s2 : biV .sorted [.own (intV (ms.take d.toNat))] = some (.own (intV G)) := by
    simp only [biV, AV.lst?, leafs_intV, Option.bind_some, g1, Option.map_some]
    simp [fr, intV]
  have hfl := feeds_len hN
  obtain ⟨F, hF1, hF2, hF3⟩ := r3 n sw so cu (restU sw G) (feeds so) [] (rest_UD hN G) hN.n2 (feeds_in hN) (by omega)
  obtain ⟨F', hB1, hB2, hB3⟩ := k3 n sw so cu G hN hG
  have eF : F' = F := up_unique hB3 hF3 fun y => (hB2 y).trans (hF2 y).symm
  subst eF
  have hFin : ∀ y ∈ F', 0 ≤ y ∧ y < n := fun y hy => Rc.bar (fun p hp => by
    obtain ⟨u, hu, rfl⟩ := List.mem_map.mp hp
    exact (rest_UD hN G).in_ u hu) (feeds_in hN) ((hF2 y).mp hy)
  have hn2 := hN.n2
  have hFl : F'.length ≤ 60 := nodup_len 60 F' (hF3.imp fun {a b} h => by omega) fun y hy => by have := hFin y hy; omega
  have rF : Rp2 60 1 (intL F') := rp_intL hFl fun y hy => by have := hFin y hy; omega
  obtain ⟨v1, v2⟩ := repr_ok rF (by omega) (by omega) rfl
  have v3 := ne_same v2
  generalize hsF : PyData.shown (intL F') = sF at v1 v2 v3
  have rFF : Rp2 200 2 (.list [intL F', intL F']) := (rp_list (k := 2) (fun x hx => by
    simp only [List.mem_cons, List.not_mem_nil, or_false, or_self] at hx
    rw [hx]
    exact rF) (by simp)).mono (by omega) (by omega)
  obtain ⟨y1, y2⟩ := repr_ok rFF (by omega) (by omega) rfl
  have y3 := ne_same y2
  generalize hsFF : PyData.shown (.list [intL F', intL F']) = sFF at y1 y2 y3
  have hdn : (AV.own []).dat = intL [] := by simp [AV.dat, datL, intL]
  have c7 : ∀ env, callV R [.val (.d net), .val (.own (intV (places (restU sw G)))), .val (.d fe), .val (.own [])] env = some (.own (intV F'), env) := fun env => call_v (ts := [.d net, .own (intV (places (restU sw G))), .d fe, .own []]) r1 r2 (by
    simp only [List.map_cons, List.map_nil, dat_d, dat_intV, hdn]
    exact hF1)
  have cK0 : ∀ env, callV B [.val (.d net), .val (.d (intL G))] env = some (.own (intV F'), env) := fun env => call_d (xs := [net, intL G]) k1 k2 (hB1 false)
  have cK1 : ∀ env, callV B [.val (.d net), .val (.d (jobV G))] env = some (.own (intV F'), env) := fun env => call_d (xs := [net, jobV G]) k1 k2 (hB1 true)
  refine ⟨u, ?_, hp2⟩
  let X : AV → Option AV → Option AV → Option AV → SEnv := fun t a b c => GE t net sh ev fe du { t := some (.d x), lo := a, re := b, to := c }
  have a0 : asgT (.ref 3) (.d x) (GE t net sh ev fe du {}) = some (X t none none none) := by simp [asgT, GE, X]
  show (do let e' ← asgT (.ref 3) (.d x) (GE t net sh ev fe du {}); exS Φ fB2 e') = some (.nx, GE u net sh ev fe du {})
  rw [a0]
  simp only [Option.bind_eq_bind, Option.bind_some]
  let E1 := X u (some (.d (intL G))) none none
  let E2 := X u (some (.d (intL G))) (some (.d (intL F'))) none
  let E3 := X u (some (.d (intL G))) (some (.d (intL F'))) (some (.own [.own (intV F'), .own (intV F')]))
  let E4 := X u (some (.d (intL G))) (some (.d (intL F'))) (some (.own [.own (intV F' ++ [.d .none]), .own (intV F')]))
  unfold fB2
  refine (seq_nx (e1 := E1) ?_).trans ((seq_nx (e1 := E2) ?_).trans ((seq_nx (e1 := E3) ?_).trans ((seq_nx (e1 := E3) (ife_skip ?_)).trans ((seq_nx (e1 := E4) ?_).trans ((seq_nx (e1 := E4) (ife_skip ?_)).trans (by simp [exS, wipeE, E4, X, GE]))))))
  · have e1 : evE Φ (.call 2 (.cons (.ref 0) (.cons (.var 7) .nil))) (X t none none none) = some (.own (intV ms), X u1 none none none) := by
      simp [evE, evL, opd, getv, X, GE, h2, dat_d, cM]
    have e2 : evE Φ (.call 0 (.cons (.ref 0) (.cons (.lit (.int 4)) .nil))) (X u1 none none none) = some (.d (.int d), X u none none none) := by
      simp [evE, evL, opd, getv, X, GE, h0, dat_d, cD]
    have e3 : evE Φ (.slc (.call 2 (.cons (.ref 0) (.cons (.var 7) .nil))) .nil (.cons (.call 0 (.cons (.ref 0) (.cons (.lit (.int 4)) .nil))) .nil)) (X t none none none) = some (.own (intV (ms.take d.toNat)), X u none none none) := by
      rw [evE, opd_e (fun i h => by cases h) e1]
      simp only [Option.bind_eq_bind, Option.bind_some]
      rw [evP]
      simp only [Option.bind_some]
      rw [evP, e2]
      simp only [Option.bind_eq_bind, Option.bind_some, look, s1]
    have e4 := frz_e (ev_bi1 (fun i h => by cases h) e3 s2)
    rw [dat_intV] at e4
    exact asg_e (i := 12) e4 (by simp [X, GE])
  · have hlc := ev_lcfil (Φ := Φ) (i := 17) (it := .cons (.var 7) .nil) (c := .cmp .NotIn (.ref 17) (.ref 12)) (env := E1) (X := places (swU sw)) (fun y => !decide (y ∈ G)) (evI_var rfl (.inr rfl)) (by omega) (by simp [E1, X, GE]) rfl fun y _ => evT_notin (t := .d (.int y)) (u := .d (intL G)) rfl rfl (inV_list G y true)
    rw [places_rest] at hlc
    obtain ⟨q, hq⟩ : ∃ q : E, q = (.lc [17] (.ref 17) (.cons (.var 7) .nil) (.cons (.cmp .NotIn (.ref 17) (.ref 12)) .nil) (.var 17)) := ⟨_, rfl⟩
    have hn : ∀ i, q ≠ .ref i := by rw [hq]; intro i h; cases h
    rw [← hq] at hlc ⊢
    have c := evE_call4 (Φ := Φ) (k := 7) (a := .var 1) (b := q) (c := .var 8) (d := .lst .nil) h7 (opd_var (x := net) rfl) (opd_e hn hlc) (opd_var (x := fe) rfl) (opd_e (t := .own []) (env := E1) (e1 := E1) (by intro i h; cases h) (by simp [evE, evA, fitL, LIM])) (c7 _)
    have h := asg_e (i := 13) (frz_e c) (by simp [E1, X, GE])
    rw [dat_intV] at h
    exact h
  · have t1 : biV .tuple [.d (intL G)] = some (.d (jobV G)) := by simp [biV, AV.seq?, intL, jobV]
    have f2 : fitL 2 = true := by decide
    simp [exS, evE, evL, evA, opd, look, getv, E2, E3, X, GE, dat_d, h28, cK0, cK1, t1, frz_d, perm10, f2, asgT]
  · have hd : (AV.own [.own (intV F'), .own (intV F')]).dat = .list [intL F', intL F'] := by
      rw [AV.dat, datL2, dat_intV]
    have b1 : biV .repr [.own [.own (intV F'), .own (intV F')]] = some (.d (.str sFF)) := by simp only [biV, hd, y1, Option.map_some]
    have f2 : fitL 2 = true := by decide
    have dl : datL [.d (intL F'), .d (intL F')] = [intL F', intL F'] := by simp [datL, dat_d]
    simp [evT, evE, evL, opd, look, getv, E3, X, GE, dat_d, b1, f2, dl, y1, y3]
  · have e1 : ixN 2 0 = some 0 := by decide
    have f1 : fitL ((intV F').length + 1) = true := by
      unfold fitL LIM
      rw [intV_length]
      exact decide_eq_true (by omega)
    simp [exS, evE, getv, E3, E4, X, GE, e1, f1]
  · have b1 : biV .repr [.own (intV F')] = some (.d (.str sF)) := by simp only [biV, dat_intV, v1, Option.map_some]
    have b2 : biV .repr [.d (intL F')] = some (.d (.str sF)) := by simp only [biV, dat_d, v1, Option.map_some]
    simp [evT, evE, evL, opd, look, getv, E4, X, GE, dat_d, h28, cK0, b1, b2, v3]
theorem f_for {Φ : Phi} {D M R B : FnS} (h0 : Φ[0]? = some D) (hD : IsDraw D) (h2 : Φ[2]? = some M) (hM : IsMixed M) (h7 : Φ[7]? = some R) (hR : IsReach R) (h28 : Φ[28]? = some B) (hB : IsBehind B) {n : Int} {sw so cu : List PyData} (hN : NetD n sw so cu) {sh du : PyData} : ∀ (xs : List PyData) (t : AV), Pot t →
    ∃ u, forI (fun y e => do let e' ← asgT (.ref 3) (.d y) e; exS Φ fB2 e') xs (GE t (netV n sw so cu) sh (intL (places (swU sw))) (intL (feeds so)) du {}) = some (.nx, GE u (netV n sw so cu) sh (intL (places (swU sw))) (intL (feeds so)) du {}) ∧ Pot u
  | [], t, hp => ⟨t, rfl, hp⟩
  | x :: xs, t, hp => by
    obtain ⟨u, q1, hu⟩ := f_turn (sh := sh) (du := du) h0 hD h2 hM h7 hR h28 hB hN hp x
    obtain ⟨v, q3, hv⟩ := f_for (sh := sh) (du := du) h0 hD h2 hM h7 hR h28 hB hN xs u hu
    refine ⟨v, ?_, hv⟩
    rw [forI]
    simp only [Option.bind_eq_bind] at q1 q3 ⊢
    rw [q1]
    exact q3
end K22
namespace K22
open PySem L2 Mi

/-! the law itself -/
def lcW : E := (.lc [15] (.ref 15) (.cons (.ix (.ref 1) (.lit (.int 4))) .nil) (.cons (.and (.cmp .NotEq (.ref 15) (.tup .nil)) (.cmp .IsNot (.ix (.ref 9) (.ix (.ref 15) (.lit (.int 0)))) (.lit .none))) .nil) (.ix (.ref 15) (.lit (.int 0))))
theorem some_e {Φ Ψ : Phi} {D : FnS} (hD : IsDepth D) {n : Int} {sw so cu : List PyData} (hN : NetD n sw so cu) {u : AV} {sh ev fe : PyData} : evE Φ lcW (GE u (netV n sw so cu) sh ev fe (.list (dueL n sw so)) {}) = some (.own (intV (((tolds cu).filter fun p => !decide (p.1 ∈ feeds so)).map (·.1))), GE u (netV n sw so cu) sh ev fe (.list (dueL n sw so)) {}) := by
  let e0 := GE u (netV n sw so cu) sh ev fe (.list (dueL n sw so)) {}
  have hI : evI Φ (.cons (.ix (.ref 1) (.lit (.int 4))) .nil) e0 = some (cu.map id, e0, none) := by
    have h2 : evE Φ (.ix (.ref 1) (.lit (.int 4))) e0 = some (.d (.tuple cu), e0) := by simp [evE, opd, e0, GE, getv, look, net4]
    simp [evI, h2, AV.seq?]
  have hl := hN.s3
  have hlc := ev_lcenc id (Φ := Φ) (own := [15]) (tg := .ref 15) (cond := .cons (.and (.cmp .NotEq (.ref 15) (.tup .nil)) (.cmp .IsNot (.ix (.ref 9) (.ix (.ref 15) (.lit (.int 0)))) (.lit .none))) .nil) (elt := .ix (.ref 15) (.lit (.int 0))) (fun x => (cuOf x).bind fun p => if !decide (p.1 ∈ feeds so) then some (.d (.int p.1)) else none) (l := cu) hI (by omega) rfl fun x hx => by
    have e2 : eqOk (.tuple []) = true := by decide
    have e1 := ok_cust (hN.w3 x hx)
    rcases hN.w3 x hx with rfl | ⟨a, l, rfl, q1, q2, _⟩
    · have c1 : cmpV .NotEq (.d (.tuple [])) (.d (.tuple [])) = some false := by
        simp [cmpV, dat_d, e2, PyData.eqv, PyData.eqvAll]
      simp [lcTurn, asgT, e0, GE, evC, evT, evE, evA, opd, look, getv, c1, dat_d, wipeE, fitL, LIM, mkTup, leafs, cuOf]
    · have c1 : cmpV .NotEq (.d (.tuple [.int a, .int l])) (.d (.tuple [])) = some true := by
        simp [cmpV, dat_d, e1, e2, PyData.eqv, PyData.eqvAll]
      have x0 : ixV (.d (.tuple [.int a, .int l])) (.d (.int 0)) = some (.d (.int a)) := by simp [ixV, atI, ixN]
      have x9 : ixV (.d (.list (dueL n sw so))) (.d (.int a)) = some (.d (depD sw so a)) := ix_due q1 q2
      have hn := depD_none (Φ := Ψ) hD hN (b := a)
      have c2 : cmpV .IsNot (.d (depD sw so a)) (.d .none) = some (!decide (a ∈ feeds so)) := by rw [← hn]; simp [cmpV, dat_d, isNoneD]
      by_cases hf : a ∈ feeds so
      · rw [decide_eq_true hf] at c2
        simp [lcTurn, asgT, e0, GE, evC, evT, evE, evA, opd, look, getv, c1, c2, x0, x9, hf, dat_d, wipeE, fitL, LIM, mkTup, leafs, cuOf]
      · rw [decide_eq_false hf] at c2
        simp [lcTurn, asgT, e0, GE, evC, evT, evE, evA, opd, look, getv, c1, c2, x0, x9, hf, dat_d, wipeE, fitL, LIM, mkTup, leafs, cuOf]
  have e7 : (cu.filterMap fun x => (cuOf x).bind fun p => if !decide (p.1 ∈ feeds so) then some (AV.d (.int p.1)) else none) = intV (((tolds cu).filter fun p => !decide (p.1 ∈ feeds so)).map (·.1)) := by
    unfold intV tolds
    rw [List.map_map, ← fmap_if, List.filterMap_filterMap]
    rfl
  rw [e7] at hlc
  exact hlc
theorem ne_nil0 {Φ : Phi} {env : SEnv} {i : Nat} {W : List Int} (h : getv env i = some (.d (intL W))) : evT Φ (.cmp .NotEq (.ref i) (.lst .nil)) env = some (!W.isEmpty, env) := by
  have okr : eqOk (intL W) = true := (dk_intL W).ok (by decide)
  have e1 : eqOk (.list []) = true := by decide
  have hdn : (AV.own []).dat = .list [] := by simp [AV.dat, datL]
  have hc : cmpV .NotEq (.d (intL W)) (.own []) = some (!W.isEmpty) := by
    simp only [cmpV, dat_d, hdn, okr, e1, Bool.and_self, if_true]
    unfold intL
    rw [eqv_nil]
    cases W <;> rfl
  simp [evT, evE, evA, opd, look, h, fitL, LIM, hc]
def lcM : E := (.lc [2] (.ref 2) (.cons (.var 4) .nil) .nil (.ix (.ref 9) (.ref 2)))
def lcF : E := (.lc [2] (.ref 2) (.cons (.var 4) .nil) (.cons (.cmp .Eq (.ix (.ref 9) (.ref 2)) (.ref 5)) .nil) (.var 2))
theorem least_e {Φ Ψ : Phi} {D : FnS} (hD : IsDepth D) {n : Int} {sw so cu : List PyData} (hN : NetD n sw so cu) (u : AV) (sh ev fe : PyData) : ∃ (L : PyData) (B : List Int), WeakP sw so cu L B ∧
    evE Φ (.ife (.cmp .NotEq (.ref 4) (.lst .nil)) (.bi .min1 (.cons lcM .nil)) (.lit .none)) (GE u (netV n sw so cu) sh ev fe (.list (dueL n sw so)) { so := some (.d (intL (weakB so cu))) }) = some (.d L, GE u (netV n sw so cu) sh ev fe (.list (dueL n sw so)) { so := some (.d (intL (weakB so cu))) }) ∧
    evE Φ lcF (GE u (netV n sw so cu) sh ev fe (.list (dueL n sw so)) { so := some (.d (intL (weakB so cu))), le := some (.d L) }) = some (.own (intV B), GE u (netV n sw so cu) sh ev fe (.list (dueL n sw so)) { so := some (.d (intL (weakB so cu))), le := some (.d L) }) := by
  let W := weakB so cu
  have hWl : W.length ≤ 60 := weak_len hN
  let e1 := GE u (netV n sw so cu) sh ev fe (.list (dueL n sw so)) { so := some (.d (intL W)) }
  let e2 : PyData → SEnv := fun L => GE u (netV n sw so cu) sh ev fe (.list (dueL n sw so)) { so := some (.d (intL W)), le := some (.d L) }
  have tst : evT Φ (.cmp .NotEq (.ref 4) (.lst .nil)) e1 = some (!W.isEmpty, e1) := ne_nil0 rfl
  have xd : ∀ b ∈ W, ixV (.d (.list (dueL n sw so))) (.d (.int b)) = some (.d (.int (dN sw so b))) := fun b hb => by
    obtain ⟨w1, w2, w3⟩ := weak_in hN hb
    rw [ix_due w2 w3, dN_eq (Φ := Ψ) hD hN w1]
  by_cases hW : W = []
  · refine ⟨.none, [], ⟨fun _ => ⟨rfl, rfl⟩, fun h => absurd hW h⟩, ?_, ?_⟩
    · show evE Φ _ e1 = _
      rw [hW] at tst
      rw [evE, tst]
      rfl
    · have hlc := ev_lcenc PyData.int (Φ := Φ) (own := [2]) (tg := .ref 2) (cond := .cons (.cmp .Eq (.ix (.ref 9) (.ref 2)) (.ref 5)) .nil) (elt := .var 2) (fun _ => none) (l := W) (show evI Φ (.cons (.var 4) .nil) (e2 .none) = some (W.map .int, e2 .none, none) from evI_var rfl (.inr rfl)) (by omega) rfl fun b hb => by
        rw [hW] at hb
        exact absurd hb List.not_mem_nil
      have e7 : (W.filterMap fun _ => (none : Option AV)) = intV [] := by rw [hW]; rfl
      rw [e7] at hlc
      exact hlc
  · obtain ⟨m, m1, m2, m3⟩ := min_ints (P := W.map (dN sw so)) (by simp [hW])
    have hm : ∃ b ∈ W, dN sw so b = m := by
      obtain ⟨b, hb, e⟩ := List.mem_map.mp m2
      exact ⟨b, hb, e⟩
    refine ⟨.int m, W.filter (fun b => decide (dN sw so b = m)), ⟨fun h => absurd h hW, fun _ => ⟨m, hm, fun b hb => m3 _ (List.mem_map.mpr ⟨b, hb, rfl⟩), rfl, rfl⟩⟩, ?_, ?_⟩
    · show evE Φ _ e1 = _
      have ht : (!W.isEmpty) = true := by cases e : W with
        | nil => exact absurd e hW
        | cons a b => rfl
      rw [ht] at tst
      have hlc := ev_lcenc PyData.int (Φ := Φ) (own := [2]) (tg := .ref 2) (cond := .nil) (elt := .ix (.ref 9) (.ref 2)) (fun b => some (.d (.int (dN sw so b)))) (l := W) (show evI Φ (.cons (.var 4) .nil) e1 = some (W.map .int, e1, none) from evI_var rfl (.inr rfl)) (by omega) rfl fun b hb => by
        refine turn_ref (by simp [e1, GE]) rfl ?_
        simp [evE, opd, look, getv, e1, GE, xd b hb]
      rw [fmap_some] at hlc
      have e7 : (W.map fun b => AV.d (.int (dN sw so b))) = intV (W.map (dN sw so)) := by
        unfold intV
        rw [List.map_map]
        rfl
      rw [e7] at hlc
      have hb : biV .min1 [.own (intV (W.map (dN sw so)))] = some (.d (.int m)) := by
        simp only [biV, AV.lst?, leafs_intV, Option.bind_some, m1, Option.map_some]
      rw [evE, tst]
      exact ev_bi1 (fun i h => by cases h) hlc hb
    · have hlc := ev_lcenc PyData.int (Φ := Φ) (own := [2]) (tg := .ref 2) (cond := .cons (.cmp .Eq (.ix (.ref 9) (.ref 2)) (.ref 5)) .nil) (elt := .var 2) (fun b => if decide (dN sw so b = m) then some (.d (.int b)) else none) (l := W) (show evI Φ (.cons (.var 4) .nil) (e2 (.int m)) = some (W.map .int, e2 (.int m), none) from evI_var rfl (.inr rfl)) (by omega) rfl fun b hb => by
        have c1 := eq_int (dN sw so b) m
        have x9 := xd b hb
        by_cases h : dN sw so b = m
        · rw [decide_eq_true h] at c1
          rw [decide_eq_true h]
          simp [lcTurn, asgT, e2, GE, evC, evT, evE, opd, look, getv, x9, c1, dat_d, wipeE]
        · rw [decide_eq_false h] at c1
          rw [decide_eq_false h]
          simp [lcTurn, asgT, e2, GE, evC, evT, evE, opd, look, getv, x9, c1, dat_d, wipeE]
      rw [fmap_if] at hlc
      have e7 : (W.filter fun b => decide (dN sw so b = m)).map (fun b => AV.d (.int b)) = intV (W.filter fun b => decide (dN sw so b = m)) := by
        unfold intV
        rfl
      rw [e7] at hlc
      exact hlc
theorem weak_rp {n : Int} {sw so cu : List PyData} (hN : NetD n sw so cu) {L : PyData} {B : List Int} (h : WeakP sw so cu L B) (hs : ∀ b ∈ weakB so cu, 0 ≤ dN sw so b ∧ dN sw so b ≤ 90) : Rp2 1000 2 (.tuple [L, intL B]) := by
  have hl := weak_len hN
  have hn := hN.n2
  have key : (L = .none ∨ ∃ i : Int, L = .int i ∧ 0 ≤ i ∧ i ≤ 90) ∧ B.length ≤ 60 ∧ ∀ x ∈ B, 0 ≤ x ∧ x < 1000 := by
    by_cases e : weakB so cu = []
    · obtain ⟨rfl, rfl⟩ := h.nil e
      exact ⟨.inl rfl, by simp, fun x hx => absurd hx List.not_mem_nil⟩
    · obtain ⟨m, ⟨b, hb, eb⟩, _, rfl, rfl⟩ := h.some e
      refine ⟨.inr ⟨m, rfl, ?_, ?_⟩, Nat.le_trans (List.length_filter_le _ _) hl, fun x hx => ?_⟩
      · have := (hs b hb).1; omega
      · have := (hs b hb).2; omega
      · have := weak_in hN (List.mem_filter.mp hx).1
        omega
  obtain ⟨k1, k2, k3⟩ := key
  refine (rp_tuple (b := 60) (d := 1) (k := 2) (fun x hx => ?_) (by simp)).mono (by omega) (by omega)
  simp only [List.mem_cons, List.not_mem_nil, or_false] at hx
  rcases hx with rfl | rfl
  · rcases k1 with rfl | ⟨i, rfl, h0, h1⟩
    · exact rp_none.mono (by omega) (by omega)
    · exact (rp_int (by omega) (by omega)).mono (by omega) (by omega)
  · exact rp_intL k2 k3
def IsRight (G : FnS) : Prop := G.n = 1 ∧ G.io = [0] ∧ ∀ t, Pot t → ∃ u, G.sem [t] = some (.d (.bool true), [u]) ∧ Pot u
theorem right_ok (Φ : Phi) {D M N W F U S H R B K Q : FnS} (h0 : Φ[0]? = some D) (hD : IsDraw D) (h2 : Φ[2]? = some M) (hM : IsMixed M) (h3 : Φ[3]? = some N) (hN : IsNet N) (h4 : Φ[4]? = some W) (hW : IsSws W) (h5 : Φ[5]? = some F) (hF : IsFeeds F) (h8 : Φ[8]? = some U) (hU : IsDepths U) (h33 : Φ[33]? = some S) (hS : IsSupply S) (h37 : Φ[37]? = some H) (hH : IsHolds H) (h7 : Φ[7]? = some R) (hR : IsReach R) (h28 : Φ[28]? = some B) (hB : IsBehind B) (h35 : Φ[35]? = some K) (hK : IsWeak K) (h32 : Φ[32]? = some Q) (hQ : IsDepth Q) : IsRight (semOf Φ d38) := by
  refine ⟨rfl, rfl, fun t hp => ?_⟩
  obtain ⟨m1, m2, m3⟩ := hN
  obtain ⟨n, sw, so, cu, u1, cn, hp1, n1, n2, l1, l2, l3, w1, w2, w3⟩ := m3 t hp
  have hnet : NetD n sw so cu := ⟨n1, by omega, by omega, by omega, by omega, w1, w2, w3⟩
  let net := netV n sw so cu
  have cN : ∀ rest : SEnv, callV N [.slot 0, .val (.d (.int 6)), .val (.d (.int 8))] (some t :: rest) = some (.d (netV n sw so cu), some u1 :: rest) := fun rest => by
    simp [callV, m1, m2, prepA, getv, cn, putB, dat_d]
  obtain ⟨p1, p2⟩ := repr_ok (rp_net hnet) (by omega) (by omega) rfl
  generalize hsh : PyData.shown (netV n sw so cu) = sh at p1 p2
  have p3 := eq_same p2
  have bn : biV .repr [.d net] = some (.d (.str sh)) := by simp only [biV, dat_d, net, p1, Option.map_some]
  have c4 : ∀ env, callV W [.val (.d net)] env = some (.own (intV (places (swU sw))), env) := fun env => call_d (xs := [net]) hW.1 hW.2.1 (hW.2.2 n sw so cu hnet)
  have c5 : ∀ env, callV F [.val (.d net)] env = some (.own (intV (feeds so)), env) := fun env => call_d (xs := [net]) hF.1 hF.2.1 (hF.2.2 n sw so cu hnet)
  have c8 : ∀ env, callV U [.val (.d net)] env = some (.own ((dueL n sw so).map .d), env) := fun env => call_d (xs := [net]) hU.1 hU.2.1 (hU.2.2 n sw so cu hnet (by omega))
  have hdd : (AV.own ((dueL n sw so).map .d)).dat = .list (dueL n sw so) := by
    show PyData.list (datL ((dueL n sw so).map fun x => AV.d x)) = _
    rw [datL_map (fun x => AV.d x) (fun x => x) fun p => dat_d _, List.map_id']
  let due : PyData := .list (dueL n sw so)
  have rD : Rp2 100 1 due := (rp_list (b := 0) (d := 0) (k := 10) (fun x hx => by
    obtain ⟨b, _, rfl⟩ := List.mem_map.mp hx
    rcases depD_small hnet b with e | ⟨i, e, i0, i1⟩
    · rw [e]; exact rp_none
    · rw [e]; exact rp_int (by omega) (by omega)) (by rw [dueL, List.length_map, barsL_len]; omega)).mono (by omega) (by omega)
  obtain ⟨d1, d2⟩ := repr_ok rD (by omega) (by omega) rfl
  have d3 := ne_same d2
  generalize hsD : PyData.shown due = sD at d1 d2 d3
  have ok0 : okRgs 0 n = true := by
    have hf : fitL (n - 0).toNat = true := by
      unfold fitL LIM
      rw [decide_eq_true_eq]
      omega
    unfold okRgs
    rw [okRg_small (by omega) (by omega), okRg_small (by omega) (by omega), hf]
    rfl
  let ev : PyData := intL (places (swU sw))
  let fe : PyData := intL (feeds so)
  let E0 : AV → Option AV → Option AV → Option AV → Option AV → SEnv := fun u a b c d => [some u, some (.d net), none, none, none, none, a, b, c, d, none, none, none, none, none, none, none, none]
  let G : AV → Slots → SEnv := fun u z => GE u net (.str sh) ev fe due z
  have hI : ∀ u, evI Φ (.bi .range1 (.cons (.ix (.ref 1) (.lit (.int 1))) .nil)) (G u {}) = some ((barsL n).map .int, G u {}, none) := fun u => by
    have h2 : evE Φ (.ix (.ref 1) (.lit (.int 1))) (G u {}) = some (.d (.int n), G u {}) := by simp [evE, opd, G, GE, getv, look, net, net1]
    rw [← rangeL_bars]
    exact evI_r1 h2 (okRg_small (by omega) (by omega))
  obtain ⟨v, f1, hpv⟩ := f_for (sh := .str sh) (du := due) h0 hD h2 hM h7 hR h28 hB hnet (rangeL 0 (4 : Int).toNat) u1 hp1
  obtain ⟨L, Bs, hw, q1, q2⟩ := least_e (Φ := Φ) (Ψ := Φ) hQ hnet v (.str sh) ev fe
  obtain ⟨k1, k2, k3⟩ := hK
  obtain ⟨L', Bs', k4, k5⟩ := k3 n sw so cu hnet
  obtain ⟨rfl, rfl⟩ := weak_uniq k5 hw
  have c35 : ∀ env, callV K [.val (.d net)] env = some (.tup [.d L', .own (intV Bs')], env) := fun env => call_d (xs := [net]) k1 k2 k4
  have rW : Rp2 1000 2 (.tuple [L', intL Bs']) := weak_rp hnet k5 fun b hb => by
    have e := dN_eq (Φ := Φ) hQ hnet (weak_in hnet hb).1
    rcases depD_small hnet b with h | ⟨i, h, i0, i1⟩
    · rw [e] at h; cases h
    · rw [e] at h
      cases h
      exact ⟨i0, i1⟩
  obtain ⟨s1, s2⟩ := repr_ok rW (by omega) (by omega) rfl
  have s3 := eq_same s2
  generalize hsW : PyData.shown (.tuple [L', intL Bs']) = sW at s1 s2 s3
  let z1 : Slots := { so := some (.d (intL (weakB so cu))) }
  let z2 : Slots := { so := some (.d (intL (weakB so cu))), le := some (.d L') }
  refine ⟨v, run_rt (e := G v z2) rfl ?_ (by simp [d38, G, GE, getv]), hpv⟩
  show exS Φ b38 [some t, none, none, none, none, none, none, none, none, none, none, none, none, none, none, none, none, none] = _
  unfold b38
  refine (seq_nx (e1 := E0 u1 none none none none) (by simp [exS, evE, evL, opd, look, getv, h3, cN, asgT, E0, net])).trans ((seq_nx (e1 := E0 u1 (some (.d (.str sh))) (some (.d ev)) none none) ?_).trans ((seq_nx (e1 := G u1 {}) ?_).trans ((seq_nx (e1 := G u1 {}) (ife_skip ?_)).trans ((seq_nx (e1 := G u1 {}) ?_).trans ((seq_nx (e1 := G v {}) ?_).trans ((seq_nx (e1 := G v { so := some (.d (intL (((tolds cu).filter fun p => !decide (p.1 ∈ feeds so)).map (·.1)))) }) ?_).trans ((seq_nx (e1 := G v z1) ?_).trans ((seq_nx (e1 := G v z2) ?_).trans (seq_rt (ret_e ?_))))))))))
  · simp [exS, evE, evL, opd, look, getv, E0, h4, c4, bn, dat_d, dat_intV, ev]
  · simp [exS, evE, evL, evA, opd, look, getv, E0, G, GE, h5, h8, c5, c8, dat_d, hdd, dat_intV, fitL, LIM, mkTup, leafs, asgT, asgT.asgTs, fe, due]
  · have hlc := ev_lcenc PyData.int (Φ := Φ) (own := [2]) (tg := .ref 2) (cond := .nil) (elt := .call 33 (.cons (.var 1) (.cons (.var 2) .nil))) (fun b => some (.d (depD sw so b))) (l := barsL n) (hI u1) (by rw [barsL_len]; omega) rfl fun b hb => by
      refine turn_ref (by simp [G, GE]) rfl ?_
      have hb := mem_barsL.mp hb
      exact ev_call2 h33 (opd_var (x := net) rfl) (opd_var (x := .int b) rfl) (call_d (xs := [net, .int b]) hS.1 hS.2.1 (hS.2.2 n sw so cu b hnet hb.1 hb.2))
    rw [fmap_some] at hlc
    have hd : (AV.own ((barsL n).map fun b => AV.d (depD sw so b))).dat = due := by
      rw [AV.dat, datL_map _ (fun b => depD sw so b) fun p => dat_d _]
      rfl
    have b1 : biV .repr [.own ((barsL n).map fun b => AV.d (depD sw so b))] = some (.d (.str sD)) := by simp only [biV, hd, d1, Option.map_some]
    have b2 : biV .repr [.d due] = some (.d (.str sD)) := by simp only [biV, dat_d, d1, Option.map_some]
    have r1 := ev_bi1 (fun i h => by cases h) hlc b1
    have r2 : evE Φ (.bi .repr (.cons (.ref 9) .nil)) (G u1 {}) = some (.d (.str sD), G u1 {}) := by
      simp [evE, evL, opd, look, getv, G, GE, b2]
    rw [evT, opd_e (fun i h => by cases h) r1]
    simp only [Option.bind_eq_bind, Option.bind_some]
    rw [opd_e (fun i h => by cases h) r2]
    simp only [Option.bind_eq_bind, Option.bind_some, look, d3]
  · exact for_same (Φ := Φ) (tg := .ref 2) (b := eB) (hI u1) rfl fun x hx => by
      obtain ⟨b, hb, rfl⟩ := List.mem_map.mp hx
      have hb := mem_barsL.mp hb
      exact e_turn h33 hS h37 hH hnet hb.1 hb.2
  · have hI4 : evI Φ (.bi .range1 (.cons (.lit (.int 4)) .nil)) (G u1 {}) = some (rangeL 0 (4 : Int).toNat, G u1 {}, none) := evI_r1 (by simp [evE]) (okRg_small (by omega) (by omega))
    show exS Φ (.forr (.ref 3) (.bi .range1 (.cons (.lit (.int 4)) .nil)) fB2) (G u1 {}) = _
    rw [exS, hI4]
    simp only [heldOk, Option.bind_eq_bind, Option.bind_some, if_true]
    simp only [Option.bind_eq_bind] at f1
    rw [show G u1 {} = GE u1 (netV n sw so cu) (.str sh) (intL (places (swU sw))) (intL (feeds so)) due {} from rfl, f1]
    rfl
  · have h := asg_e (i := 4) (frz_e (some_e (Φ := Φ) (Ψ := Φ) hQ hnet (u := v) (sh := .str sh) (ev := ev) (fe := fe))) (by simp [GE])
    rw [dat_intV] at h
    exact h
  · have hb := sset_ints (l := ((tolds cu).filter fun p => !decide (p.1 ∈ feeds so)).map (·.1)) (by rw [List.length_map]; exact Nat.le_trans (List.length_filter_le _ _) (by have := tolds_len hnet; omega))
    have hb' : biV .sset [.d (intL (((tolds cu).filter fun p => !decide (p.1 ∈ feeds so)).map (·.1)))] = some (.own (intV (weakB so cu))) := by
      simp only [biV, AV.seq?, leafs_intV, Option.bind_some, intL] at hb ⊢
      exact hb
    simp [exS, evE, evL, opd, look, getv, G, GE, hb', dat_intV, asgT, z1]
  · have h := asg_e (i := 5) q1 (by simp [GE])
    exact h
  · have b1 : biV .repr [.tup [.d L', .own (intV Bs')]] = some (.d (.str sW)) := by
      have : (AV.tup [.d L', .own (intV Bs')]).dat = .tuple [L', intL Bs'] := by simp [AV.dat, datL, intL, datL_map, intV]
      simp only [biV, this, s1, Option.map_some]
    have b2 : biV .repr [.d (.tuple [L', intL Bs'])] = some (.d (.str sW)) := by simp only [biV, dat_d, s1, Option.map_some]
    have r1 : evE Φ (.bi .repr (.cons (.call 35 (.cons (.var 1) .nil)) .nil)) (G v z2) = some (.d (.str sW), G v z2) :=
      ev_bi1 (fun i h => by cases h) (ev_call1 h35 (opd_var (x := net) rfl) (c35 _)) b1
    have f0 := frz_e q2
    rw [dat_intV] at f0
    have r2 : evE Φ (.tup (.cons (.var 5) (.cons (.frz lcF) .nil))) (G v z2) = some (.d (.tuple [L', intL Bs']), G v z2) := by
      have e5 : evE Φ (.var 5) (G v z2) = some (.d L', G v z2) := ev_var rfl
      rw [evE, evA, e5]
      simp only [Option.bind_eq_bind, Option.bind_some]
      rw [evA, show evE Φ (.frz lcF) (G v z2) = some (.d (intL Bs'), G v z2) from f0]
      simp only [Option.bind_eq_bind, Option.bind_some]
      rw [evA]
      simp [fitL, LIM, mkTup, leafs]
    have r3 := ev_bi1 (fun i h => by cases h) r2 b2
    have t1 : evE Φ (.cmp .Eq (.bi .repr (.cons (.call 35 (.cons (.var 1) .nil)) .nil)) (.bi .repr (.cons (.tup (.cons (.var 5) (.cons (.frz lcF) .nil))) .nil))) (G v z2) = some (.d (.bool true), G v z2) := by
      rw [evE, opd_e (fun i h => by cases h) r1]
      simp only [Option.bind_eq_bind, Option.bind_some]
      rw [opd_e (fun i h => by cases h) r3]
      simp only [Option.bind_eq_bind, Option.bind_some, look, s3]
    have t2 : evE Φ (.cmp .Eq (.bi .repr (.cons (.ref 1) .nil)) (.ref 6)) (G v z2) = some (.d (.bool true), G v z2) := by
      simp [evE, evL, opd, look, getv, G, GE, z2, bn, p3]
    show evE Φ (.and (.cmp .Eq (.bi .repr (.cons (.call 35 (.cons (.var 1) .nil)) .nil)) (.bi .repr (.cons (.tup (.cons (.var 5) (.cons (.frz lcF) .nil))) .nil))) (.cmp .Eq (.bi .repr (.cons (.ref 1) .nil)) (.ref 6))) (G v z2) = _
    rw [evE, t1]
    simp [t2]
end K22
namespace K22
open PySem L2 Mi

def IsPotOf (G : FnS) : Prop := G.n = 2 ∧ G.io = [] ∧ ∀ (zs : List Int) (k : Int), 0 ≤ k → k ≤ 1 → zs.length ≤ 63 → ∃ t, G.sem [.d (.list (zs.map .int)), .d (.int k)] = some (t, []) ∧ Pot t
theorem pot_ok (Φ : Phi) : IsPotOf (semOf Φ d39) := by
  refine ⟨rfl, rfl, fun zs k hk0 hk1 hz => ?_⟩
  have hpow : binV .Pow (.d (.int 10)) (.d (.int 18)) = some (.d (.int 1000000000000000000)) := by simp [binV]
  have hlen : biV .len [.d (.list (zs.map .int))] = some (.d (.int zs.length)) := by simp [biV]
  -- the cell
  have key : ∀ c : Int, 0 ≤ c → ∃ t, exS Φ (.seq (.ret (.lst (.cons (.bi .max2 (.cons (.lit (.int 0)) (.cons (.bin .Sub (.ref 2) (.bin .Pow (.lit (.int 10)) (.lit (.int 18)))) .nil))) (.cons (.bin .Add (.bin .Mod (.bi .int (.cons (.bin .Add (.bin .Add (.bin .Mult (.bin .Mod (.bi .int (.cons (.ref 2) .nil)) (.lit (.int 2147483549))) (.lit (.int 40014))) (.bin .Mult (.lit (.int 7919)) (.ref 1))) (.lit (.int 61))) .nil)) (.lit (.int 2147483563))) (.lit (.int 1))) .nil)))) .skip) [some (.d (.list (zs.map .int))), some (.d (.int k)), some (.d (.int c))] = some (.rt t, [some (.d (.list (zs.map .int))), some (.d (.int k)), some (.d (.int c))]) ∧ Pot t := by
    intro c hc
    let a : Int := if 0 < c - 1000000000000000000 then c - 1000000000000000000 else 0
    let b : Int := (c % 2147483549 * 40014 + 7919 * k + 61) % 2147483563 + 1
    refine ⟨.own [.d (.int a), .d (.int b)], ?_, a, b, rfl, ?_, ?_, ?_⟩
    · refine seq_rt ?_
      have m1 : okMul (c % 2147483549) 40014 = true := by
        unfold okMul
        simp
      have m2 : okMul 7919 k = true := by
        unfold okMul
        simp
      have hs : binV .Sub (.d (.int c)) (.d (.int 1000000000000000000)) = some (.d (.int (c - 1000000000000000000))) := rfl
      simp [exS, evE, evL, evA, opd, look, getv, hpow, hs, biV, m1, m2, fitL, LIM, a, b, binV]
    · show 0 ≤ (if 0 < c - 1000000000000000000 then c - 1000000000000000000 else 0)
      split <;> omega
    · show 0 ≤ (c % 2147483549 * 40014 + 7919 * k + 61) % 2147483563 + 1
      have := Int.emod_nonneg (c % 2147483549 * 40014 + 7919 * k + 61) (show (2147483563 : Int) ≠ 0 by decide)
      omega
    · show (c % 2147483549 * 40014 + 7919 * k + 61) % 2147483563 + 1 < 2 ^ 64
      have := Int.emod_lt_of_pos (c % 2147483549 * 40014 + 7919 * k + 61) (show (0 : Int) < 2147483563 by decide)
      omega
  have m0 : okMul 271 k = true := by
    unfold okMul
    simp
  by_cases h : k < (zs.length : Int)
  · obtain ⟨z, hz2⟩ : ∃ z, zs[k.toNat]? = some z := ⟨zs[k.toNat]'(by omega), List.getElem?_eq_getElem (by omega)⟩
    have hat : atI (zs.map PyData.int) k = some (.int z) := by
      have := atI_nat (zs.map PyData.int) k.toNat (by rw [List.length_map]; omega)
      rw [show ((k.toNat : Nat) : Int) = k by omega] at this
      rw [this, List.getElem?_map, hz2]
      rfl
    obtain ⟨t, h1, h2⟩ := key (if z < 0 then -z else z) (by split <;> omega)
    refine ⟨t, run_rt (e := [some (.d (.list (zs.map .int))), some (.d (.int k)), some (.d (.int (if z < 0 then -z else z)))]) rfl ?_ rfl, h2⟩
    show exS Φ b39 [some (.d (.list (zs.map .int))), some (.d (.int k)), none] = _
    refine (seq_nx (e1 := [some (.d (.list (zs.map .int))), some (.d (.int k)), some (.d (.int (271 * k + 7919)))]) ?_).trans ?_
    · simp [exS, evE, opd, look, getv, binV, m0, asgT]
    refine (seq_nx (e1 := [some (.d (.list (zs.map .int))), some (.d (.int k)), some (.d (.int (if z < 0 then -z else z)))]) ?_).trans h1
    have ix1 : ixV (.d (.list (zs.map .int))) (.d (.int k)) = some (.d (.int z)) := by simp [ixV, hat]
    have ct : cmpV .Lt (.d (.int k)) (.d (.int (zs.length : Int))) = some true := by
      simp [cmpV, intCmp, h]
    rw [ife_t (e1 := [some (.d (.list (zs.map .int))), some (.d (.int k)), some (.d (.int (271 * k + 7919)))]) (by simp [evT, evE, evL, opd, look, getv, hlen, ct])]
    refine (seq_nx (e1 := [some (.d (.list (zs.map .int))), some (.d (.int k)), some (.d (.int (if z < 0 then -z else z)))]) ?_).trans (by simp [exS])
    simp [exS, evE, evL, opd, look, getv, ix1, biV, asgT]
  · obtain ⟨t, h1, h2⟩ := key (271 * k + 7919) (by omega)
    refine ⟨t, run_rt (e := [some (.d (.list (zs.map .int))), some (.d (.int k)), some (.d (.int (271 * k + 7919)))]) rfl ?_ rfl, h2⟩
    show exS Φ b39 [some (.d (.list (zs.map .int))), some (.d (.int k)), none] = _
    refine (seq_nx (e1 := [some (.d (.list (zs.map .int))), some (.d (.int k)), some (.d (.int (271 * k + 7919)))]) ?_).trans ?_
    · simp [exS, evE, opd, look, getv, binV, m0, asgT]
    have ct : cmpV .Lt (.d (.int k)) (.d (.int (zs.length : Int))) = some false := by
      simp [cmpV, intCmp, h]
      try omega
    refine (seq_nx (e1 := [some (.d (.list (zs.map .int))), some (.d (.int k)), some (.d (.int (271 * k + 7919)))]) (ife_skip ?_)).trans h1
    simp [evT, evE, evL, opd, look, getv, hlen, ct]
def IsLaw (G : FnS) : Prop := ∀ zs : List Int, zs.length ≤ 63 → G.sem [.d (.list (zs.map .int))] = some (.d (.bool true), [])
theorem law_ok (Φ : Phi) {R P : FnS} (h38 : Φ[38]? = some R) (hR : IsRight R) (h39 : Φ[39]? = some P) (hP : IsPotOf P) : IsLaw (semOf Φ d40) := by
  obtain ⟨r1, r2, r3⟩ := hR
  obtain ⟨p1, p2, p3⟩ := hP
  intro zs hz
  let e0 : SEnv := [some (.d (.list (zs.map .int))), none]
  refine run_rt (e := e0) rfl ?_ rfl
  show exS Φ b40 e0 = _
  refine seq_rt ?_
  have hlen : biV .len [.d (.list (zs.map .int))] = some (.d (.int zs.length)) := by simp [biV]
  obtain ⟨m, hm, hm1, hm2⟩ : ∃ m : Int, biV .max2 [.d (.int 1), .d (.int (if (zs.length : Int) < 2 then (zs.length : Int) else 2))] = some (.d (.int m)) ∧ 1 ≤ m ∧ m ≤ 2 := by
    refine ⟨if 1 < (if (zs.length : Int) < 2 then (zs.length : Int) else 2) then (if (zs.length : Int) < 2 then (zs.length : Int) else 2) else 1, by simp [biV], ?_, ?_⟩
    · split <;> omega
    · split <;> (try split) <;> omega
  have hmin : biV .min2 [.d (.int 2), .d (.int (zs.length : Int))] = some (.d (.int (if (zs.length : Int) < 2 then (zs.length : Int) else 2))) := by simp [biV]
  have hI : evI Φ (.bi .range1 (.cons (.bi .max2 (.cons (.lit (.int 1)) (.cons (.bi .min2 (.cons (.lit (.int 2)) (.cons (.bi .len (.cons (.ref 0) .nil)) .nil))) .nil))) .nil)) e0 = some (rangeL 0 m.toNat, e0, none) := by
    refine evI_r1 ?_ (okRg_small (by omega) (by omega))
    simp [evE, evL, opd, look, getv, e0, hlen, hmin, hm]
  rw [exS, ev_all hI (by rw [rangeL_len]; omega) rfl fun x hx => ?_]
  · rfl
  · obtain ⟨k, rfl, hk1, hk2⟩ := mem_rangeL hx
    obtain ⟨t, ht, hp⟩ := p3 zs k hk1 (by omega) hz
    obtain ⟨u, hu⟩ := r3 t hp
    have cP : ∀ env : SEnv, callV P [.val (.d (.list (zs.map .int))), .val (.d (.int k))] env = some (t, env) := fun env => call_d (xs := [.list (zs.map .int), .int k]) p1 p2 ht
    have cR : ∀ env : SEnv, callV R [.val t] env = some (.d (.bool true), env) := fun env => by
      simp [callV, r1, r2, prepA, hu, putB]
    refine turn_ref (by simp [e0]) rfl ?_
    have c2 := ev_call2 (Φ := Φ) (a := .var 0) (b := .var 1) (env := e0.set 1 (some (.d (.int k)))) h39 (opd_var rfl) (opd_var rfl) (cP _)
    exact ev_call1 h38 (opd_e (fun i h => by cases h) c2) (cR _)
end K22
namespace K22
open PySem L2 Mi

theorem law_pure (zs : List Int) (hz : zs.length ≤ 63) : runF Psi rL.d [.d (.list (zs.map .int))] = some (.d (.bool true), []) := by
  obtain ⟨G0, a0, p0⟩ := have_ (i := 0) IsDraw rfl fun Φ h => draw_ok Φ
  obtain ⟨G1, a1, p1⟩ := have_ (i := 1) IsPick rfl fun Φ h => pick_ok Φ ((h 0 (by decide)).trans a0) p0
  obtain ⟨G2, a2, p2⟩ := have_ (i := 2) IsMixed rfl fun Φ h => mixed_ok Φ ((h 0 (by decide)).trans a0) p0
  obtain ⟨G3, a3, p3⟩ := have_ (i := 3) IsNet rfl fun Φ h => net_ok Φ ((h 0 (by decide)).trans a0) p0 ((h 1 (by decide)).trans a1) p1 ((h 2 (by decide)).trans a2) p2
  obtain ⟨G4, a4, p4⟩ := have_ (i := 4) IsSws rfl fun Φ h => sws_ok Φ
  obtain ⟨G5, a5, p5⟩ := have_ (i := 5) IsFeeds rfl fun Φ h => feeds_ok Φ
  obtain ⟨G6, a6, p6⟩ := have_ (i := 6) IsLots rfl fun Φ h => lots_ok Φ
  obtain ⟨G7, a7, p7⟩ := have_ (i := 7) IsReach rfl fun Φ h => reach_ok Φ
  obtain ⟨G8, a8, p8⟩ := have_ (i := 8) IsDepths rfl fun Φ h => depths_ok Φ ((h 6 (by decide)).trans a6) p6 ((h 4 (by decide)).trans a4) p4 ((h 5 (by decide)).trans a5) p5 ((h 7 (by decide)).trans a7) p7
  obtain ⟨G9, a9, p9⟩ := have_ (i := 9) IsInteger rfl fun Φ h => integer_ok Φ
  obtain ⟨G10, a10, p10⟩ := have_ (i := 10) IsWithin rfl fun Φ h => within_ok Φ ((h 9 (by decide)).trans a9) p9
  obtain ⟨G11, a11, p11⟩ := have_ (i := 11) IsWord rfl fun Φ h => word_ok Φ
  obtain ⟨G12, a12, p12⟩ := have_ (i := 12) IsPart rfl fun Φ h => part_ok Φ
  obtain ⟨G13, a13, p13⟩ := have_ (i := 13) IsBound rfl fun Φ h => bound_ok Φ ((h 10 (by decide)).trans a10) p10
  obtain ⟨G14, a14, p14⟩ := have_ (i := 14) IsSw rfl fun Φ h => sw_ok Φ ((h 10 (by decide)).trans a10) p10 ((h 11 (by decide)).trans a11) p11 ((h 13 (by decide)).trans a13) p13
  obtain ⟨G15, a15, p15⟩ := have_ (i := 15) IsSrc rfl fun Φ h => src_ok Φ ((h 10 (by decide)).trans a10) p10 ((h 11 (by decide)).trans a11) p11
  obtain ⟨G16, a16, p16⟩ := have_ (i := 16) IsCust rfl fun Φ h => cust_ok Φ ((h 10 (by decide)).trans a10) p10
  obtain ⟨G17, a17, p17⟩ := have_ (i := 17) IsFlaw rfl fun Φ h => flaw_ok Φ ((h 10 (by decide)).trans a10) p10 ((h 11 (by decide)).trans a11) p11 ((h 12 (by decide)).trans a12) p12 ((h 14 (by decide)).trans a14) p14 ((h 15 (by decide)).trans a15) p15 ((h 16 (by decide)).trans a16) p16
  obtain ⟨G18, a18, p18⟩ := have_ (i := 18) IsChkNet rfl fun Φ h => chknet_ok Φ ((h 17 (by decide)).trans a17) p17
  obtain ⟨G19, a19, p19⟩ := have_ (i := 19) IsList rfl fun Φ h => list_ok Φ
  obtain ⟨G20, a20, p20⟩ := have_ (i := 20) IsCount rfl fun Φ h => count_ok Φ ((h 9 (by decide)).trans a9) p9
  obtain ⟨G21, a21, p21⟩ := have_ (i := 21) IsAre rfl fun Φ h => are_ok Φ ((h 19 (by decide)).trans a19) p19 ((h 20 (by decide)).trans a20) p20
  obtain ⟨G22, a22, p22⟩ := have_ (i := 22) IsChkLost rfl fun Φ h => chklost_ok Φ ((h 21 (by decide)).trans a21) p21
  obtain ⟨G23, a23, p23⟩ := have_ (i := 23) IsJoin rfl fun Φ h => join_ok Φ
  obtain ⟨G24, a24, p24⟩ := have_ (i := 24) IsUsable rfl fun Φ h => usable_ok Φ
  obtain ⟨G25, a25, p25⟩ := have_ (i := 25) IsTable rfl fun Φ h => table_ok Φ ((h 24 (by decide)).trans a24) p24
  obtain ⟨G26, a26, p26⟩ := have_ (i := 26) IsFeedBars rfl fun Φ h => feedbars_ok Φ
  obtain ⟨G27, a27, p27⟩ := have_ (i := 27) IsReachB rfl fun Φ h => reachb_ok Φ ((h 25 (by decide)).trans a25) p25 ((h 23 (by decide)).trans a23) p23 ((h 26 (by decide)).trans a26) p26
  obtain ⟨G28, a28, p28⟩ := have_ (i := 28) IsBehind rfl fun Φ h => behind_ok Φ ((h 18 (by decide)).trans a18) p18 ((h 22 (by decide)).trans a22) p22 ((h 27 (by decide)).trans a27) p27
  obtain ⟨G29, a29, p29⟩ := have_ (i := 29) IsChkBar rfl fun Φ h => chkbar_ok Φ ((h 10 (by decide)).trans a10) p10
  obtain ⟨G30, a30, p30⟩ := have_ (i := 30) IsCan rfl fun Φ h => can_ok Φ
  obtain ⟨G31, a31, p31⟩ := have_ (i := 31) IsFurther rfl fun Φ h => further_ok Φ ((h 26 (by decide)).trans a26) p26 ((h 30 (by decide)).trans a30) p30
  obtain ⟨G32, a32, p32⟩ := have_ (i := 32) IsDepth rfl fun Φ h => depth_ok Φ ((h 26 (by decide)).trans a26) p26 ((h 31 (by decide)).trans a31) p31 ((h 25 (by decide)).trans a25) p25
  obtain ⟨G33, a33, p33⟩ := have_ (i := 33) IsSupply rfl fun Φ h => supply_ok Φ ((h 18 (by decide)).trans a18) p18 ((h 29 (by decide)).trans a29) p29 ((h 32 (by decide)).trans a32) p32
  obtain ⟨G34, a34, p34⟩ := have_ (i := 34) IsTold rfl fun Φ h => told_ok Φ
  obtain ⟨G35, a35, p35⟩ := have_ (i := 35) IsWeak rfl fun Φ h => weak_ok Φ ((h 18 (by decide)).trans a18) p18 ((h 34 (by decide)).trans a34) p34 ((h 26 (by decide)).trans a26) p26 ((h 32 (by decide)).trans a32) p32
  obtain ⟨G36, a36, p36⟩ := have_ (i := 36) IsDeep rfl fun Φ h => deep_ok Φ
  obtain ⟨G37, a37, p37⟩ := have_ (i := 37) IsHolds rfl fun Φ h => holds_ok Φ ((h 18 (by decide)).trans a18) p18 ((h 29 (by decide)).trans a29) p29 ((h 20 (by decide)).trans a20) p20 ((h 32 (by decide)).trans a32) p32 ((h 36 (by decide)).trans a36) p36
  obtain ⟨G38, a38, p38⟩ := have_ (i := 38) IsRight rfl fun Φ h => right_ok Φ ((h 0 (by decide)).trans a0) p0 ((h 2 (by decide)).trans a2) p2 ((h 3 (by decide)).trans a3) p3 ((h 4 (by decide)).trans a4) p4 ((h 5 (by decide)).trans a5) p5 ((h 8 (by decide)).trans a8) p8 ((h 33 (by decide)).trans a33) p33 ((h 37 (by decide)).trans a37) p37 ((h 7 (by decide)).trans a7) p7 ((h 28 (by decide)).trans a28) p28 ((h 35 (by decide)).trans a35) p35 ((h 32 (by decide)).trans a32) p32
  obtain ⟨G39, a39, p39⟩ := have_ (i := 39) IsPotOf rfl fun Φ h => pot_ok Φ
  exact law_ok Psi a38 p38 a39 p39 zs hz
end K22
namespace K22
open PySem PySem.Spec PyProof.Rows L2 Mi
theorem bind0 : RowBind r0 where
  pos := fun _ _ _ _ _ _ us hl => match us, hl with
    | [_, _], _ => rfl
  kws := fun q hq => absurd hq (List.not_mem_nil (a := q))
theorem bind1 : RowBind r1 where
  pos := fun _ _ _ _ _ _ us hl => match us, hl with
    | [_, _], _ => rfl
  kws := fun q hq => absurd hq (List.not_mem_nil (a := q))
theorem bind2 : RowBind r2 where
  pos := fun _ _ _ _ _ _ us hl => match us, hl with
    | [_, _], _ => rfl
  kws := fun q hq => absurd hq (List.not_mem_nil (a := q))
theorem bind3 : RowBind r3 where
  pos := fun _ _ _ _ _ _ us hl => match us, hl with
    | [_, _, _], _ => rfl
  kws := fun q hq => absurd hq (List.not_mem_nil (a := q))
theorem bind4 : RowBind r4 where
  pos := fun _ _ _ _ _ _ us hl => match us, hl with
    | [_], _ => rfl
  kws := fun q hq => absurd hq (List.not_mem_nil (a := q))
theorem bind5 : RowBind r5 where
  pos := fun _ _ _ _ _ _ us hl => match us, hl with
    | [_], _ => rfl
  kws := fun q hq => absurd hq (List.not_mem_nil (a := q))
theorem bind6 : RowBind r6 where
  pos := fun _ _ _ _ _ _ us hl => match us, hl with
    | [_], _ => rfl
  kws := fun q hq => absurd hq (List.not_mem_nil (a := q))
theorem bind7 : RowBind r7 where
  pos := fun _ _ _ _ _ _ us hl => match us, hl with
    | [_, _, _, _], _ => rfl
  kws := fun q hq => absurd hq (List.not_mem_nil (a := q))
theorem bind8 : RowBind r8 where
  pos := fun _ _ _ _ _ _ us hl => match us, hl with
    | [_], _ => rfl
  kws := fun q hq => absurd hq (List.not_mem_nil (a := q))
theorem bind9 : RowBind r9 where
  pos := fun _ _ _ _ _ _ us hl => match us, hl with
    | [_], _ => rfl
  kws := fun q hq => absurd hq (List.not_mem_nil (a := q))
theorem bind10 : RowBind r10 where
  pos := fun _ _ _ _ _ _ us hl => match us, hl with
    | [_, _, _], _ => rfl
  kws := fun q hq => absurd hq (List.not_mem_nil (a := q))
theorem bind11 : RowBind r11 where
  pos := fun _ _ _ _ _ _ us hl => match us, hl with
    | [_, _], _ => rfl
  kws := fun q hq => absurd hq (List.not_mem_nil (a := q))
theorem bind12 : RowBind r12 where
  pos := fun _ _ _ _ _ _ us hl => match us, hl with
    | [_, _], _ => rfl
  kws := fun q hq => absurd hq (List.not_mem_nil (a := q))
theorem bind13 : RowBind r13 where
  pos := fun _ _ _ _ _ _ us hl => match us, hl with
    | [_], _ => rfl
  kws := fun q hq => absurd hq (List.not_mem_nil (a := q))
theorem bind14 : RowBind r14 where
  pos := fun _ _ _ _ _ _ us hl => match us, hl with
    | [_, _], _ => rfl
  kws := fun q hq => absurd hq (List.not_mem_nil (a := q))
theorem bind15 : RowBind r15 where
  pos := fun _ _ _ _ _ _ us hl => match us, hl with
    | [_, _], _ => rfl
  kws := fun q hq => absurd hq (List.not_mem_nil (a := q))
theorem bind16 : RowBind r16 where
  pos := fun _ _ _ _ _ _ us hl => match us, hl with
    | [_, _], _ => rfl
  kws := fun q hq => absurd hq (List.not_mem_nil (a := q))
theorem bind17 : RowBind r17 where
  pos := fun _ _ _ _ _ _ us hl => match us, hl with
    | [_], _ => rfl
  kws := fun q hq => absurd hq (List.not_mem_nil (a := q))
theorem bind18 : RowBind r18 where
  pos := fun _ _ _ _ _ _ us hl => match us, hl with
    | [_], _ => rfl
  kws := fun q hq => absurd hq (List.not_mem_nil (a := q))
theorem bind19 : RowBind r19 where
  pos := fun _ _ _ _ _ _ us hl => match us, hl with
    | [_], _ => rfl
  kws := fun q hq => absurd hq (List.not_mem_nil (a := q))
theorem bind20 : RowBind r20 where
  pos := fun _ _ _ _ _ _ us hl => match us, hl with
    | [_], _ => rfl
  kws := fun q hq => absurd hq (List.not_mem_nil (a := q))
theorem bind21 : RowBind r21 where
  pos := fun _ _ _ _ _ _ us hl => match us, hl with
    | [_, _], _ => rfl
  kws := fun q hq => absurd hq (List.not_mem_nil (a := q))
theorem bind22 : RowBind r22 where
  pos := fun _ _ _ _ _ _ us hl => match us, hl with
    | [_, _], _ => rfl
  kws := fun q hq => absurd hq (List.not_mem_nil (a := q))
theorem bind23 : RowBind r23 where
  pos := fun _ _ _ _ _ _ us hl => match us, hl with
    | [_, _], _ => rfl
  kws := fun q hq => absurd hq (List.not_mem_nil (a := q))
theorem bind24 : RowBind r24 where
  pos := fun _ _ _ _ _ _ us hl => match us, hl with
    | [_], _ => rfl
  kws := fun q hq => absurd hq (List.not_mem_nil (a := q))
theorem bind25 : RowBind r25 where
  pos := fun _ _ _ _ _ _ us hl => match us, hl with
    | [_, _], _ => rfl
  kws := fun q hq => absurd hq (List.not_mem_nil (a := q))
theorem bind26 : RowBind r26 where
  pos := fun _ _ _ _ _ _ us hl => match us, hl with
    | [_], _ => rfl
  kws := fun q hq => absurd hq (List.not_mem_nil (a := q))
theorem bind27 : RowBind r27 where
  pos := fun _ _ _ _ _ _ us hl => match us, hl with
    | [_, _], _ => rfl
  kws := fun q hq => absurd hq (List.not_mem_nil (a := q))
theorem bind28 : RowBind r28 where
  pos := fun _ _ _ _ _ _ us hl => match us, hl with
    | [_, _], _ => rfl
  kws := fun q hq _ _ _ _ _ _ ws hl => by
    have e := List.mem_singleton.mp hq
    subst e
    exact match ws, hl with
      | [_, _], _ => rfl
theorem bind29 : RowBind r29 where
  pos := fun _ _ _ _ _ _ us hl => match us, hl with
    | [_, _], _ => rfl
  kws := fun q hq => absurd hq (List.not_mem_nil (a := q))
theorem bind30 : RowBind r30 where
  pos := fun _ _ _ _ _ _ us hl => match us, hl with
    | [_, _, _, _], _ => rfl
  kws := fun q hq => absurd hq (List.not_mem_nil (a := q))
theorem bind31 : RowBind r31 where
  pos := fun _ _ _ _ _ _ us hl => match us, hl with
    | [_, _, _, _], _ => rfl
  kws := fun q hq => absurd hq (List.not_mem_nil (a := q))
theorem bind32 : RowBind r32 where
  pos := fun _ _ _ _ _ _ us hl => match us, hl with
    | [_, _], _ => rfl
  kws := fun q hq => absurd hq (List.not_mem_nil (a := q))
theorem bind33 : RowBind r33 where
  pos := fun _ _ _ _ _ _ us hl => match us, hl with
    | [_, _], _ => rfl
  kws := fun q hq _ _ _ _ _ _ ws hl => by
    have e := List.mem_singleton.mp hq
    subst e
    exact match ws, hl with
      | [_, _], _ => rfl
theorem bind34 : RowBind r34 where
  pos := fun _ _ _ _ _ _ us hl => match us, hl with
    | [_], _ => rfl
  kws := fun q hq => absurd hq (List.not_mem_nil (a := q))
theorem bind35 : RowBind r35 where
  pos := fun _ _ _ _ _ _ us hl => match us, hl with
    | [_], _ => rfl
  kws := fun q hq => absurd hq (List.not_mem_nil (a := q))
theorem bind36 : RowBind r36 where
  pos := fun _ _ _ _ _ _ us hl => match us, hl with
    | [_, _], _ => rfl
  kws := fun q hq => absurd hq (List.not_mem_nil (a := q))
theorem bind37 : RowBind r37 where
  pos := fun _ _ _ _ _ _ us hl => match us, hl with
    | [_, _, _], _ => rfl
  kws := fun q hq => absurd hq (List.not_mem_nil (a := q))
theorem bind38 : RowBind r38 where
  pos := fun _ _ _ _ _ _ us hl => match us, hl with
    | [_], _ => rfl
  kws := fun q hq => absurd hq (List.not_mem_nil (a := q))
theorem bind39 : RowBind r39 where
  pos := fun _ _ _ _ _ _ us hl => match us, hl with
    | [_, _], _ => rfl
  kws := fun q hq => absurd hq (List.not_mem_nil (a := q))
theorem bind40 : RowBind r40 where
  pos := fun _ _ _ _ _ _ us hl => match us, hl with
    | [_], _ => rfl
  kws := fun q hq => absurd hq (List.not_mem_nil (a := q))
theorem binds : ∀ t ∈ rows ++ [rL], RowBind t := by
  intro t ht
  rcases List.mem_append.mp ht with ht | ht
  · unfold rows at ht
    rcases List.mem_cons.mp ht with e | ht
    · rw [e]; exact bind0
    rcases List.mem_cons.mp ht with e | ht
    · rw [e]; exact bind1
    rcases List.mem_cons.mp ht with e | ht
    · rw [e]; exact bind2
    rcases List.mem_cons.mp ht with e | ht
    · rw [e]; exact bind3
    rcases List.mem_cons.mp ht with e | ht
    · rw [e]; exact bind4
    rcases List.mem_cons.mp ht with e | ht
    · rw [e]; exact bind5
    rcases List.mem_cons.mp ht with e | ht
    · rw [e]; exact bind6
    rcases List.mem_cons.mp ht with e | ht
    · rw [e]; exact bind7
    rcases List.mem_cons.mp ht with e | ht
    · rw [e]; exact bind8
    rcases List.mem_cons.mp ht with e | ht
    · rw [e]; exact bind9
    rcases List.mem_cons.mp ht with e | ht
    · rw [e]; exact bind10
    rcases List.mem_cons.mp ht with e | ht
    · rw [e]; exact bind11
    rcases List.mem_cons.mp ht with e | ht
    · rw [e]; exact bind12
    rcases List.mem_cons.mp ht with e | ht
    · rw [e]; exact bind13
    rcases List.mem_cons.mp ht with e | ht
    · rw [e]; exact bind14
    rcases List.mem_cons.mp ht with e | ht
    · rw [e]; exact bind15
    rcases List.mem_cons.mp ht with e | ht
    · rw [e]; exact bind16
    rcases List.mem_cons.mp ht with e | ht
    · rw [e]; exact bind17
    rcases List.mem_cons.mp ht with e | ht
    · rw [e]; exact bind18
    rcases List.mem_cons.mp ht with e | ht
    · rw [e]; exact bind19
    rcases List.mem_cons.mp ht with e | ht
    · rw [e]; exact bind20
    rcases List.mem_cons.mp ht with e | ht
    · rw [e]; exact bind21
    rcases List.mem_cons.mp ht with e | ht
    · rw [e]; exact bind22
    rcases List.mem_cons.mp ht with e | ht
    · rw [e]; exact bind23
    rcases List.mem_cons.mp ht with e | ht
    · rw [e]; exact bind24
    rcases List.mem_cons.mp ht with e | ht
    · rw [e]; exact bind25
    rcases List.mem_cons.mp ht with e | ht
    · rw [e]; exact bind26
    rcases List.mem_cons.mp ht with e | ht
    · rw [e]; exact bind27
    rcases List.mem_cons.mp ht with e | ht
    · rw [e]; exact bind28
    rcases List.mem_cons.mp ht with e | ht
    · rw [e]; exact bind29
    rcases List.mem_cons.mp ht with e | ht
    · rw [e]; exact bind30
    rcases List.mem_cons.mp ht with e | ht
    · rw [e]; exact bind31
    rcases List.mem_cons.mp ht with e | ht
    · rw [e]; exact bind32
    rcases List.mem_cons.mp ht with e | ht
    · rw [e]; exact bind33
    rcases List.mem_cons.mp ht with e | ht
    · rw [e]; exact bind34
    rcases List.mem_cons.mp ht with e | ht
    · rw [e]; exact bind35
    rcases List.mem_cons.mp ht with e | ht
    · rw [e]; exact bind36
    rcases List.mem_cons.mp ht with e | ht
    · rw [e]; exact bind37
    rcases List.mem_cons.mp ht with e | ht
    · rw [e]; exact bind38
    rw [List.mem_singleton.mp ht]; exact bind39
  · rw [List.mem_singleton.mp ht]; exact bind40
def fn : List He.DefD := (rows ++ [rL]).map Row.dd
def faG : List He.Fa := [.int "MOST_BOUND" 99999, .str "BREAKER" "breaker", .str "LINK" "link", .str "FEED" "feed", .str "MAYBE" "maybe", .int "MOST_PHASE" 9, .int "MOST_LOAD" 9999, .int "MOST_BARS" 60, .int "MOST_SWITCHES" 90, .int "MOST_SOURCES" 12, .int "MOST_CUSTOMERS" 40]
def faB : List He.Fa := bs.map .free
def faR : List He.Fa := (rows ++ [rL]).map fun t => .glo t.x
def fa : List He.Fa := faR ++ (faG ++ faB)
def nm0 : List Str := ["PowerError", "InvalidNet", "InvalidBar", "InvalidLost", "InvalidNumber", "MOST_BARS", "is_integer", "is_count", "is_within", "is_list", "MOST_SWITCHES", "MOST_SOURCES", "MOST_CUSTOMERS", "MOST_BOUND", "MOST_PHASE", "MOST_LOAD", "BREAKER", "LINK", "FEED", "MAYBE", "is_word", "is_bound", "is_switch_of", "is_source_of", "is_customer_of", "flaw", "is_part", "check_net", "check_bar", "usable"]
def nm1 : List Str := ["feed_bars", "next_table", "joined_to", "reached_behind", "can_go", "further_way", "depth_of", "is_deep", "told_customers", "are_switches", "check_lost", "behind_loss", "supply_depth", "holds", "weakest", "_law_pot", "_law_draw", "_law_pick", "_law_mixed", "_law_net", "_law_switches", "_law_feeds", "_law_reach", "_law_lots", "_law_depths", "_law_right"]
def names : List Str := nm0 ++ nm1
abbrev R : PySem.W.OpenRow := PySem.W.OpenLaw.row PySem.Challenge.rw_deadmade_k22_whole_depths_and_losses
abbrev hk : PySem.W.Hook := He.hookD 4 fa fn
def ob (s : PySem.W.SharedT) : He.AlD := He.obsDG 4 fa fn (HandSHeadRun.getT s)
theorem ob_eq (s : PySem.W.SharedT) : ob s = hk.obs s.abs := He.obsDG_eq (HandSHeadRun.getT_eq s)
theorem run (w : World) : HandSHeadRun.RunEq R (PySem.W.view R.prog [61]) hk ob 6000 names w := by
  intro os
  kernel_rfl
theorem gs_ok {K : PySem.W.Frag} {h : Heap} {mg : Str → Option Value} (X : K.In h) (G : h.Ns mainGlobals mg) (c : He.SaysD fa fn K) : ∀ p ∈ gs, ∃ v u, mg p.1 = some u ∧ L2.RelV v u ∧ ∀ K F, Rp K F v p.2 := by
  have q : ∀ f ∈ faG, f.ok K = true := fun f hf => c.facts (List.mem_append_right _ (List.mem_append_left _ hf))
  have gi : ∀ (x : Str) (i : Int), .int x i ∈ faG → ∃ v u, mg x = some u ∧ L2.RelV v u ∧ ∀ K F, Rp K F v (.int i) := fun x i hf => by
    obtain ⟨t, e⟩ := He.int_ok X G (q _ hf)
    exact ⟨.int i, _, e, ⟨_, rfl⟩, fun K F => .int i⟩
  have gz : ∀ (x z : Str), .str x z ∈ faG → ∃ v u, mg x = some u ∧ L2.RelV v u ∧ ∀ K F, Rp K F v (.str z) := fun x z hf => by
    obtain ⟨t, e⟩ := He.str_ok X G (q _ hf)
    exact ⟨.str z, _, e, ⟨_, rfl⟩, fun K F => .str z⟩
  intro p hp
  unfold gs at hp
  rcases List.mem_cons.mp hp with e | hp
  · rw [e]; exact gi _ _ (by unfold faG; exact List.mem_cons_self)
  rcases List.mem_cons.mp hp with e | hp
  · rw [e]; exact gz _ _ (by unfold faG; refine List.mem_cons_of_mem _ ?_; exact List.mem_cons_self)
  rcases List.mem_cons.mp hp with e | hp
  · rw [e]; exact gz _ _ (by unfold faG; refine List.mem_cons_of_mem _ ?_; refine List.mem_cons_of_mem _ ?_; exact List.mem_cons_self)
  rcases List.mem_cons.mp hp with e | hp
  · rw [e]; exact gz _ _ (by unfold faG; refine List.mem_cons_of_mem _ ?_; refine List.mem_cons_of_mem _ ?_; refine List.mem_cons_of_mem _ ?_; exact List.mem_cons_self)
  rcases List.mem_cons.mp hp with e | hp
  · rw [e]; exact gz _ _ (by unfold faG; refine List.mem_cons_of_mem _ ?_; refine List.mem_cons_of_mem _ ?_; refine List.mem_cons_of_mem _ ?_; refine List.mem_cons_of_mem _ ?_; exact List.mem_cons_self)
  rcases List.mem_cons.mp hp with e | hp
  · rw [e]; exact gi _ _ (by unfold faG; refine List.mem_cons_of_mem _ ?_; refine List.mem_cons_of_mem _ ?_; refine List.mem_cons_of_mem _ ?_; refine List.mem_cons_of_mem _ ?_; refine List.mem_cons_of_mem _ ?_; exact List.mem_cons_self)
  rcases List.mem_cons.mp hp with e | hp
  · rw [e]; exact gi _ _ (by unfold faG; refine List.mem_cons_of_mem _ ?_; refine List.mem_cons_of_mem _ ?_; refine List.mem_cons_of_mem _ ?_; refine List.mem_cons_of_mem _ ?_; refine List.mem_cons_of_mem _ ?_; refine List.mem_cons_of_mem _ ?_; exact List.mem_cons_self)
  rcases List.mem_cons.mp hp with e | hp
  · rw [e]; exact gi _ _ (by unfold faG; refine List.mem_cons_of_mem _ ?_; refine List.mem_cons_of_mem _ ?_; refine List.mem_cons_of_mem _ ?_; refine List.mem_cons_of_mem _ ?_; refine List.mem_cons_of_mem _ ?_; refine List.mem_cons_of_mem _ ?_; refine List.mem_cons_of_mem _ ?_; exact List.mem_cons_self)
  rcases List.mem_cons.mp hp with e | hp
  · rw [e]; exact gi _ _ (by unfold faG; refine List.mem_cons_of_mem _ ?_; refine List.mem_cons_of_mem _ ?_; refine List.mem_cons_of_mem _ ?_; refine List.mem_cons_of_mem _ ?_; refine List.mem_cons_of_mem _ ?_; refine List.mem_cons_of_mem _ ?_; refine List.mem_cons_of_mem _ ?_; refine List.mem_cons_of_mem _ ?_; exact List.mem_cons_self)
  rcases List.mem_cons.mp hp with e | hp
  · rw [e]; exact gi _ _ (by unfold faG; refine List.mem_cons_of_mem _ ?_; refine List.mem_cons_of_mem _ ?_; refine List.mem_cons_of_mem _ ?_; refine List.mem_cons_of_mem _ ?_; refine List.mem_cons_of_mem _ ?_; refine List.mem_cons_of_mem _ ?_; refine List.mem_cons_of_mem _ ?_; refine List.mem_cons_of_mem _ ?_; refine List.mem_cons_of_mem _ ?_; exact List.mem_cons_self)
  rw [List.mem_singleton.mp hp]; exact gi _ _ (by unfold faG; refine List.mem_cons_of_mem _ ?_; refine List.mem_cons_of_mem _ ?_; refine List.mem_cons_of_mem _ ?_; refine List.mem_cons_of_mem _ ?_; refine List.mem_cons_of_mem _ ?_; refine List.mem_cons_of_mem _ ?_; refine List.mem_cons_of_mem _ ?_; refine List.mem_cons_of_mem _ ?_; refine List.mem_cons_of_mem _ ?_; refine List.mem_cons_of_mem _ ?_; exact List.mem_cons_self)
theorem bs_ok {K : PySem.W.Frag} {h : Heap} {mg : Str → Option Value} (X : K.In h) (G : h.Ns mainGlobals mg) (c : He.SaysD fa fn K) : ∀ nm ∈ bs, mg nm = none := fun nm hn => He.free_ok X G (c.facts (List.mem_append_right _ (List.mem_append_right _ (List.mem_map.mpr ⟨nm, hn, rfl⟩))))
theorem rows_at {K : PySem.W.Frag} {h : Heap} {mg : Str → Option Value} (X : K.In h) (G : h.Ns mainGlobals mg) (c : He.SaysD fa fn K) : ∀ t ∈ rows ++ [rL], RowAt K mg t := fun t ht => by
  obtain ⟨fd, F⟩ := c.defs (d := t.dd) (List.mem_map.mpr ⟨t, ht, rfl⟩)
  exact ⟨_, fd, F, He.glo_ok X G (c.facts (List.mem_append_left _ (List.mem_map.mpr ⟨t, ht, rfl⟩)))⟩
theorem checked : rowsB gs bs [] (rows ++ [rL]) = true := by decide +kernel
end K22
open PySem PySem.W PySem.Calls PyProof.Rows
theorem PySem.Challenge.cw_deadmade_k22_whole_depths_and_losses_holds : PySem.Challenge.rw_deadmade_k22_whole_depths_and_losses.Holds := by
  w_on; o_law
  refine HandSHeadRun.head_any (r := OpenLaw.row PySem.Challenge.rw_deadmade_k22_whole_depths_and_losses) (q := view (OpenLaw.row PySem.Challenge.rw_deadmade_k22_whole_depths_and_losses).prog [61]) (H := K22.hk) (ob := K22.ob) (M := 6000) (loose := K22.names) (d := HandSHeadRun.topDef (OpenLaw.row PySem.Challenge.rw_deadmade_k22_whole_depths_and_losses).prog 61) (kwd := []) K22.ob_eq
    (by kernel_rfl) (fun s => by kernel_rfl) K22.run (by kernel_rfl) (by kernel_rfl) (by kernel_rfl) (by rfl) (by first | assumption | decide +kernel) (by decide +kernel) ⟨rfl, rfl, rfl, rfl, rfl, by decide +kernel⟩ ?hw ?hc
  case hw => w_witness2
  case hc =>
    exact Mi.walk_end (l := PySem.Challenge.rw_deadmade_k22_whole_depths_and_losses) (n := 63) (gs := K22.gs) (bs := K22.bs) (rs := K22.rows) (r := K22.rL) (G := ⟨0, [], fun _ => none⟩) rfl (by decide) (by kernel_rfl) (by decide) (by kernel_rfl) ⟨_, rfl⟩ ⟨rfl, rfl⟩ K22.checked K22.binds
      (fun w mg h Y G => by
        obtain ⟨K, KX, c⟩ := Y
        exact ⟨K, KX, K22.rows_at KX G c, K22.gs_ok KX G c, K22.bs_ok KX G c⟩) K22.law_pure
