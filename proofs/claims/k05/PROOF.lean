import PyProof.Rows.All
import Wide.All
import OpenK.AllK
import Wide.FinOn
import HandS.ForMost
import HandS.ForExc
import HandS.Wide
import HandS.IsInst
import HandS.Style
import HandS.TupAny
import HandS.TupMul
import HandS.Zip
import HandS.Rev
import HandS.Walk
import HandS.Flow
import HandS.Gcd
import HandS.Deep
import HandS.TryMany
import HandS.TryOnly
import HandS.ExcCtx
import HandS.HotCalls
import HandS.HeadHook1
import HandS.ExcIs
import HandS.SortInts
import HandS.Dict
import HandS.Small
import HandS.WordsDict
import KE.KeyNested
import KE.KDictKeyed
import KE.KDictDisplayH
import KE.DataMinMax
import KE.SortData
import PyProof.DictCompW
import HandS.DictComp
import PyProof.ListMulRoad
import PyProof.FactsAll.tuple_2
import HandS.Hot
import HandS.Comp
import HandS.Sort
import KE.KSortedM
import HandS.Conv
import PyProof.AutoRange
import KE.GoesEnum
import HandS.Defaults
import HandS.HeadHook2
import HandS.Head2
import HandS.EndBits
import HandS.Head3
import HandS.HeadEnd
import PySem.Challenge.RW_rowsteps_k05_numbers_of_tables
set_option Elab.async false
set_option linter.all false
set_option maxRecDepth 100000
set_option maxHeartbeats 4000000
namespace Ds
open PySem PySem.Spec PyProof.Rows L2

/-! ## 1. Values -/
/-- how a list stands: frozen (never written again), owned (by the one slot that holds it), borrowed (read out of a slot that owns it), locked (the script, a module's own: read alone) -/
inductive Ow where
  | fr | ow | bo | lk
  deriving DecidableEq
/-- error classes of the program -/
inductive Ec where
  | base | table | number | place | paper | alike | long | device | state | lot | large | text | kind
  deriving DecidableEq
inductive D where
  | non | bl (b : Bool) | int (i : Int) | str (x : Str)
  | tup (ds : List D) | lst (o : Ow) (ds : List D)
  /-- a dict: its keys tuples of ints (t) or ints and texts; keys, values (frozen all) -/
  | dct (o : Ow) (t : Bool) (ks vs : List D)
  /-- the error that an except suite holds -/
  | exc
  /-- a range object: i, i + 1, .. below j -/
  | rg (i j : Int)
  /-- an instance: its class, its attributes; class 0: a tuple that owns -/
  | obj (o : Ow) (c : Nat) (ns : List Str) (ds : List D)
/-- what the module has written; the address of the error that the suite holds -/
abbrev Xa := Option (Bool × Addr)
structure Kx where
  k : PySem.W.Frag
  /-- an error's address (false), that of the object whose method runs (true) -/
  xa : Xa := none
/-- the classes of the program's own instances, by their names -/
def nmC : Nat → Str
  | 0 => "Rows"
  | 1 => "RowsModulo"
  | 2 => "Moves"
  | _ => "Device"
def clA (K : PySem.W.Frag) (c : Nat) : Addr := He.ga K (nmC c)

/-- the answer of an expression or a call -/
inductive Re (α : Type) where
  | ok (a : α) | er (c : Ec) | st
def Re.bind {α β : Type} : Re α → (α → Re β) → Re β
  | .ok a, f => f a
  | .er c, _ => .er c
  | .st, _ => .st
instance : Monad Re where
  pure := .ok
  bind := Re.bind
@[simp] theorem bind_ok {α β : Type} (a : α) (f : α → Re β) : (Re.ok a >>= f) = f a := rfl
@[simp] theorem bind_er {α β : Type} (c : Ec) (f : α → Re β) : (Re.er c >>= f) = .er c := rfl
@[simp] theorem bind_st {α β : Type} (f : α → Re β) : (Re.st >>= f) = .st := rfl
@[simp] theorem rbind_ok {α β : Type} (a : α) (f : α → Re β) : (Re.ok a).bind f = f a := rfl
@[simp] theorem rbind_er {α β : Type} (c : Ec) (f : α → Re β) : (Re.er c : Re α).bind f = .er c := rfl
@[simp] theorem rbind_st {α β : Type} (f : α → Re β) : (Re.st : Re α).bind f = .st := rfl

mutual
/-- an owned thing is frozen -/
def frz : D → D
  | .lst .ow ds => .lst .fr (frzs ds)
  | .non => .non
  | .bl b => .bl b
  | .int i => .int i
  | .str x => .str x
  | .tup ds => .tup ds
  | .lst .fr ds => .lst .fr ds
  | .lst .bo ds => .lst .bo ds
  | .lst .lk ds => .lst .lk ds
  | .exc => .exc
  | .rg i j => .rg i j
  | .obj .ow c ns ds => .obj .fr c ns (frzs ds)
  | .obj .fr c ns ds => .obj .fr c ns ds
  | .obj .bo c ns ds => .obj .bo c ns ds
  | .obj .lk c ns ds => .obj .fr c ns (frzs ds)
  | .dct .ow t ks vs => .dct .fr t ks vs
  | .dct .fr t ks vs => .dct .fr t ks vs
  | .dct .bo t ks vs => .dct .bo t ks vs
  | .dct .lk t ks vs => .dct .lk t ks vs
def frzs : List D → List D
  | [] => []
  | d :: ds => frz d :: frzs ds
end
theorem frzs_map : ∀ ds : List D, frzs ds = ds.map frz
  | [] => by simp only [frzs, List.map]
  | d :: ds => by simp only [frzs, List.map, frzs_map ds]
/-- not an owned list itself -/
def isF1 : D → Bool
  | .lst .ow _ => false
  | .dct .ow _ _ _ => false
  | .obj .ow _ _ _ => false
  | .obj .lk _ _ _ => false
  | _ => true
theorem frz_of_F1 : ∀ {d : D}, isF1 d = true → frz d = d
  | .non, _ => by simp only [frz]
  | .bl _, _ => by simp only [frz]
  | .int _, _ => by simp only [frz]
  | .str _, _ => by simp only [frz]
  | .tup _, _ => by simp only [frz]
  | .lst .fr _, _ => by simp only [frz]
  | .lst .bo _, _ => by simp only [frz]
  | .lst .lk _, _ => by simp only [frz]
  | .exc, _ => by simp only [frz]
  | .rg _ _, _ => by simp only [frz]
  | .dct .fr _ _ _, _ => by simp only [frz]
  | .dct .bo _ _ _, _ => by simp only [frz]
  | .dct .lk _ _ _, _ => by simp only [frz]
  | .dct .ow _ _ _, h => by simp [isF1] at h
  | .lst .ow _, h => by simp [isF1] at h
  | .obj .fr _ _ _, _ => by simp only [frz]
  | .obj .bo _ _ _, _ => by simp only [frz]
  | .obj .lk _ _ _, h => by simp [isF1] at h
  | .obj .ow _ _ _, h => by simp [isF1] at h
theorem frzs_of_F1 : ∀ {ds : List D}, ds.all isF1 = true → frzs ds = ds
  | [], _ => by simp only [frzs]
  | d :: ds, h => by
    simp only [List.all_cons, Bool.and_eq_true] at h
    simp only [frzs, frz_of_F1 h.1, frzs_of_F1 h.2]

/-! ## 2. How values stand in the abstract heap -/
/-- a key of a dict as a thing -/
def keyD : L2.Key → D
  | .inl i => .int i
  | .inr x => .str x
mutual
/-- a nested key -/
def toN : D → Option NestedKey
  | .int i => some (.num i)
  | .tup ds => (toNs ds).map .tup
  | _ => none
def toNs : List D → Option (List NestedKey)
  | [] => some []
  | d :: ds => match toN d, toNs ds with
    | some k, some ks => some (k :: ks)
    | _, _ => none
end
/-- a dict whose keys are tuples: what is true of its one object -/
def dnO (a : Addr) (xs : List (NestedKey × Addr × V)) : HO := .ext fun h => (a == sysModules) = false ∧ ∃ ys : List (NestedKey × Addr × Value), Paired (fun (p : NestedKey × Addr × V) (q : NestedKey × Addr × Value) => p.1 = q.1 ∧ p.2.1 = q.2.1 ∧ RelV p.2.2 q.2.2) xs ys ∧
  ∃ o es ep, h.get? a = some o ∧ o.ExactDict ∧ o.data = .dict es ep ∧ ∀ w : World, es.toList = ys.map fun y => (⟨y.1.hash w, .ref y.2.1, y.2.2⟩ : DictEntry)
section
variable (K : Kx) (H : Hp) (W : Addr → Prop)
mutual
/-- frozen: nothing of it is among the places W that may be written -/
inductive F : D → V → Prop
  | non : F .non .non
  | bl (b : Bool) : F (.bl b) (.bl b)
  | int (i : Int) : F (.int i) (.int i)
  | str (x : Str) : F (.str x) (.str x)
  | tup {a : Addr} {vs : List V} {ds : List D} (h : Rd H a (.tup vs)) (n : ¬ W a) (z : vs.length ≤ sizeLine) (r : Fs ds vs) : F (.tup ds) (.ref a)
  | tupK {a : Addr} {vs : List V} {ds : List D} {o : Obj} {its : Array Value} {n : Nat} (l : K.k.lookup a = some o) (c : o.cls = .type "tuple") (q : o.data = .seq its n) (z : its.size ≤ sizeLine) (v : Vals vs its.toList) (r : Fs ds vs) :
      F (.tup ds) (.ref a)
  | lst {a : Addr} {vs : List V} {ds : List D} (h : H a = some (.lst vs)) (n : ¬ W a) (z : vs.length ≤ sizeLine) (r : Fs ds vs) : F (.lst .fr ds) (.ref a)
  | lk {a : Addr} {vs : List V} {ds : List D} {ob : Obj} (h : H a = some (.frz ob (.lst vs))) (n : ¬ W a) (z : vs.length ≤ sizeLine) (r : Fs ds vs) : F (.lst .lk ds) (.ref a)
  | lkK {a : Addr} {vs : List V} {ds : List D} {o : Obj} {its : Array Value} {n : Nat} (l : K.k.lookup a = some o) (c : o.cls = .type "list") (dn : o.dict = none) (q : o.data = .seq its n) (z : its.size ≤ sizeLine) (v : Vals vs its.toList) (r : Fs ds vs) : F (.lst .lk ds) (.ref a)
  | exc {a : Addr} (h : K.xa = some (false, a)) : F .exc (.ref a)
  | rg {a : Addr} {i j : Int} (h : H a = some (.rng i j)) (n : ¬ W a) : F (.rg i j) (.ref a)
  | dk {a : Addr} {kv : List (L2.Key × V)} {ks vs : List D} (h : H a = some (.dK kv)) (n : ¬ W a) (z : kv.length ≤ sizeLine) (nd : (kv.map (·.1)).Nodup) (e : ks = kv.map fun p => keyD p.1) (r : Fs vs (kv.map (·.2))) : F (.dct .fr false ks vs) (.ref a)
  | dn {a : Addr} {xs : List (NestedKey × Addr × V)} {ks vs : List D} (h : H a = some (dnO a xs)) (n : ¬ W a) (z : xs.length ≤ sizeLine) (nd : (xs.map (·.1)).Nodup) (dp : ∀ x ∈ xs, x.1.depth ≤ 8) (e : toNs ks = some (xs.map (·.1))) (rk : Fs ks (xs.map fun x => V.ref x.2.1)) (r : Fs vs (xs.map (·.2.2))) : F (.dct .fr true ks vs) (.ref a)
  | ob {a dx : Addr} {c : Nat} {ns : List Str} {ds : List D} {vs : List V} (h : H a = some (.ins (clA K.k c) dx (ns.zip vs))) (n : ¬ W a) (l : ns.length = vs.length) (r : Fs ds vs) : F (.obj .fr c ns ds) (.ref a)
inductive Fs : List D → List V → Prop
  | nil : Fs [] []
  | cons {d : D} {v : V} {ds : List D} {vs : List V} (h : F d v) (t : Fs ds vs) : Fs (d :: ds) (v :: vs)
end
mutual
/-- what a slot holds: frozen, or owned lists at the places as -/
inductive O : D → V → List Addr → Prop
  | fz {d : D} {v : V} (h : F K H W d v) : O d v []
  | ow {a : Addr} {vs : List V} {ds : List D} {as : List Addr} (h : H a = some (.lst vs)) (z : vs.length ≤ sizeLine) (r : Os ds vs as) : O (.lst .ow ds) (.ref a) (a :: as)
  | dk {a : Addr} {kv : List (L2.Key × V)} {ks vs : List D} (h : H a = some (.dK kv)) (z : kv.length ≤ sizeLine) (nd : (kv.map (·.1)).Nodup) (e : ks = kv.map fun p => keyD p.1) (r : Fs K H W vs (kv.map (·.2))) : O (.dct .ow false ks vs) (.ref a) [a]
  | dn {a : Addr} {xs : List (NestedKey × Addr × V)} {ks vs : List D} (h : H a = some (dnO a xs)) (z : xs.length ≤ sizeLine) (nd : (xs.map (·.1)).Nodup) (dp : ∀ x ∈ xs, x.1.depth ≤ 8) (e : toNs ks = some (xs.map (·.1))) (rk : Fs K H W ks (xs.map fun x => V.ref x.2.1)) (r : Fs K H W vs (xs.map (·.2.2))) : O (.dct .ow true ks vs) (.ref a) [a]
  | ob {a dx : Addr} {c : Nat} {ns : List Str} {ds : List D} {vs : List V} {as : List Addr} (h : H a = some (.ins (clA K.k c) dx (ns.zip vs))) (l : ns.length = vs.length) (r : Os ds vs as) : O (.obj .ow c ns ds) (.ref a) (a :: as)
  | sb {a dx : Addr} {c : Nat} {ns : List Str} {ds : List D} {vs : List V} {as : List Addr} (e : K.xa = some (true, a)) (h : H a = some (.ins (clA K.k c) dx (ns.zip vs))) (l : ns.length = vs.length) (r : Os ds vs as) : O (.obj .lk c ns ds) (.ref a) (a :: as)
inductive Os : List D → List V → List Addr → Prop
  | nil : Os [] [] []
  | cons {d : D} {v : V} {ds : List D} {vs : List V} {as bs : List Addr} (h : O d v as) (t : Os ds vs bs) : Os (d :: ds) (v :: vs) (as ++ bs)
end
/-- what an expression gives: as a slot (its owned places new), or a borrowed list -/
inductive E : D → V → List Addr → Prop
  | o {d : D} {v : V} {as : List Addr} (h : O K H W d v as) : E d v as
  | bo {a : Addr} {vs : List V} {ds : List D} {as : List Addr} (h : H a = some (.lst vs)) (z : vs.length ≤ sizeLine) (r : Os K H W ds vs as) : E (.lst .bo ds) (.ref a) []
  | dk {a : Addr} {kv : List (L2.Key × V)} {ks vs : List D} (h : H a = some (.dK kv)) (z : kv.length ≤ sizeLine) (nd : (kv.map (·.1)).Nodup) (e : ks = kv.map fun p => keyD p.1) (r : Fs K H W vs (kv.map (·.2))) : E (.dct .bo false ks vs) (.ref a) []
  | dn {a : Addr} {xs : List (NestedKey × Addr × V)} {ks vs : List D} (h : H a = some (dnO a xs)) (z : xs.length ≤ sizeLine) (nd : (xs.map (·.1)).Nodup) (dp : ∀ x ∈ xs, x.1.depth ≤ 8) (e : toNs ks = some (xs.map (·.1))) (rk : Fs K H W ks (xs.map fun x => V.ref x.2.1)) (r : Fs K H W vs (xs.map (·.2.2))) : E (.dct .bo true ks vs) (.ref a) []
  | ob {a dx : Addr} {c : Nat} {ns : List Str} {ds : List D} {vs : List V} {as : List Addr} (h : H a = some (.ins (clA K.k c) dx (ns.zip vs))) (l : ns.length = vs.length) (r : Os K H W ds vs as) : E (.obj .bo c ns ds) (.ref a) []
inductive Es : List D → List V → List Addr → Prop
  | nil : Es [] [] []
  | cons {d : D} {v : V} {ds : List D} {vs : List V} {as bs : List Addr} (h : E K H W d v as) (t : Es ds vs bs) : Es (d :: ds) (v :: vs) (as ++ bs)
/-- the slots -/
inductive Sl : List (Option D) → L2.St → List Addr → Prop
  | nil : Sl [] [] []
  | em {x : Option V} {ρ : List (Option D)} {σ : L2.St} {as : List Addr} (t : Sl ρ σ as) : Sl (none :: ρ) (x :: σ) as
  | fu {d : D} {v : V} {ρ : List (Option D)} {σ : L2.St} {as bs : List Addr} (h : O K H W d v as) (t : Sl ρ σ bs) : Sl (some d :: ρ) (some v :: σ) (as ++ bs)
end
/-- what may be written: a list, a dict -/
def Wr : HO → Prop
  | .lst _ => True
  | .dK _ => True
  | .ext _ => True
  | .ins _ _ _ => True
  | _ => False
/-- the places that may be written hold such things -/
def Wok (H : Hp) (W : Addr → Prop) : Prop := ∀ a, W a → ∃ o, H a = some o ∧ Wr o
def Fresh (H : Hp) (bs : List Addr) : Prop := ∀ b ∈ bs, H b = none
def plus (W : Addr → Prop) (bs : List Addr) : Addr → Prop := fun a => W a ∨ a ∈ bs

section
variable {K : Kx} {H H' : Hp} {W W' : Addr → Prop}
theorem rd_keep {a : Addr} {u : HO} (k : ∀ o, H a = some o → H' a = some o) (h : Rd H a u) : Rd H' a u := by
  rcases h with h | ⟨o, h⟩
  · exact .inl (k _ h)
  · exact .inr ⟨o, k _ h⟩
theorem rd_some {a : Addr} {u : HO} (h : Rd H a u) : ∃ o, H a = some o := by
  rcases h with h | ⟨o, h⟩
  · exact ⟨_, h⟩
  · exact ⟨_, h⟩
mutual
theorem F.keep (k : ∀ a o, H a = some o → ¬ W a → H' a = some o) (w : ∀ a, W' a → W a ∨ H a = none) : ∀ {d : D} {v : V}, F K H W d v → F K H' W' d v
  | _, _, .non => .non
  | _, _, .bl b => .bl b
  | _, _, .int i => .int i
  | _, _, .str x => .str x
  | _, _, .tup h n z r => .tup (rd_keep (fun o e => k _ o e n) h) (fun q => (w _ q).elim n fun e => by obtain ⟨o, e'⟩ := rd_some h; rw [e] at e'; cases e') z (Fs.keep k w r)
  | _, _, .tupK l c q z v r => .tupK l c q z v (Fs.keep k w r)
  | _, _, .lst h n z r => .lst (k _ _ h n) (fun q => (w _ q).elim n fun e => by rw [e] at h; cases h) z (Fs.keep k w r)
  | _, _, .lkK l c dn q z v r => .lkK l c dn q z v (Fs.keep k w r)
  | _, _, .lk h n z r => .lk (k _ _ h n) (fun q => (w _ q).elim n fun e => by rw [e] at h; cases h) z (Fs.keep k w r)
  | _, _, .exc h => .exc h
  | _, _, .rg h n => .rg (k _ _ h n) (fun q => (w _ q).elim n fun e => by rw [e] at h; cases h)
  | _, _, .dk h n z nd e r => .dk (k _ _ h n) (fun q => (w _ q).elim n fun e => by rw [e] at h; cases h) z nd e (Fs.keep k w r)
  | _, _, .dn h n z nd dp e rk r => .dn (k _ _ h n) (fun q => (w _ q).elim n fun e => by rw [e] at h; cases h) z nd dp e (Fs.keep k w rk) (Fs.keep k w r)
  | _, _, .ob h n l r => .ob (k _ _ h n) (fun q => (w _ q).elim n fun e => by rw [e] at h; cases h) l (Fs.keep k w r)
theorem Fs.keep (k : ∀ a o, H a = some o → ¬ W a → H' a = some o) (w : ∀ a, W' a → W a ∨ H a = none) : ∀ {ds : List D} {vs : List V}, Fs K H W ds vs → Fs K H' W' ds vs
  | _, _, .nil => .nil
  | _, _, .cons h t => .cons (F.keep k w h) (Fs.keep k w t)
end
mutual
theorem O.keep (k : ∀ a o, H a = some o → ¬ W a → H' a = some o) (w : ∀ a, W' a → W a ∨ H a = none) : ∀ {d : D} {v : V} {as : List Addr}, (∀ a ∈ as, ∀ o, H a = some o → H' a = some o) → O K H W d v as → O K H' W' d v as
  | _, _, _, _, .fz h => .fz (F.keep k w h)
  | _, _, _, ka, .ow h z r => .ow (ka _ List.mem_cons_self _ h) z (Os.keep k w (fun a m => ka a (List.mem_cons_of_mem _ m)) r)
  | _, _, _, ka, .dk h z nd e r => .dk (ka _ List.mem_cons_self _ h) z nd e (Fs.keep k w r)
  | _, _, _, ka, .dn h z nd dp e rk r => .dn (ka _ List.mem_cons_self _ h) z nd dp e (Fs.keep k w rk) (Fs.keep k w r)
  | _, _, _, ka, .ob h l r => .ob (ka _ List.mem_cons_self _ h) l (Os.keep k w (fun a m => ka a (List.mem_cons_of_mem _ m)) r)
  | _, _, _, ka, .sb e h l r => .sb e (ka _ List.mem_cons_self _ h) l (Os.keep k w (fun a m => ka a (List.mem_cons_of_mem _ m)) r)
theorem Os.keep (k : ∀ a o, H a = some o → ¬ W a → H' a = some o) (w : ∀ a, W' a → W a ∨ H a = none) : ∀ {ds : List D} {vs : List V} {as : List Addr}, (∀ a ∈ as, ∀ o, H a = some o → H' a = some o) → Os K H W ds vs as → Os K H' W' ds vs as
  | _, _, _, _, .nil => .nil
  | _, _, _, ka, .cons h t => .cons (O.keep k w (fun a m => ka a (List.mem_append_left _ m)) h) (Os.keep k w (fun a m => ka a (List.mem_append_right _ m)) t)
end
theorem E.keep (s : Same H H') (w : ∀ a, W' a → W a ∨ H a = none) {d : D} {v : V} {as : List Addr} : E K H W d v as → E K H' W' d v as
  | .o h => .o (h.keep (fun a o e _ => s a o e) w fun a _ o e => s a o e)
  | .bo h z r => .bo (s _ _ h) z (r.keep (fun a o e _ => s a o e) w fun a _ o e => s a o e)
  | .dk h z nd e r => .dk (s _ _ h) z nd e (r.keep (fun a o e _ => s a o e) w)
  | .dn h z nd dp e rk r => .dn (s _ _ h) z nd dp e (rk.keep (fun a o e _ => s a o e) w) (r.keep (fun a o e _ => s a o e) w)
  | .ob h l r => .ob (s _ _ h) l (r.keep (fun a o e _ => s a o e) w fun a _ o e => s a o e)
theorem Es.keep (s : Same H H') (w : ∀ a, W' a → W a ∨ H a = none) : ∀ {ds : List D} {vs : List V} {as : List Addr}, Es K H W ds vs as → Es K H' W' ds vs as
  | _, _, _, .nil => .nil
  | _, _, _, .cons h t => .cons (h.keep s w) (Es.keep s w t)
theorem Sl.keep (k : ∀ a o, H a = some o → ¬ W a → H' a = some o) (w : ∀ a, W' a → W a ∨ H a = none) : ∀ {ρ : List (Option D)} {σ : L2.St} {as : List Addr}, (∀ a ∈ as, ∀ o, H a = some o → H' a = some o) → Sl K H W ρ σ as → Sl K H' W' ρ σ as
  | _, _, _, _, .nil => .nil
  | _, _, _, ka, .em t => .em (Sl.keep k w ka t)
  | _, _, _, ka, .fu h t => .fu (h.keep k w fun a m => ka a (List.mem_append_left _ m)) (Sl.keep k w (fun a m => ka a (List.mem_append_right _ m)) t)
theorem Sl.same (s : Same H H') (w : ∀ a, W' a → W a ∨ H a = none) {ρ : List (Option D)} {σ : L2.St} {as : List Addr} (h : Sl K H W ρ σ as) : Sl K H' W' ρ σ as :=
  h.keep (fun a o e _ => s a o e) w fun a _ o e => s a o e
mutual
theorem O.there : ∀ {d : D} {v : V} {as : List Addr}, O K H W d v as → ∀ a ∈ as, ∃ o, H a = some o ∧ Wr o
  | _, _, _, .fz _, a, m => by cases m
  | _, _, _, .ow h _ r, a, m => by
    rcases List.mem_cons.mp m with e | m
    · rw [e]; exact ⟨_, h, trivial⟩
    · exact Os.there r a m
  | _, _, _, .dk h _ _ _ _, a, m => by
    rw [List.mem_singleton.mp m]; exact ⟨_, h, trivial⟩
  | _, _, _, .dn h _ _ _ _ _ _, a, m => by
    rw [List.mem_singleton.mp m]; exact ⟨_, h, trivial⟩
  | _, _, _, .ob h _ r, a, m => by
    rcases List.mem_cons.mp m with e | m
    · rw [e]; exact ⟨_, h, trivial⟩
    · exact Os.there r a m
  | _, _, _, .sb _ h _ r, a, m => by
    rcases List.mem_cons.mp m with e | m
    · rw [e]; exact ⟨_, h, trivial⟩
    · exact Os.there r a m
theorem Os.there : ∀ {ds : List D} {vs : List V} {as : List Addr}, Os K H W ds vs as → ∀ a ∈ as, ∃ o, H a = some o ∧ Wr o
  | _, _, _, .nil, a, m => by cases m
  | _, _, _, .cons h t, a, m => by
    rcases List.mem_append.mp m with m | m
    · exact O.there h a m
    · exact Os.there t a m
end
theorem E.there {d : D} {v : V} {as : List Addr} : E K H W d v as → ∀ a ∈ as, ∃ o, H a = some o ∧ Wr o
  | .o h => h.there
  | .bo _ _ _ => fun _ m => nomatch m
  | .dk _ _ _ _ _ => fun _ m => nomatch m
  | .dn _ _ _ _ _ _ _ => fun _ m => nomatch m
  | .ob _ _ _ => fun _ m => nomatch m
theorem Es.there : ∀ {ds : List D} {vs : List V} {as : List Addr}, Es K H W ds vs as → ∀ a ∈ as, ∃ o, H a = some o ∧ Wr o
  | _, _, _, .nil, a, m => by cases m
  | _, _, _, .cons h t, a, m => by
    rcases List.mem_append.mp m with m | m
    · exact h.there a m
    · exact Es.there t a m
mutual
/-- freezing: its places are no longer written -/
theorem O.frz (w : ∀ a, W' a → W a) : ∀ {d : D} {v : V} {as : List Addr}, (∀ a ∈ as, ¬ W' a) → O K H W d v as → F K H W' (frz d) v
  | d, _, _, _, .fz h => by
    have e : Ds.frz d = d := by cases h <;> simp only [Ds.frz]
    rw [e]
    exact h.keep (fun _ _ q _ => q) fun a q => .inl (w a q)
  | _, _, _, na, .ow h z r => by
    simp only [Ds.frz]
    exact .lst h (na _ List.mem_cons_self) z (Os.frz w (fun a m => na a (List.mem_cons_of_mem _ m)) r)
  | _, _, _, na, .dk h z nd e r => by
    simp only [Ds.frz]
    exact .dk h (na _ List.mem_cons_self) z nd e (r.keep (fun _ _ q _ => q) fun a q => .inl (w a q))
  | _, _, _, na, .dn h z nd dp e rk r => by
    simp only [Ds.frz]
    exact .dn h (na _ List.mem_cons_self) z nd dp e (rk.keep (fun _ _ q _ => q) fun a q => .inl (w a q)) (r.keep (fun _ _ q _ => q) fun a q => .inl (w a q))
  | _, _, _, na, .ob h l r => by
    simp only [Ds.frz]
    exact .ob h (na _ List.mem_cons_self) l (Os.frz w (fun a m => na a (List.mem_cons_of_mem _ m)) r)
  | _, _, _, na, .sb _ h l r => by
    simp only [Ds.frz]
    exact .ob h (na _ List.mem_cons_self) l (Os.frz w (fun a m => na a (List.mem_cons_of_mem _ m)) r)
theorem Os.frz (w : ∀ a, W' a → W a) : ∀ {ds : List D} {vs : List V} {as : List Addr}, (∀ a ∈ as, ¬ W' a) → Os K H W ds vs as → Fs K H W' (frzs ds) vs
  | _, _, _, _, .nil => by simp only [frzs]; exact .nil
  | _, _, _, na, .cons h t => by
    simp only [frzs]
    exact .cons (O.frz w (fun a m => na a (List.mem_append_left _ m)) h) (Os.frz w (fun a m => na a (List.mem_append_right _ m)) t)
end
theorem Os.allF : ∀ {ds : List D} {vs : List V} {as : List Addr}, ds.all isF1 = true → Os K H W ds vs as → Fs K H W ds vs ∧ as = []
  | _, _, _, _, .nil => ⟨.nil, rfl⟩
  | _, _, _, f, .cons h t => by
    simp only [List.all_cons, Bool.and_eq_true] at f
    obtain ⟨t', e⟩ := Os.allF f.2 t
    subst e
    cases h with
    | fz h => exact ⟨.cons h t', rfl⟩
    | ow _ _ _ => simp [isF1] at f
    | dk _ _ _ _ _ => simp [isF1] at f
    | dn _ _ _ _ _ _ _ => simp [isF1] at f
    | ob _ _ _ => simp [isF1] at f
    | sb _ _ _ _ => simp [isF1] at f
theorem Fs.os : ∀ {ds : List D} {vs : List V}, Fs K H W ds vs → Os K H W ds vs []
  | _, _, .nil => .nil
  | _, _, .cons h t => by
    have := Os.cons (as := []) (bs := []) (O.fz h) (Fs.os t)
    exact this
theorem Fs.length : ∀ {ds : List D} {vs : List V}, Fs K H W ds vs → ds.length = vs.length
  | _, _, .nil => rfl
  | _, _, .cons _ t => by simp [Fs.length t]
theorem Os.length : ∀ {ds : List D} {vs : List V} {as : List Addr}, Os K H W ds vs as → ds.length = vs.length
  | _, _, _, .nil => rfl
  | _, _, _, .cons _ t => by simp [Os.length t]
theorem Es.length : ∀ {ds : List D} {vs : List V} {as : List Addr}, Es K H W ds vs as → ds.length = vs.length
  | _, _, _, .nil => rfl
  | _, _, _, .cons _ t => by simp [Es.length t]
theorem Sl.length : ∀ {ρ : List (Option D)} {σ : L2.St} {as : List Addr}, Sl K H W ρ σ as → ρ.length = σ.length
  | _, _, _, .nil => rfl
  | _, _, _, .em t => by simp [Sl.length t]
  | _, _, _, .fu _ t => by simp [Sl.length t]
theorem Fs.get : ∀ {ds : List D} {vs : List V} {i : Nat} {d : D}, Fs K H W ds vs → ds[i]? = some d → ∃ v, vs[i]? = some v ∧ F K H W d v
  | _, _, 0, _, .cons h _, e => by simp at e; subst e; exact ⟨_, rfl, h⟩
  | _, _, i + 1, _, .cons _ t, e => by
    obtain ⟨v, e', r⟩ := Fs.get (i := i) t (by simpa using e)
    exact ⟨v, by simpa using e', r⟩
  | _, _, _, _, .nil, e => by simp at e
theorem Fs.get' : ∀ {ds : List D} {vs : List V} {i : Nat} {v : V}, Fs K H W ds vs → vs[i]? = some v → ∃ d, ds[i]? = some d ∧ F K H W d v
  | _, _, 0, _, .cons h _, e => by simp at e; subst e; exact ⟨_, rfl, h⟩
  | _, _, i + 1, _, .cons _ t, e => by
    obtain ⟨v, e', r⟩ := Fs.get' (i := i) t (by simpa using e)
    exact ⟨v, by simpa using e', r⟩
  | _, _, _, _, .nil, e => by simp at e
theorem Fs.append : ∀ {ds es : List D} {vs us : List V}, Fs K H W ds vs → Fs K H W es us → Fs K H W (ds ++ es) (vs ++ us)
  | _, _, _, _, .nil, s => s
  | _, _, _, _, .cons h t, s => .cons h (Fs.append t s)
theorem Fs.take : ∀ {ds : List D} {vs : List V} (n : Nat), Fs K H W ds vs → Fs K H W (ds.take n) (vs.take n)
  | _, _, 0, _ => .nil
  | _, _, _ + 1, .nil => .nil
  | _, _, n + 1, .cons h t => .cons h (Fs.take n t)
theorem Fs.drop : ∀ {ds : List D} {vs : List V} (n : Nat), Fs K H W ds vs → Fs K H W (ds.drop n) (vs.drop n)
  | _, _, 0, h => h
  | _, _, _ + 1, .nil => .nil
  | _, _, n + 1, .cons _ t => Fs.drop n t
theorem Fs.reverse {ds : List D} {vs : List V} (h : Fs K H W ds vs) : Fs K H W ds.reverse vs.reverse := by
  induction h using Fs.rec (motive_1 := fun _ _ _ => True) with
  | nil => exact .nil
  | cons h t _ ih =>
    rw [List.reverse_cons, List.reverse_cons]
    exact ih.append (.cons h .nil)
  | _ => trivial
theorem Os.get : ∀ {ds : List D} {vs : List V} {as : List Addr} {i : Nat} {d : D}, Os K H W ds vs as → ds[i]? = some d → ∃ v bs, vs[i]? = some v ∧ O K H W d v bs
  | _, _, _, 0, _, .cons h _, e => by simp at e; subst e; exact ⟨_, _, rfl, h⟩
  | _, _, _, i + 1, _, .cons _ t, e => by
    obtain ⟨v, bs, e', r⟩ := Os.get (i := i) t (by simpa using e)
    exact ⟨v, bs, by simpa using e', r⟩
  | _, _, _, _, _, .nil, e => by simp at e
theorem Sl.get : ∀ {ρ : List (Option D)} {σ : L2.St} {as : List Addr} {i : Nat} {d : D}, Sl K H W ρ σ as → ρ[i]? = some (some d) → ∃ v bs, σ[i]? = some (some v) ∧ O K H W d v bs ∧ ∀ b ∈ bs, b ∈ as
  | _, _, _, 0, _, .fu h _, e => by simp at e; subst e; exact ⟨_, _, rfl, h, fun b m => List.mem_append_left _ m⟩
  | _, _, _, 0, _, .em _, e => by simp at e
  | _, _, _, i + 1, _, .em t, e => by
    obtain ⟨v, bs, e', r, q⟩ := Sl.get (i := i) t (by simpa using e)
    exact ⟨v, bs, by simpa using e', r, q⟩
  | _, _, _, i + 1, _, .fu _ t, e => by
    obtain ⟨v, bs, e', r, q⟩ := Sl.get (i := i) t (by simpa using e)
    exact ⟨v, bs, by simpa using e', r, fun b m => List.mem_append_right _ (q b m)⟩
  | _, _, _, _, _, .nil, e => by simp at e
/-- slot i, apart from the others -/
theorem Sl.at : ∀ {ρ : List (Option D)} {σ : L2.St} {as : List Addr} {i : Nat}, Sl K H W ρ σ as → i < ρ.length → ∃ as0 asi as1, as = as0 ++ asi ++ as1 ∧
    (∀ d, ρ[i]? = some (some d) → ∃ v, σ[i]? = some (some v) ∧ O K H W d v asi) ∧
    (∀ (H' : Hp) (W' : Addr → Prop), (∀ a o, H a = some o → ¬ W a → H' a = some o) → (∀ a, W' a → W a ∨ H a = none) → (∀ a ∈ as0 ++ as1, ∀ o, H a = some o → H' a = some o) →
      (Sl K H' W' (ρ.set i none) σ (as0 ++ as1)) ∧ ∀ d v bs, O K H' W' d v bs → Sl K H' W' (ρ.set i (some d)) (σ.set i (some v)) (as0 ++ bs ++ as1))
  | _, _, _, i, .nil, h => by simp at h
  | _, _, _, 0, .em (x := x) (ρ := ρ) (σ := σ) (as := as) t, _ => by
    refine ⟨[], [], as, by simp, fun d e => by simp at e, fun H' W' k w ka => ⟨?_, fun d v bs h => ?_⟩⟩
    · exact .em (t.keep k w (by simpa using ka))
    · exact .fu h (t.keep k w (by simpa using ka))
  | _, _, _, 0, .fu (d := d0) (v := v0) (as := as) (bs := bs) h t, _ => by
    refine ⟨[], as, bs, by simp, fun d e => ?_, fun H' W' k w ka => ⟨?_, fun d v bs h => ?_⟩⟩
    · simp at e; subst e; exact ⟨_, rfl, h⟩
    · exact .em (t.keep k w (by simpa using ka))
    · exact .fu h (t.keep k w (by simpa using ka))
  | _, _, _, i + 1, .em t, l => by
    obtain ⟨a0, ai, a1, e, g, q⟩ := Sl.at (i := i) t (by simpa using l)
    refine ⟨a0, ai, a1, e, fun d e => ?_, fun H' W' k w ka => ?_⟩
    · obtain ⟨v, e', r⟩ := g d (by simpa using e)
      exact ⟨v, by simpa using e', r⟩
    · obtain ⟨q1, q2⟩ := q H' W' k w ka
      exact ⟨.em q1, fun d v bs h => .em (q2 d v bs h)⟩
  | _, _, _, i + 1, .fu (as := as) (bs := bs) h t, l => by
    obtain ⟨a0, ai, a1, e, g, q⟩ := Sl.at (i := i) t (by simpa using l)
    refine ⟨as ++ a0, ai, a1, by rw [e]; simp, fun d e => ?_, fun H' W' k w ka => ?_⟩
    · obtain ⟨v, e', r⟩ := g d (by simpa using e)
      exact ⟨v, by simpa using e', r⟩
    · obtain ⟨q1, q2⟩ := q H' W' k w fun a m => ka a (by simp only [List.append_assoc]; exact List.mem_append_right _ m)
      have hh := h.keep k w fun a m => ka a (by simp only [List.append_assoc]; exact List.mem_append_left _ m)
      refine ⟨?_, fun d v bs z => ?_⟩
      · have := Sl.fu hh q1
        simpa only [List.append_assoc, List.set_cons_succ] using this
      · have := Sl.fu hh (q2 d v bs z)
        simpa only [List.append_assoc, List.set_cons_succ] using this
end
end Ds

namespace Ds
open PySem PySem.Spec PyProof.Rows L2

/-! ## 3. The small language -/
inductive Bop where
  | add | sub | mul | div | mod | pow
  deriving DecidableEq
inductive Cop where
  | eq | ne | lt | le | gt | ge | is | nis | isin | nin
  deriving DecidableEq
inductive Ty where
  | tuple | list | int | bool | str
  deriving DecidableEq
inductive Blt where
  | len | sum | all | any | tuple | list | int | abs | min | max | sorted | gcd | inst (t : Ty)
  deriving DecidableEq
/-- a target -/
inductive G where
  | nm (i : Nat) | tup (gs : List G)
inductive S where
  | non | bl (b : Bool) | int (i : Int) | str (x : Str)
  | con (x : Str) (d : D)
  | var (i : Nat)
  | tup (es : List S) | lst (es : List S)
  | bin (op : Bop) (a b : S) | neg (a : S) | not (a : S)
  | cmp (op : Cop) (a b : S) | chn (o1 o2 : Cop) (a b c : S)
  | and (a b : S) | or (a b : S) | ite (c a b : S) | tru (a : S)
  | ix (a i : S) | sl (a : S) (lo hi : Option S) | rev (a : S)
  -- dicts: a display, d[k], k in d (not in), len(d), d.get(k)
  | dic (t : Bool) (es : List S) | dget (a i : S) | din (neg : Bool) (i a : S) | dlen (a : S) | dgt (a i : S)
  | call (f : Nat) (es : List S) | blt (b : Blt) (es : List S)
  | isE (i : Nat) (c : Ec)
  -- what is walked
  | iseq (a : S) | irng (a b : S) | irng3 (a b c : S) | ienum (a : S) | izip (a b : S) | irev (a : S)
  -- comprehensions: the block's names, target, source, test, element
  | comp (vs : List Nat) (g : G) (it : S) (c : S) (e : S)
  | comp2 (vs vs1 : List Nat) (g : G) (it : S) (c : S) (g1 : G) (it1 : S) (c1 : S) (e : S)
  /-- a dict's comprehension: kind of keys, names, target, source, test, key, value -/
  | dcomp (t : Bool) (vs : List Nat) (g : G) (it : S) (c : S) (k e : S)
  /-- within an except suite: a comprehension over a list, len -/
  | comph (vs : List Nat) (g : G) (a : S) (c : S) (e : S) | hlen (a : S)
  /-- a.index(e) -/
  | pos (a e : S)
  /-- range(a, b) as a value -/
  | rgv (a b : S)
  /-- a.x; a.m(es), a method that only reads; C(es) -/
  -- x (not) in range(h); list(range(l, h)), tuple(range(l, h))
  | inrg (neg : Bool) (x h : S) | lrg (tup one : Bool) (l h : S)
  | fld (a : S) (x : Str) | rmeth (m : Str) (k f : Nat) (a : S) (es : List S) | mk (f : Nat) (es : List S)
  /-- never come to -/
  | any

/-! ### operations on values -/
mutual
def toPy : D → PyData
  | .non => .none | .bl b => .bool b | .int i => .int i | .str x => .str x
  | .tup ds => .tuple (toPys ds) | .lst _ ds => .list (toPys ds) | .exc => .none | .rg _ _ => .none | .dct _ _ _ _ => .none | .obj _ _ _ _ => .none
def toPys : List D → List PyData
  | [] => []
  | d :: ds => toPy d :: toPys ds
end
mutual
/-- plain data of at most that depth -/
def dep : Nat → D → Bool
  | _, .non => true | _, .bl _ => true | _, .int _ => true | _, .str x => PyData.strOk x
  | 0, .tup _ => false | 0, .lst _ _ => false
  | n + 1, .tup ds => deps n ds | n + 1, .lst _ ds => deps n ds
  | _, .exc => false
  | _, .rg _ _ => false
  | _, .dct _ _ _ _ => false
  | _, .obj _ _ _ _ => false
def deps : Nat → List D → Bool
  | _, [] => true
  | n, d :: ds => dep n d && deps n ds
end
def deq (a b : D) : Bool := PyData.eqv (toPy a) (toPy b)
def flat : D → Bool
  | .non => true | .bl _ => true | .int _ => true | .str _ => true | _ => false
/-- the items of a list -/
def lstOf : D → Option (List D)
  | .lst .fr ds => some ds | .lst .lk ds => some ds | .lst .ow ds => some (frzs ds)
  | .lst .bo ds => if ds.all isF1 then some ds else none
  | _ => none
def tupOf : D → Option (List D)
  | .tup ds => some ds | _ => none
def chars (x : Str) : List D := x.cps.toList.map fun c => .str ⟨#[c]⟩
def seqOf (d : D) : Option (List D) :=
  match d with
  | .tup ds => some ds
  | d => lstOf d
/-- an owned list within a borrowed one -/
def kid : D → D
  | .lst .ow ds => .lst .bo ds
  | .dct .ow t ks vs => .dct .bo t ks vs
  | .obj .ow c ns ds => .obj .bo c ns ds
  | .obj .lk c ns ds => .obj .bo c ns ds
  | d => d
def lift {α : Type} : Option α → Re α
  | some a => .ok a
  | none => .st
@[simp] theorem lift_some {α : Type} (a : α) : lift (some a) = .ok a := rfl
@[simp] theorem lift_none {α : Type} : lift (none : Option α) = .st := rfl
def ok? {α : Type} (c : Bool) (a : α) : Re α := if c = true then .ok a else .st
@[simp] theorem ok?_true {α : Type} (a : α) : ok? true a = .ok a := rfl
@[simp] theorem ok?_false {α : Type} (a : α) : ok? false a = .st := rfl

def big64 : Int := 18446744073709551616
def mulOk (i j : Int) : Bool := (decide (-big64 < i) && decide (i < big64)) || (decide (-big64 < j) && decide (j < big64)) || decide (i.natAbs.log2 + j.natAbs.log2 < 1000000)
def p63 : Int := 9223372036854775808
def p62 : Int := 4611686018427387904
def evBin (op : Bop) (a b : D) : Re D :=
  match op, a, b with
  | .add, .int i, .int j => .ok (.int (i + j))
  | .sub, .int i, .int j => .ok (.int (i - j))
  | .mul, .int i, .int j => ok? (mulOk i j) (.int (i * j))
  | .div, .int i, .int j => if 0 < j then ok? (decide (j.natAbs.log2 < 9000)) (.int (i / j)) else ok? (decide (j ≠ 0) && decide (j.natAbs.log2 < 9000)) (.int (i.fdiv j))
  | .mod, .int i, .int j => if 0 < j then .ok (.int (i % j)) else ok? (decide (j ≠ 0)) (.int (i.fmod j))
  | .pow, .int i, .int j => ok? (decide (0 ≤ j) && decide (j ≤ 1000000) && decide (i.natAbs < 18446744073709551616)) (.int (i ^ j.toNat))
  | .add, .str x, .str y => ok? (decide (x.length + y.length ≤ sizeLine)) (.str (x ++ y))
  | .add, .tup xs, .tup ys => ok? (decide (xs.length + ys.length ≤ sizeLine)) (.tup (xs ++ ys))
  | .add, .lst o xs, .lst o' ys => if o = .lk ∨ o' = .lk then .st else lift (lstOf (.lst o xs)) >>= fun us => lift (lstOf (.lst o' ys)) >>= fun ws => ok? (decide (us.length + ws.length ≤ sizeLine)) (.lst .ow (us ++ ws))
  | .mul, .lst o xs, .int k => if o = .lk then .st else lift (lstOf (.lst o xs)) >>= fun us => ok? (decide (-p63 ≤ k) && decide (k < p63) && decide (us.length * k.toNat ≤ sizeLine)) (.lst .ow (List.replicate k.toNat us).flatten)
  | .mul, .tup xs, .int k => if 2 ≤ k then ok? (!xs.isEmpty && decide (2 ≤ k) && decide (k ≤ 1000) && decide (xs.length ≤ 1000)) (.tup (List.replicate k.toNat xs).flatten) else ok? (!xs.isEmpty && decide (-p63 ≤ k)) (if k = 1 then .tup xs else .tup [])
  | _, _, _ => .st
def evIn (x y : D) : Re Bool :=
  match seqOf y with
  | some ds => if flat x && ds.all flat then .ok (ds.any fun z => deq z x)
    else (match y with
      | .lst _ _ => ok? (dep 12 x && deps 12 ds) (ds.any fun z => deq z x)
      | .tup _ => ok? (dep 12 x && deps 12 ds) (ds.any fun z => deq z x)
      | _ => .st)
  | none => .st
def isLst : D → Bool
  | .lst _ _ => true
  | _ => false
def findD (y : D) : List D → Nat → Option Nat
  | [], _ => none
  | z :: zs, n => if deq z y then some n else findD y zs (n + 1)
/-! ### instances -/
def getF {α : Type} : List Str → List α → Str → Option α
  | n :: ns, d :: ds, x => if n = x then some d else getF ns ds x
  | _, _, _ => none
def putNs : List Str → Str → List Str
  | [], x => [x]
  | n :: ns, x => if n = x then n :: ns else n :: putNs ns x
def putA {α : Type} : List Str → List α → Str → α → List α
  | [], _, _, d => [d]
  | n :: ns, e :: es, x, d => if n = x then d :: es else e :: putA ns es x d
  | _ :: _, [], _, _ => []
def evFld (fl : List (Nat × Str)) (x : Str) : D → Re D
  | .obj .fr k ns ds => if fl.contains (k, x) then lift (getF ns ds x) else .st
  | .obj .bo k ns ds => if fl.contains (k, x) then lift (getF ns ds x) >>= fun d => .ok (kid d) else .st
  | _ => .st
/-- is it an instance of that class without an attribute of that name -/
def isInsM (k : Nat) (m : Str) : List D → Bool
  | .obj _ k' ns _ :: _ => decide (k' = k) && !ns.contains m
  | _ => false
/-- an object that may be written -/
def objOf : Option (Option D) → Option (Ow × Nat × List Str × List D)
  | some (some (.obj .ow k ns ds)) => some (.ow, k, ns, ds)
  | some (some (.obj .lk k ns ds)) => some (.lk, k, ns, ds)
  | _ => none
/-- x.index(y) -/
def evPos (x y : D) : Re D := match x with
  | .lst o ds => if dep 12 (.lst o ds) && dep 12 y then (match findD y ds 0 with
    | some j => .ok (.int (j : Nat))
    | none => .st) else .st
  | _ => .st
def evCmp (op : Cop) (a b : D) : Re D :=
  match op, a, b with
  | .lt, .int i, .int j => .ok (.bl (decide (i < j)))
  | .le, .int i, .int j => .ok (.bl (decide (i ≤ j)))
  | .gt, .int i, .int j => .ok (.bl (decide (j < i)))
  | .ge, .int i, .int j => .ok (.bl (decide (j ≤ i)))
  | .is, .non, .non => .ok (.bl true)
  | .is, .bl x, .bl y => .ok (.bl (decide (x = y)))
  | .is, _, .non => .ok (.bl false)
  | .nis, .non, .non => .ok (.bl false)
  | .nis, .bl x, .bl y => .ok (.bl (!decide (x = y)))
  | .nis, _, .non => .ok (.bl true)
  | .eq, a, b => ok? (dep 12 a && dep 12 b) (.bl (deq a b))
  | .ne, a, b => ok? (dep 12 a && dep 12 b) (.bl (!deq a b))
  | .isin, a, b => evIn a b >>= fun k => .ok (.bl k)
  | .nin, a, b => evIn a b >>= fun k => .ok (.bl (!k))
  | _, _, _ => .st
def evTru : D → Re Bool
  | .non => .ok false | .bl b => .ok b | .int i => .ok (i != 0)
  | .str x => ok? (decide (x.length ≤ sizeLine)) ((x.length : Int) != 0)
  | .tup ds => .ok !ds.isEmpty | .lst _ ds => .ok !ds.isEmpty | .exc => .st | .rg _ _ => .st | .dct _ _ _ _ => .st | .obj _ _ _ _ => .st
def evIx (a i : D) : Re D :=
  match a, i with
  | .tup ds, .int k => lift (atI ds k)
  | .lst .bo ds, .int k => lift (atI ds k) >>= fun d => .ok (kid d)
  | .lst _ ds, .int k => lift (atI ds k) >>= fun d => .ok (frz d)
  | .str x, .int k => lift (atI x.cps.toList k) >>= fun c => ok? (decide (x.length ≤ sizeLine)) (.str ⟨#[c]⟩)
  | _, _ => .st
def cutD (xs : List D) (lo hi : Option Int) : List D := (xs.drop (HT.sIx xs.length 0 lo)).take (HT.sIx xs.length xs.length hi - HT.sIx xs.length 0 lo)
def evSl (a : D) (lo hi : Option Int) : Re D :=
  match a with
  | .tup ds => .ok (.tup (cutD ds lo hi))
  | .lst o ds => lift (lstOf (.lst o ds)) >>= fun xs => .ok (.lst .ow (cutD xs lo hi))
  | _ => .st
def evRev (a : D) : Re D := match a with
  | .tup xs => .ok (.tup xs.reverse)
  | a => lift (lstOf a) >>= fun xs => .ok (.lst .ow xs.reverse)
def intsOf : List D → Option (List Int)
  | [] => some []
  | .int i :: ds => (intsOf ds).map (i :: ·)
  | _ :: _ => none
def blsOf : List D → Option (List Bool)
  | [] => some []
  | .bl i :: ds => (blsOf ds).map (i :: ·)
  | _ :: _ => none
/-- isinstance is asked of it -/
def noX1 : D → Bool
  | .exc => false
  | .rg _ _ => false
  | .dct _ _ _ _ => false
  | .obj _ _ _ _ => false
  | _ => true
def tyOf : D → Ty → Bool
  | .tup _, .tuple => true | .lst _ _, .list => true | .int _, .int => true | .bl _, .int => true | .bl _, .bool => true | .str _, .str => true
  | _, _ => false
/-- the least ascending arrangement of ints -/
def insI (x : Int) : List Int → List Int
  | [] => [x]
  | y :: ys => if x ≤ y then x :: y :: ys else y :: insI x ys
def sortI : List Int → List Int
  | [] => []
  | x :: xs => insI x (sortI xs)
/-- the order of data -/
def ltD (a b : D) : Bool := PySem.W.dataLt (toPy a) (toPy b)
def leD (a b : D) : Bool := !PySem.W.dataLt (toPy b) (toPy a)
def insD (x : D) : List D → List D
  | [] => [x]
  | y :: ys => if leD x y = true then x :: y :: ys else y :: insD x ys
def sortD : List D → List D
  | [] => []
  | x :: xs => insD x (sortD xs)
def isTupNE : D → Bool
  | .tup (_ :: _) => true
  | _ => false
def srtOk (xs : List D) : Bool := deps 12 xs && (xs.all isTupNE && xs.all fun x => xs.all fun y => PySem.W.alike (toPy x) (toPy y))
/-- sorted: ints, tuples -/
def srt1 (xs : List D) (o : Option (List Int)) : Re D := match o with
  | some ns => .ok (.lst .ow ((sortI ns).map .int))
  | none => if srtOk xs = true then .ok (.lst .ow (sortD xs)) else .st
def likeD (a b : D) : Bool := PySem.W.alike (toPy a) (toPy a) && PySem.W.alike (toPy a) (toPy b) && PySem.W.alike (toPy b) (toPy a) && PySem.W.alike (toPy b) (toPy b)
def evBlt (b : Blt) (as : List D) : Re D :=
  match b, as with
  | .len, [.str x] => ok? (decide (x.length ≤ sizeLine)) (.int x.length)
  | .len, [.tup ds] => .ok (.int ds.length)
  | .len, [.lst _ ds] => .ok (.int ds.length)
  | .sum, [d] => lift (lstOf d) >>= fun xs => lift (intsOf xs) >>= fun ns => .ok (.int ns.sum)
  | .all, [d] => lift (lstOf d) >>= fun xs => lift (blsOf xs) >>= fun ns => .ok (.bl (ns.all id))
  | .any, [d] => lift (lstOf d) >>= fun xs => lift (blsOf xs) >>= fun ns => .ok (.bl (ns.any id))
  | .tuple, [d] => lift (seqOf d) >>= fun xs => .ok (.tup xs)
  | .list, [.str x] => ok? (decide (x.length ≤ sizeLine)) (.lst .ow (chars x))
  | .list, [d] => lift (seqOf d) >>= fun xs => .ok (.lst .ow xs)
  | .int, [.int i] => .ok (.int i)
  | .int, [.bl k] => .ok (.int (if k then 1 else 0))
  | .abs, [.int i] => .ok (.int (if i < 0 then -i else i))
  | .min, [.int i, .int j] => .ok (.int (if j < i then j else i))
  | .min, [.tup a, .tup b] => ok? (dep 12 (.tup a) && dep 12 (.tup b) && likeD (.tup a) (.tup b)) (if ltD (.tup b) (.tup a) = true then .tup b else .tup a)
  | .max, [.int i, .int j] => .ok (.int (if j > i then j else i))
  | .sorted, [d] => lift (lstOf d) >>= fun xs => srt1 xs (intsOf xs)
  | .gcd, [.int i, .int j] => .ok (.int (Nat.gcd i.natAbs j.natAbs : Nat))
  | .inst t, [d] => ok? (noX1 d) (.bl (tyOf d t))
  | _, _ => .st

/-! ### dicts -/
/-- what a dict holds at a key -/
def getK : List D → List D → D → Option D
  | k :: ks, v :: vs, x => if deq k x then some v else getK ks vs x
  | _, _, _ => none
/-- in its place, or at the end -/
def putKs : List D → D → List D
  | [], x => [x]
  | k :: ks, x => if deq k x then k :: ks else k :: putKs ks x
def putVs : List D → List D → D → D → List D
  | [], _, _, y => [y]
  | k :: ks, v :: vs, x, y => if deq k x then y :: vs else v :: putVs ks vs x y
  | _ :: _, [], _, _ => []
def keyOk (t : Bool) (k : D) : Bool :=
  match t, k with
  | false, .int _ => true
  | false, .str _ => true
  | true, .tup ds => match toNs ds with
    | some ks => decide ((NestedKey.tup ks).depth ≤ 8)
    | none => false
  | _, _ => false
/-- is there a list within that may be written -/
def plainV (d : D) : Bool := isF1 d && (match d with | .lst .bo _ => false | .dct .bo _ _ _ => false | .lst .lk _ => false | .dct .lk _ _ _ => false | .obj _ _ _ _ => false | _ => true)
def mkDic (t : Bool) : List D → List D → List D → Option (List D × List D)
  | k :: v :: r, ks, vs => if keyOk t k && plainV v then mkDic t r (putKs ks k) (putVs ks vs k v) else none
  | [], ks, vs => some (ks, vs)
  | _, _, _ => none
def evDic (t : Bool) (ds : List D) : Re D := if ds.length ≤ 30 then lift (mkDic t ds [] []) >>= fun p => .ok (.dct .ow t p.1 p.2) else .st
def evDget (x y : D) : Re D :=
  match x with
  | .dct _ t ks vs => if keyOk t y then lift (getK ks vs y) else .st
  | _ => .st
def evDin (neg : Bool) (y x : D) : Re D :=
  match x with
  | .dct _ t ks vs => if keyOk t y then .ok (.bl (if neg then !(getK ks vs y).isSome else (getK ks vs y).isSome)) else .st
  | _ => .st
def evDgt (x y : D) : Re D :=
  match x with
  | .dct _ t ks vs => if keyOk t y then .ok ((getK ks vs y).getD .non) else .st
  | _ => .st
def evDlen : D → Re D
  | .dct _ _ ks _ => .ok (.int ks.length)
  | _ => .st
/-! ### slots -/
abbrev Rho := List (Option D)
/-- what is unpacked -/
def unpD : D → Option (List D)
  | .tup ds => some ds
  | .lst _ ds => if ds.all isF1 then some ds else none
  | _ => none
mutual
def setG : G → D → Rho → Option Rho
  | .nm i, d, ρ => some (ρ.set i (some d))
  | .tup gs, d, ρ => match unpD d with
    | some ds => setGs gs ds ρ
    | none => none
def setGs : List G → List D → Rho → Option Rho
  | [], [], ρ => some ρ
  | g :: gs, d :: ds, ρ => match setG g d ρ with
    | some ρ' => setGs gs ds ρ'
    | none => none
  | _, _, _ => none
end
def wipeR (ρ : Rho) : List Nat → Rho
  | [] => ρ
  | v :: vs => (wipeR ρ vs).set v none
/-- an argument as the callee sees it; whether the answer may hold it -/
def isBo : D → Bool
  | .lst .bo _ => true
  | .dct .bo _ _ _ => true
  | .obj .bo _ _ _ => true
  | _ => false
def argD : D → D
  | .lst .bo ds => .lst .fr (frzs ds)
  | .dct .bo t ks vs => .dct .fr t ks vs
  | .obj .bo c ns ds => .obj .fr c ns (frzs ds)
  | d => frz d
mutual
/-- no frozen list within -/
def clean : D → Bool
  | .lst .ow ds => cleans ds
  | .lst _ _ => false
  | .dct .ow _ ks vs => cleans ks && cleans vs
  | .dct _ _ _ _ => false
  | .obj .ow _ _ ds => cleans ds
  | .obj _ _ _ _ => false
  | .exc => false
  | .tup ds => cleans ds
  | _ => true
def cleans : List D → Bool
  | [] => true
  | d :: ds => clean d && cleans ds
end

/-- the context of an evaluation: the defs that are called, the error that an except suite holds -/
structure Cn where
  fs : List (List D → Re D)
  ce : Option Ec := none
  ecs : List Ec := []
  /-- classes and their attributes' names -/
  flds : List (Nat × Str) := []
  /-- defs that write into their first argument, an instance of the class: it and the other arguments; it as it is behind them -/
  ms : List (Nat × (List D → Re D)) := []
  /-- a def that writes into its first argument runs -/
  slf : Bool := false
/-- is an error of the class c one of the class b -/
def Ec.sub (c b : Ec) : Bool := decide (c = b) || decide (b = .base)
/-- what the elements of a comprehension make -/
def compOut (e : D) : Re D := if isBo e then .st else .ok e
def mapRe {α β : Type} (f : α → Re β) : List α → Re (List β)
  | [] => .ok []
  | a :: as => f a >>= fun b => mapRe f as >>= fun bs => .ok (b :: bs)
/-- an error within a comprehension's block is not carried -/
def noEr {α : Type} : Re α → Re α
  | .er _ => .st
  | r => r
/-- a made object -/
def mkD (bo : Bool) : D → Re D
  | .obj .lk k ns ds => ok? (!bo || cleans ds) (.obj .ow k ns ds)
  | _ => .st
def evMk (c : Cn) (f : Nat) (as : List D) : Re D :=
  match c.ms[f]? with
  | some (k, g) => g (.obj .lk k [] [] :: as.map argD) >>= mkD (as.any isBo)
  | none => .st
def evCall (c : Cn) (f : Nat) (ds : List D) : Re D :=
  match c.fs[f]? with
  | some g => if ds.any isBo then g (ds.map argD) >>= fun d => ok? (clean d) d else g (ds.map argD)
  | none => .st
def rangeD (lo hi : Int) : List D := (List.range (hi - lo).toNat).map fun (k : Nat) => .int (lo + k)
def rng3 (i j c : Int) : Option (List D) :=
  if c ≠ 0 ∧ c.natAbs < 1073741824 ∧ Builtin.Range.small i j c = true ∧ 0 ≤ Builtin.Range.rangeSize i j c then some ((List.range (Builtin.Range.rangeSize i j c).toNat).map fun (k : Nat) => .int (i + k * c)) else none
def evInrg (g : Bool) (x y : D) : Re D := match x, y with
  | .int i, .int j => .ok (.bl (if g then !(decide (0 ≤ i) && decide (i < j)) else (decide (0 ≤ i) && decide (i < j))))
  | _, _ => .st
def evLrg (g : Bool) (x y : D) : Re D := match x, y with
  | .int i, .int j => ok? (decide (-p62 ≤ i) && decide (i < p62) && decide (-p62 ≤ j) && decide (j < p62) && decide ((j - i).toNat ≤ 16777216)) (if g then .tup (rangeD i j) else .lst .ow (rangeD i j))
  | _, _ => .st
def evRgv (x y : D) : Re D := match x, y with
  | .int i, .int j => ok? (decide (-p62 ≤ i) && decide (i < p62) && decide (-p62 ≤ j) && decide (j < p62)) (.rg i j)
  | _, _ => .st
def enumD (ds : List D) : List D := ds.zipIdx.map fun (d, k) => .tup [.int (k : Nat), d]
def strLit : D → Option (List D)
  | .str x => if x.length ≤ sizeLine then some (chars x) else none
  | .rg i j => if decide (-p62 ≤ i) && decide (i < p62) && decide (-p62 ≤ j) && decide (j < p62) then some (rangeD i j) else none
  | d => seqOf d
/-- not a borrowed list where the loop's body may write -/
def isW (st : Bool) (d : D) : Bool := st && (match d with | .lst .bo _ => true | _ => false)
def zipD (xs ys : List D) : List D := (xs.zip ys).map fun (a, b) => .tup [a, b]

/-- a truth value -/
def asB : D → Re Bool
  | .bl k => .ok k
  | _ => .st
@[simp] theorem asB_bl (k : Bool) : asB (.bl k) = .ok k := rfl
def compTurn (m : Rho → Re (List D)) (t : Rho → Re Bool) (g : G) (ρ : Rho) (d : D) : Re (List D) :=
  lift (setG g d ρ) >>= fun ρ' => noEr (t ρ') >>= fun k => if k then noEr (m ρ') else .ok []

mutual
def ev (c : Cn) : S → Rho → Re D
  | .non, _ => .ok .non
  | .bl b, _ => .ok (.bl b)
  | .int i, _ => .ok (.int i)
  | .str x, _ => .ok (.str x)
  | .con _ d, _ => .ok d
  | .var i, ρ => match ρ[i]? with
    | some (some d) => .ok (kid d)
    | _ => .st
  | .tup es, ρ => evs c es ρ >>= fun ds => if ds.any isBo then .st else ok? (decide (ds.length ≤ sizeLine)) (.tup (frzs ds))
  | .lst es, ρ => evs c es ρ >>= fun ds => if ds.any isBo then .st else ok? (decide (ds.length ≤ sizeLine)) (.lst .ow ds)
  | .bin op a b, ρ => ev c a ρ >>= fun x => ev c b ρ >>= fun y => evBin op x y
  | .neg a, ρ => ev c a ρ >>= fun x => match x with
    | .int i => .ok (.int (-i))
    | _ => .st
  | .not a, ρ => ev c a ρ >>= fun x => match x with
    | .bl k => .ok (.bl !k)
    | _ => .st
  | .cmp op a b, ρ => ev c a ρ >>= fun x => ev c b ρ >>= fun y => evCmp op x y
  | .chn o1 o2 a b e, ρ => ev c a ρ >>= fun x => ev c b ρ >>= fun y => evCmp o1 x y >>= fun k => match k with
    | .bl true => ev c e ρ >>= fun z => evCmp o2 y z
    | .bl false => .ok (.bl false)
    | _ => .st
  | .and a b, ρ => ev c a ρ >>= fun x => match x with
    | .bl true => ev c b ρ
    | .bl false => .ok (.bl false)
    | _ => .st
  | .or a b, ρ => ev c a ρ >>= fun x => match x with
    | .bl true => .ok (.bl true)
    | .bl false => ev c b ρ
    | _ => .st
  | .ite t a b, ρ => ev c t ρ >>= fun x => match x with
    | .bl true => ev c a ρ
    | .bl false => ev c b ρ
    | _ => .st
  | .tru a, ρ => ev c a ρ >>= fun x => evTru x >>= fun k => .ok (.bl k)
  | .ix a i, ρ => ev c a ρ >>= fun x => ev c i ρ >>= fun y => evIx x y
  | .sl a lo hi, ρ => ev c a ρ >>= fun x => evO c lo ρ >>= fun l => evO c hi ρ >>= fun h => evSl x l h
  | .rev a, ρ => ev c a ρ >>= fun x => evRev x
  | .dic t es, ρ => evs c es ρ >>= fun ds => evDic t ds
  | .dget a i, ρ => ev c a ρ >>= fun x => ev c i ρ >>= fun y => evDget x y
  | .din g i a, ρ => ev c i ρ >>= fun y => ev c a ρ >>= fun x => evDin g y x
  | .dlen a, ρ => ev c a ρ >>= fun x => evDlen x
  | .dgt a i, ρ => ev c a ρ >>= fun x => ev c i ρ >>= fun y => evDgt x y
  | .call f es, ρ => evs c es ρ >>= fun ds => evCall c f ds
  | .blt b es, ρ => evs c es ρ >>= fun ds => evBlt b ds
  | .isE i b, ρ => match ρ[i]?, c.ce with
    | some (some .exc), some e => .ok (.bl (e.sub b))
    | _, _ => .st
  | .comp vs g it t e, ρ => evI c false it ρ >>= fun ds => mapRe (compTurn (fun ρ' => ev c e ρ' >>= fun d => compOut d >>= fun d => .ok [d]) (fun ρ' => ev c t ρ' >>= asB) g (wipeR ρ vs)) ds >>= fun xss =>
      ok? (decide (ds.length ≤ sizeLine)) (.lst .ow xss.flatten)
  | .comph vs g a t e, ρ => ev c a ρ >>= fun x => if isLst x = true then (if isW false x then .st else lift (strLit x)) >>= fun ds => mapRe (compTurn (fun ρ' => ev c e ρ' >>= fun d => compOut d >>= fun d => .ok [d]) (fun ρ' => ev c t ρ' >>= asB) g (wipeR ρ vs)) ds >>= fun xss =>
      ok? (decide (ds.length ≤ sizeLine)) (.lst .ow xss.flatten) else .st
  | .hlen a, ρ => ev c a ρ >>= fun x => evBlt .len [x]
  | .inrg g a b, ρ => ev c a ρ >>= fun x => ev c b ρ >>= fun y => evInrg g x y
  | .lrg g _ a b, ρ => ev c a ρ >>= fun x => ev c b ρ >>= fun y => evLrg g x y
  | .fld a x, ρ => ev c a ρ >>= fun d => evFld c.flds x d
  | .rmeth m k f a es, ρ => ev c a ρ >>= fun d => if isInsM k m [d] then evs c es ρ >>= fun ds => evCall c f (d :: ds) else .st
  | .mk f es, ρ => evs c es ρ >>= fun ds => evMk c f ds
  | .rgv a b, ρ => ev c a ρ >>= fun x => ev c b ρ >>= fun y => evRgv x y
  | .pos a e, ρ => ev c a ρ >>= fun x => if isLst x = true then ev c e ρ >>= fun y => evPos x y else .st
  | .comp2 vs vs1 g it t g1 it1 t1 e, ρ => evI c false it ρ >>= fun ds => mapRe (compTurn (fun ρ' => evI c true it1 ρ' >>= fun es => mapRe (compTurn (fun ρ2 => ev c e ρ2 >>= fun d => compOut d >>= fun d => .ok [d])
        (fun ρ2 => ev c t1 ρ2 >>= asB) g1 (wipeR ρ' vs1)) es >>= fun xss => .ok xss.flatten)
        (fun ρ' => ev c t ρ' >>= asB) g (wipeR ρ vs)) ds >>= fun xss =>
      ok? (decide (xss.flatten.length ≤ sizeLine)) (.lst .ow xss.flatten)
  | .dcomp t vs g it tc k e, ρ => evI c false it ρ >>= fun ds => mapRe (compTurn (fun ρ' => ev c k ρ' >>= fun x => ev c e ρ' >>= fun y => .ok [x, y]) (fun ρ' => ev c tc ρ' >>= asB) g (wipeR ρ vs)) ds >>= fun xss =>
      if ds.length < sizeLine then lift (mkDic t xss.flatten [] []) >>= fun p => .ok (.dct .ow t p.1 p.2) else .st
  | _, _ => .st
def evs (c : Cn) : List S → Rho → Re (List D)
  | [], _ => .ok []
  | e :: es, ρ => ev c e ρ >>= fun d => evs c es ρ >>= fun ds => .ok (d :: ds)
def evO (c : Cn) : Option S → Rho → Re (Option Int)
  | none, _ => .ok none
  | some e, ρ => ev c e ρ >>= fun x => match x with
    | .int i => .ok (some i)
    | _ => .st
/-- the things that are walked -/
def evI (c : Cn) (st : Bool) : S → Rho → Re (List D)
  | .iseq a, ρ => ev c a ρ >>= fun d => if isW st d then .st else lift (strLit d)
  | .irng a b, ρ => ev c a ρ >>= fun x => ev c b ρ >>= fun y => match x, y with
    | .int i, .int j => ok? (decide (-p62 ≤ i) && decide (i < p62) && decide (-p62 ≤ j) && decide (j < p62)) (rangeD i j)
    | _, _ => .st
  | .irng3 a b d, ρ => ev c a ρ >>= fun x => ev c b ρ >>= fun y => ev c d ρ >>= fun z => match x, y, z with
    | .int i, .int j, .int k => lift (rng3 i j k)
    | _, _, _ => .st
  | .ienum a, ρ => ev c a ρ >>= fun d => if isW st d then .st else lift (seqOf d) >>= fun ds => .ok (enumD ds)
  | .izip a b, ρ => ev c a ρ >>= fun x => ev c b ρ >>= fun y => if isW st x || isW st y then .st else match x, y with
    | .tup xs, .tup ys => .ok (zipD xs ys)
    | .lst o xs, .lst o' ys => lift (lstOf (.lst o xs)) >>= fun us => lift (lstOf (.lst o' ys)) >>= fun ws => .ok (zipD us ws)
    | _, _ => .st
  | .irev a, ρ => ev c a ρ >>= fun d => if isW st d then .st else lift (seqOf d) >>= fun ds => .ok ds.reverse
  | _, _ => .st
end

/-! ## 4. Statements -/
inductive T where
  | pass
  | asg (g : G) (e : S)
  | par (is : List Nat) (es : List S)
  | aug (i : Nat) (op : Bop) (e : S)
  | seti (x : Nat) (i e : S) | seti2 (x : Nat) (i j e : S)
  | augi (x : Nat) (i : S) (op : Bop) (e : S)
  | app (x : Nat) (e : S)
  | apop (i x : Nat)
  | expr (e : S)
  | ret (e : S) | retN | rmv (x : Nat)
  | ifs (t : S) (a b : List T)
  | «for» (g : G) (it : S) (b : List T)
  | whl (t : S) (b : List T)
  | brk | cont
  | rais (c : Ec)
  | tr (b : List T) (hs : List (Ec × Option Nat × List T))
  | fz (xs : List Nat)
  /-- for y in x: y[i] = e -/
  | fset (x y : Nat) (i e : S)
  /-- d[k] = e -/
  | dput (x : Nat) (k e : S)
  /-- i op= x.pop()[j] -/
  | augpop (i : Nat) (op : Bop) (x : Nat) (j : Int)
  /-- x.f = e, x.f[i] = e, x.f.append(e), return x.f -/
  | oset (x : Nat) (f : Str) (e : S) | oseti (x : Nat) (f : Str) (i e : S) | oapp (x : Nat) (f : Str) (e : S) | rfld (x : Nat) (f : Str)
  /-- x.m(es), f(x, es), x changed -/
  | meth (x : Nat) (m : Str) (f : Nat) (es : List S) | ofn (x : Nat) (f : Nat) (es : List S)
  /-- return, the slots stay -/
  | retk
  /-- never come to -/
  | any
/-- how a statement ends -/
inductive Out where
  | nx (ρ : Rho) | rt (d : D) | bk (ρ : Rho) | ct (ρ : Rho) | er (c : Ec) (ρ : Rho) | rk (ρ : Rho) | st
def Out.of {α : Type} (r : Re α) (ρ : Rho) (f : α → Out) : Out :=
  match r with
  | .ok a => f a
  | .er c => .er c ρ
  | .st => .st
@[simp] theorem of_ok {α : Type} (a : α) (ρ : Rho) (f : α → Out) : Out.of (.ok a) ρ f = f a := rfl
@[simp] theorem of_er {α : Type} (c : Ec) (ρ : Rho) (f : α → Out) : Out.of (.er c) ρ f = .er c ρ := rfl
@[simp] theorem of_st {α : Type} (ρ : Rho) (f : α → Out) : Out.of .st ρ f = .st := rfl
def Out.seq (o : Out) (f : Rho → Out) : Out :=
  match o with
  | .nx ρ => f ρ
  | o => o
@[simp] theorem seq_nx (ρ : Rho) (f : Rho → Out) : (Out.nx ρ).seq f = f ρ := rfl
@[simp] theorem seq_rt (d : D) (f : Rho → Out) : (Out.rt d).seq f = .rt d := rfl
@[simp] theorem seq_bk (ρ : Rho) (f : Rho → Out) : (Out.bk ρ).seq f = .bk ρ := rfl
@[simp] theorem seq_ct (ρ : Rho) (f : Rho → Out) : (Out.ct ρ).seq f = .ct ρ := rfl
@[simp] theorem seq_er (c : Ec) (ρ : Rho) (f : Rho → Out) : (Out.er c ρ).seq f = .er c ρ := rfl
@[simp] theorem seq_rk (ρ : Rho) (f : Rho → Out) : (Out.rk ρ).seq f = .rk ρ := rfl
@[simp] theorem seq_st (f : Rho → Out) : Out.st.seq f = .st := rfl
/-- the slots' own lists frozen -/
def frzR (ρ : Rho) : List Nat → Rho
  | [] => ρ
  | x :: xs => match (frzR ρ xs)[x]? with
    | some (some d) => (frzR ρ xs).set x (some (frz d))
    | _ => frzR ρ xs
mutual
/-- no error is held within -/
def noX : D → Bool
  | .exc => false
  | .tup ds => noXs ds
  | .lst _ ds => noXs ds
  | .dct _ _ ks vs => noXs ks && noXs vs
  | .obj _ _ _ ds => noXs ds
  | .rg _ _ => true
  | .non => true | .bl _ => true | .int _ => true | .str _ => true
def noXs : List D → Bool
  | [] => true
  | d :: ds => noX d && noXs ds
end
def unX (ρ : Rho) : Rho := ρ.map fun o => match o with
  | some d => if noX d then some d else none
  | none => none
/-- a for over the items -/
def forD (f : D → Rho → Out) : List D → Rho → Out
  | [], ρ => .nx ρ
  | d :: ds, ρ => match f d ρ with
    | .nx ρ' => forD f ds ρ'
    | .ct ρ' => forD f ds ρ'
    | .bk ρ' => .nx ρ'
    | o => o
/-- a while, at most n turns -/
def whlD (t : Rho → Re Bool) (f : Rho → Out) : Nat → Rho → Out
  | 0, _ => .st
  | n + 1, ρ => Out.of (t ρ) ρ fun k => if k then (match f ρ with
    | .nx ρ' => whlD t f n ρ'
    | .ct ρ' => whlD t f n ρ'
    | .bk ρ' => .nx ρ'
    | o => o) else .nx ρ
/-- op= of ints -/
def evAug (op : Bop) (a b : Int) : Re D :=
  match op with
  | .add => .ok (.int (a + b))
  | .sub => .ok (.int (a - b))
  | .mul => ok? ((decide (-big64 < a) && decide (a < big64)) || (decide (-big64 < b) && decide (b < big64))) (.int (a * b))
  | .mod => ok? (decide (0 < b)) (.int (a % b))
  | .div => ok? (decide (0 < b) && decide (b < 1073741824)) (.int (a / b))
  | _ => .st
/-- xs[k] for an int k from 0 on, that list's own item -/
def atII (xs : List D) : D → Option D
  | .int k => if 0 ≤ k ∧ k < p63 then atI xs k else none
  | _ => none
def setI (xs : List D) (i d : D) : Option (List D) :=
  match i with
  | .int k => (ixN xs.length k).map fun j => xs.set j d
  | _ => none
def setD (xs : List D) (k : Int) (d : D) : Option (List D) := (ixN xs.length k).map fun j => xs.set j d
def evT (c : Cn) (t : S) (ρ : Rho) : Re Bool := ev c t ρ >>= asB
def setAll : List Nat → List D → Rho → Option Rho
  | [], [], ρ => some ρ
  | i :: is, d :: ds, ρ => if isBo d then none else setAll is ds (ρ.set i (some d))
  | _, _, _ => none
/-- i op= x.pop()[j] -/
def augpopD (op : Bop) (i x : Nat) (j : Int) (ρ : Rho) (xs : List D) (a : Int) : Out := match xs[xs.length - 1]? with
  | some (.tup ys) => (match atI ys j with
    | some (.int b) => if i ≠ x then Out.of (evAug op a b) ρ fun d' => .nx ((ρ.set x (some (.lst .ow xs.dropLast))).set i (some d')) else .st
    | _ => .st)
  | _ => .st
/-- y[i] = e, the item moved into y -/
def fsItem (c : Cn) (y : Nat) (i e : S) (ρ : Rho) (d : D) : Re D :=
  match d with
  | .lst .ow ys => noEr (ev c e (ρ.set y (some d))) >>= fun u => noEr (ev c i (ρ.set y (some d))) >>= fun k => if isF1 u && !isBo u then lift (setI ys k u) >>= fun zs => .ok (.lst .ow zs) else .st
  | _ => .st
/-- behind a call that writes into slot x -/
def mtD (x : Nat) (o : Ow) (ρ : Rho) : Re D → Out
  | .ok (.obj .lk k ns ds) => .nx (ρ.set x (some (.obj o k ns ds)))
  | .er e => .er e (ρ.set x none)
  | _ => .st
mutual
def ex (c : Cn) (n : Nat) : T → Rho → Out
  | .pass, ρ => .nx ρ
  | .asg g e, ρ => Out.of (ev c e ρ) ρ fun d => if isBo d then .st else Out.of (lift (setG g d ρ)) ρ fun ρ' => .nx ρ'
  | .par is es, ρ => Out.of (evs c es ρ) ρ fun ds => Out.of (lift (setAll is ds ρ)) ρ fun ρ' => .nx ρ'
  | .aug i op e, ρ => match ρ[i]? with
    | some (some (.int a)) => Out.of (ev c e ρ) ρ fun d => (match d with
      | .int b => Out.of (evAug op a b) ρ fun d' => .nx (ρ.set i (some d'))
      | _ => .st)
    | _ => .st
  | .seti x i e, ρ => Out.of (ev c e ρ) ρ fun d => if isBo d then .st else (match ρ[x]? with
    | some (some (.lst .ow xs)) => Out.of (ev c i ρ) ρ fun k => Out.of (lift (setI xs k d)) ρ fun ys => .nx (ρ.set x (some (.lst .ow ys)))
    | _ => .st)
  | .seti2 x i j e, ρ => Out.of (ev c e ρ) ρ fun d => if isBo d then .st else (match ρ[x]? with
    | some (some (.lst .ow xs)) => Out.of (ev c i ρ) ρ fun k => (match atII xs k with
      | some (.lst .ow ys) => Out.of (ev c j ρ) ρ fun l => Out.of (lift (setI ys l d)) ρ fun zs => Out.of (lift (setI xs k (.lst .ow zs))) ρ fun xs' => .nx (ρ.set x (some (.lst .ow xs')))
      | _ => .st)
    | _ => .st)
  | .augi x i op e, ρ => match ρ[x]? with
    | some (some (.lst .ow xs)) => Out.of (ev c i ρ) ρ fun k => (match atII xs k with
      | some (.int a) => Out.of (ev c e ρ) ρ fun d => (match d with
        | .int b => Out.of (evAug op a b) ρ fun d' => Out.of (lift (setI xs k d')) ρ fun ys => .nx (ρ.set x (some (.lst .ow ys)))
        | _ => .st)
      | _ => .st)
    | _ => .st
  | .app x e, ρ => match ρ[x]? with
    | some (some (.lst .ow xs)) => Out.of (ev c e ρ) ρ fun d => if isBo d then .st else if xs.length < sizeLine then .nx (ρ.set x (some (.lst .ow (xs ++ [d])))) else .st
    | _ => .st
  | .apop i x, ρ => match ρ[x]? with
    | some (some (.lst .ow xs)) => (match xs[xs.length - 1]? with
      | some d => if isF1 d && decide (i ≠ x) then .nx ((ρ.set x (some (.lst .ow xs.dropLast))).set i (some d)) else .st
      | none => .st)
    | _ => .st
  | .augpop i op x j, ρ => match ρ[i]?, ρ[x]? with
    | some (some (.int a)), some (some (.lst .ow xs)) => augpopD op i x j ρ xs a
    | _, _ => .st
  | .expr e, ρ => Out.of (ev c e ρ) ρ fun _ => .nx ρ
  | .ret e, ρ => Out.of (ev c e ρ) ρ fun d => if isBo d then .st else .rt d
  | .retN, _ => .rt .non
  | .rmv x, ρ => match ρ[x]? with
    | some (some d) => .rt d
    | _ => .st
  | .ifs t a b, ρ => Out.of (evT c t ρ) ρ fun k => if k then exs c n a ρ else exs c n b ρ
  | .for g it b, ρ => Out.of (evI c true it ρ) ρ fun ds => forD (fun d ρ => Out.of (lift (setG g d ρ)) ρ fun ρ' => exs c n b ρ') ds ρ
  | .whl t b, ρ => whlD (evT c t) (exs c n b) n ρ
  | .brk, ρ => .bk ρ
  | .cont, ρ => .ct ρ
  | .rais e, ρ => .er e ρ
  | .tr b hs, ρ => match exs c n b ρ with
    | .er e ρ' => exh c n e hs ρ'
    | o => o
  | .fz xs, ρ => .nx (frzR ρ xs)
  | .any, _ => .st
  | .retk, ρ => .rk ρ
  | .oset x f e, ρ => Out.of (ev c e ρ) ρ fun d => if isBo d then .st else (match objOf ρ[x]? with
    | some (o, k, ns, ds) => if c.flds.contains (k, f) && decide (ns.length < 1000) then .nx (ρ.set x (some (.obj o k (putNs ns f) (putA ns ds f d)))) else .st
    | none => .st)
  | .oseti x f i e, ρ => Out.of (ev c e ρ) ρ fun d => if isBo d then .st else (match objOf ρ[x]? with
    | some (o, k, ns, ds) => if c.flds.contains (k, f) then (match getF ns ds f with
      | some (.lst .ow xs) => Out.of (ev c i ρ) ρ fun l => Out.of (lift (setI xs l d)) ρ fun ys => .nx (ρ.set x (some (.obj o k ns (putA ns ds f (.lst .ow ys)))))
      | _ => .st) else .st
    | none => .st)
  | .oapp x f e, ρ => match objOf ρ[x]? with
    | some (o, k, ns, ds) => if c.flds.contains (k, f) then (match getF ns ds f with
      | some (.lst .ow xs) => Out.of (ev c e ρ) ρ fun d => if isBo d then .st else if xs.length < sizeLine then .nx (ρ.set x (some (.obj o k ns (putA ns ds f (.lst .ow (xs ++ [d])))))) else .st
      | _ => .st) else .st
    | none => .st
  | .rfld x f, ρ => match objOf ρ[x]? with
    | some (_, k, ns, ds) => if c.flds.contains (k, f) then (match getF ns ds f with
      | some d => .rt d
      | none => .st) else .st
    | none => .st
  | .meth x m f es, ρ => match objOf ρ[x]?, c.ms[f]? with
    | some (o, k, ns, ds), some (k', g) => if decide (k' = k) && !ns.contains m && (decide (o = .lk) || !c.slf) then Out.of (evs c es ρ) ρ fun as => if as.any isBo then .st else mtD x o ρ (g (.obj .lk k ns ds :: as.map argD)) else .st
    | _, _ => .st
  | .ofn x f es, ρ => match objOf ρ[x]?, c.ms[f]? with
    | some (o, k, ns, ds), some (_, g) => if (decide (o = .lk) || !c.slf) = true then Out.of (evs c es ρ) ρ fun as => if as.any isBo then .st else mtD x o ρ (g (.obj .lk k ns ds :: as.map argD)) else .st
    | _, _ => .st
  | .dput x i e, ρ => Out.of (ev c e ρ) ρ fun d => if plainV d then (match ρ[x]? with
    | some (some (.dct .ow t ks vs)) => Out.of (ev c i ρ) ρ fun k => if keyOk t k && decide (ks.length < sizeLine) then .nx (ρ.set x (some (.dct .ow t (putKs ks k) (putVs ks vs k d)))) else .st
    | _ => .st) else .st
  | .fset x y i e, ρ => match ρ[x]? with
    | some (some (.lst .ow xs)) => if x = y ∨ ρ.length ≤ y then .st else Out.of (mapRe (fsItem c y i e (ρ.set x none)) xs) ρ fun ys => .nx ((ρ.set x (some (.lst .ow ys))).set y none)
    | _ => .st
def exs (c : Cn) (n : Nat) : List T → Rho → Out
  | [], ρ => .nx ρ
  | t :: ts, ρ => (ex c n t ρ).seq fun ρ' => exs c n ts ρ'
def exh (c : Cn) (n : Nat) (e : Ec) : List (Ec × Option Nat × List T) → Rho → Out
  | [], ρ => .er e ρ
  | (b, x, ts) :: hs, ρ => if c.ecs.contains e then (if e.sub b then (match x with
      | some i => (match exs { c with ce := some e } n ts (ρ.set i (some .exc)) with
        | .nx ρ' => .nx ((unX ρ').set i none)
        | .rt d => if noX d then .rt d else .st
        | _ => .st)
      | none => (match exs c n ts ρ with
        | .nx ρ' => .nx ρ'
        | .rt d => .rt d
        | _ => .st)) else exh c n e hs ρ) else .st
end
/-- a def's answer -/
def run (c : Cn) (n : Nat) (k : Nat) (b : List T) (as : List D) : Re D :=
  match exs c n b (as.map some ++ List.replicate k none) with
  | .nx _ => .ok .non
  | .rt d => .ok d
  | .er e _ => .er e
  | _ => .st
def selfOut (ρ : Rho) : Re D := match ρ[(0 : Nat)]? with
  | some (some (.obj .lk k ns ds)) => .ok (.obj .lk k ns ds)
  | _ => .st
/-- .. of a def that writes into its first argument -/
def runM (c : Cn) (n : Nat) (k : Nat) (b : List T) (as : List D) : Re D :=
  match exs c n b (as.map some ++ List.replicate k none) with
  | .nx ρ => selfOut ρ
  | .rk ρ => selfOut ρ
  | .er e _ => .er e
  | _ => .st
end Ds

namespace Ds
open PySem PySem.Spec PyProof.Rows L2

/-! ## 5. Readings -/
def Aft {α : Type} (r : Re α) (p : α → Prop) (q : Ec → Prop) : Prop :=
  match r with
  | .ok a => p a
  | .er e => q e
  | .st => False
theorem aft_bind {α β : Type} {r : Re α} {f : α → Re β} {p : β → Prop} {q : Ec → Prop} : Aft (r >>= f) p q = Aft r (fun a => Aft (f a) p q) q := by
  cases r <;> rfl
theorem Aft.imp {α : Type} {r : Re α} {p p' : α → Prop} {q q' : Ec → Prop} (h : Aft r p q) (hp : ∀ a, p a → p' a) (hq : ∀ e, q e → q' e) : Aft r p' q' := by
  cases r with
  | ok a => exact hp a h
  | er e => exact hq e h
  | st => exact h
theorem aft_lift {α : Type} {o : Option α} {p : α → Prop} {q : Ec → Prop} (h : Aft (lift o) p q) : ∃ a, o = some a ∧ p a := by
  cases o with
  | none => exact h.elim
  | some a => exact ⟨a, rfl, h⟩
theorem aft_ok? {α : Type} {c : Bool} {a : α} {p : α → Prop} {q : Ec → Prop} (h : Aft (ok? c a) p q) : c = true ∧ p a := by
  cases c with
  | false => exact h.elim
  | true => exact ⟨rfl, h⟩

structure Lx where
  K : Kx
  ea : Ec → Addr
  c : Cn
section
variable (L : Lx) (Wx : WX)
/-- an answer is handed on -/
def OkE (H : Hp) (W : Addr → Prop) (Q : VK) (d : D) : Prop := ∀ H' v bs, Same H H' → E L.K H' (plus W bs) d v bs → Fresh H bs → bs.Nodup → Q v H'
def OkO (H : Hp) (W : Addr → Prop) (Q : VK) (d : D) : Prop := ∀ H' v bs, Same H H' → O L.K H' (plus W bs) d v bs → Fresh H bs → bs.Nodup → Q v H'
def OkEs (H : Hp) (W : Addr → Prop) (Q : List V → Hp → Prop) (ds : List D) : Prop := ∀ H' vs bs, Same H H' → Es L.K H' (plus W bs) ds vs bs → Fresh H bs → bs.Nodup → Q vs H'
def ErE (σ : L2.St) (H : Hp) (e : Ec) : Prop := ∀ H', Same H H' → Wx (.ref (L.ea e)) none σ H'
def tE (s : S) : TE := fun σ H Q => ∃ ρ as W, Sl L.K H W ρ σ as ∧ Wok H W ∧ Aft (ev L.c s ρ) (OkE L H W Q) (ErE L Wx σ H)
def tEs (s : List S) : TA := fun σ H Q => ∃ ρ as W, Sl L.K H W ρ σ as ∧ Wok H W ∧ Aft (evs L.c s ρ) (OkEs L H W Q) (ErE L Wx σ H)
def tT (s : S) : TT := fun σ H Q => ∃ ρ as W, Sl L.K H W ρ σ as ∧ Wok H W ∧ Aft (evT L.c s ρ) (fun k => ∀ H', Same H H' → Q k H') (ErE L Wx σ H)
def tO (s : Option S) : TO := fun σ H Q => ∃ ρ as W, Sl L.K H W ρ σ as ∧ Wok H W ∧ Aft (evO L.c s ρ) (fun k => ∀ H', Same H H' → Q k H') (ErE L Wx σ H)
end
section
variable {L : Lx} {Wx : WX} {K : Kx} {H H' : Hp} {W W' : Addr → Prop} {ρ : Rho} {σ : L2.St} {as bs : List Addr}
theorem plus_sub {W : Addr → Prop} {bs : List Addr} {a : Addr} (h : W a) : plus W bs a := .inl h
theorem Wok.same (s : Same H H') (w : Wok H W) : Wok H' W := fun a q => let ⟨vs, e, z⟩ := w a q; ⟨vs, s _ _ e, z⟩
theorem Wok.plus (w : Wok H W) (h : ∀ b ∈ bs, ∃ o, H b = some o ∧ Wr o) : Wok H (plus W bs) := fun a q => q.elim (w a) (h a)
theorem fresh_no (w : Wok H W) (f : Fresh H bs) : ∀ b ∈ bs, ¬ W b := fun b m q => by
  obtain ⟨vs, e, _⟩ := w b q
  rw [f b m] at e
  cases e
theorem plus_new (f : Fresh H bs) : ∀ a, plus W bs a → W a ∨ H a = none := fun a q => q.elim .inl fun m => .inr (f a m)
theorem same_upd {p : Addr} {o : HO} (n : H p = none) : Same H (upd H p o) := fun b u e => by rw [upd_ne (ne_of_none e n)]; exact e
theorem Fresh.same (s : Same H H') (f : Fresh H' bs) : Fresh H bs := fun b m => s.free (f b m)
theorem Sl.plus (h : Sl K H W ρ σ as) (s : Same H H') (f : Fresh H bs) : Sl K H' (plus W bs) ρ σ as := h.same s (plus_new f)

theorem tE_go {s : S} {Q : VK} (e : Sl L.K H W ρ σ as) (w : Wok H W)
    (h : Aft (ev L.c s ρ) (fun d => ∀ H' v bs, Same H H' → E L.K H' (plus W bs) d v bs → Fresh H bs → bs.Nodup → Sl L.K H' (plus W bs) ρ σ as → Wok H' (plus W bs) → Q v H') (ErE L Wx σ H)) : tE L Wx s σ H Q :=
  ⟨ρ, as, W, e, w, h.imp (fun d k H' v bs sm r f n => k H' v bs sm r f n (e.plus sm f) ((w.same sm).plus r.there)) fun _ q => q⟩
theorem tEs_go {s : List S} {Q : List V → Hp → Prop} (e : Sl L.K H W ρ σ as) (w : Wok H W)
    (h : Aft (evs L.c s ρ) (fun d => ∀ H' v bs, Same H H' → Es L.K H' (plus W bs) d v bs → Fresh H bs → bs.Nodup → Sl L.K H' (plus W bs) ρ σ as → Wok H' (plus W bs) → Q v H') (ErE L Wx σ H)) : tEs L Wx s σ H Q :=
  ⟨ρ, as, W, e, w, h.imp (fun d k H' v bs sm r f n => k H' v bs sm r f n (e.plus sm f) ((w.same sm).plus r.there)) fun _ q => q⟩
theorem tT_go {s : S} {Q : Bool → Hp → Prop} (e : Sl L.K H W ρ σ as) (w : Wok H W)
    (h : Aft (evT L.c s ρ) (fun k => ∀ H', Same H H' → Sl L.K H' W ρ σ as → Wok H' W → Q k H') (ErE L Wx σ H)) : tT L Wx s σ H Q :=
  ⟨ρ, as, W, e, w, h.imp (fun d k H' sm => k H' sm (e.same sm fun _ q => .inl q) (w.same sm)) fun _ q => q⟩
theorem tO_go {s : Option S} {Q : Option Int → Hp → Prop} (e : Sl L.K H W ρ σ as) (w : Wok H W)
    (h : Aft (evO L.c s ρ) (fun k => ∀ H', Same H H' → Sl L.K H' W ρ σ as → Wok H' W → Q k H') (ErE L Wx σ H)) : tO L Wx s σ H Q :=
  ⟨ρ, as, W, e, w, h.imp (fun d k H' sm => k H' sm (e.same sm fun _ q => .inl q) (w.same sm)) fun _ q => q⟩
theorem ErE.after {e : Ec} (q : ErE L Wx σ H e) (s : Same H H') : ErE L Wx σ H' e := fun H2 s2 => q H2 (s.trans s2)
end

/-! ### inversions -/
section
variable {K : Kx} {H H' : Hp} {W W' : Addr → Prop} {v : V} {bs : List Addr}
theorem E.sub (s : Same H H') {d : D} (w : ∀ a, W' a → W a) (h : E K H W d v bs) : E K H' W' d v bs := h.keep s fun a q => .inl (w a q)
theorem E.i {i : Int} (h : E K H W (.int i) v bs) : v = .int i ∧ bs = [] := by
  cases h with
  | o h => cases h with
    | fz h => cases h with
      | int => exact ⟨rfl, rfl⟩
theorem E.b {i : Bool} (h : E K H W (.bl i) v bs) : v = .bl i ∧ bs = [] := by
  cases h with
  | o h => cases h with
    | fz h => cases h with
      | bl => exact ⟨rfl, rfl⟩
theorem E.s {i : Str} (h : E K H W (.str i) v bs) : v = .str i ∧ bs = [] := by
  cases h with
  | o h => cases h with
    | fz h => cases h with
      | str => exact ⟨rfl, rfl⟩
theorem E.n (h : E K H W .non v bs) : v = .non ∧ bs = [] := by
  cases h with
  | o h => cases h with
    | fz h => cases h with
      | non => exact ⟨rfl, rfl⟩
theorem F.t {ds : List D} (h : F K H W (.tup ds) v) : ∃ a vs, v = .ref a ∧ SqT K.k H a vs ∧ vs.length ≤ sizeLine ∧ Fs K H W ds vs := by
  cases h with
  | tup h n z r => exact ⟨_, _, rfl, .inl h, z, r⟩
  | tupK l c q z v r => exact ⟨_, _, rfl, .inr ⟨_, _, _, l, c, q, z, v⟩, by rw [v.length]; exact z, r⟩
theorem E.t {ds : List D} (h : E K H W (.tup ds) v bs) : ∃ a vs, v = .ref a ∧ SqT K.k H a vs ∧ vs.length ≤ sizeLine ∧ Fs K H W ds vs ∧ bs = [] := by
  cases h with
  | o h => cases h with
    | fz h =>
      obtain ⟨a, vs, e, q, z, r⟩ := h.t
      exact ⟨a, vs, e, q, z, r, rfl⟩
/-- a list as it is read -/
theorem E.l {o : Ow} {ds : List D} (hb : ∀ b ∈ bs, ¬ W b) (h : E K H (plus W bs) (.lst o ds) v bs) : ∃ a vs, v = .ref a ∧ SqL K.k H a vs ∧ vs.length ≤ sizeLine ∧ ds.length = vs.length ∧ (o ≠ .lk → H a = some (.lst vs)) ∧
    ∀ xs, lstOf (.lst o ds) = some xs → Fs K H W xs vs := by
  cases h with
  | o h =>
    cases h with
    | fz h =>
      cases h with
      | lst h n z r =>
        refine ⟨_, _, rfl, SqL.of h, z, r.length, fun _ => h, fun xs e => ?_⟩
        simp only [lstOf, Option.some.injEq] at e
        subst e
        exact r.keep (fun _ _ q _ => q) fun a q => .inl (.inl q)
      | lkK l c dn q z v r =>
        refine ⟨_, _, rfl, .inr ⟨_, _, _, l, c, dn, q, z, v⟩, by rw [v.length]; exact z, r.length, fun n => absurd rfl n, fun xs e => ?_⟩
        simp only [lstOf, Option.some.injEq] at e
        subst e
        exact r.keep (fun _ _ q _ => q) fun a q => .inl (.inl q)
      | lk h n z r =>
        refine ⟨_, _, rfl, .inl (.inr ⟨_, h⟩), z, r.length, fun n => absurd rfl n, fun xs e => ?_⟩
        simp only [lstOf, Option.some.injEq] at e
        subst e
        exact r.keep (fun _ _ q _ => q) fun a q => .inl (.inl q)
    | ow h z r =>
      refine ⟨_, _, rfl, SqL.of h, z, r.length, fun _ => h, fun xs e => ?_⟩
      simp only [lstOf, Option.some.injEq] at e
      subst e
      exact r.frz (fun a q => .inl q) fun a m => hb a (List.mem_cons_of_mem _ m)
  | bo h z r =>
    refine ⟨_, _, rfl, SqL.of h, z, r.length, fun _ => h, fun xs e => ?_⟩
    simp only [lstOf] at e
    split at e
    · rename_i f
      cases e
      exact (r.allF f).1.keep (fun _ _ q _ => q) fun a q => .inl (.inl q)
    · cases e
/-- what may be walked or copied -/
theorem E.seq {d : D} {xs : List D} (hb : ∀ b ∈ bs, ¬ W b) (h : E K H (plus W bs) d v bs) (e : seqOf d = some xs) : ∃ a vs, v = .ref a ∧ vs.length ≤ sizeLine ∧ Fs K H W xs vs ∧
    ((∃ o ds, d = .lst o ds ∧ lstOf d = some xs ∧ SqL K.k H a vs) ∨ ∃ ds, d = .tup ds ∧ xs = ds ∧ SqT K.k H a vs) := by
  cases d with
  | tup ds =>
    simp only [seqOf, Option.some.injEq] at e
    subst e
    obtain ⟨a, vs, e, q, z, r, e2⟩ := h.t
    exact ⟨a, vs, e, z, r.keep (fun _ _ q _ => q) (fun a q => .inl (.inl q)), .inr ⟨_, rfl, rfl, q⟩⟩
  | lst o ds =>
    simp only [seqOf] at e
    obtain ⟨a, vs, e1, q, z, _, _, k⟩ := E.l hb h
    exact ⟨a, vs, e1, z, k xs e, .inl ⟨_, _, rfl, e, q⟩⟩
  | _ => simp [seqOf, lstOf] at e
theorem plus_nil {a : Addr} (h : plus W [] a) : W a := h.elim id fun m => nomatch m
theorem F.e {d : D} (h : F K H W d v) : E K H (plus W []) d v [] := .o (.fz (h.keep (fun _ _ q _ => q) fun _ q => .inl (plus_nil q)))
theorem F.o {d : D} (h : F K H W d v) : O K H (plus W []) d v [] := .fz (h.keep (fun _ _ q _ => q) fun _ q => .inl (plus_nil q))
/-- a new list, a new tuple -/
theorem mk_lst {xs : List D} {vs : List V} {p : Addr} (r : Fs K H W xs vs) (z : vs.length ≤ sizeLine) (n : H p = none) : E K (upd H p (.lst vs)) (plus W [p]) (.lst .ow xs) (.ref p) [p] :=
  .o (.ow upd_same z (r.keep (fun a o e _ => same_upd n a o e) fun a q => q.elim .inl fun m => .inr (by rw [List.mem_singleton.mp m]; exact n)).os)
theorem mk_tup {xs : List D} {vs : List V} {p : Addr} (r : Fs K H W xs vs) (w : Wok H W) (z : vs.length ≤ sizeLine) (n : H p = none) : F K (upd H p (.tup vs)) W (.tup xs) (.ref p) :=
  .tup (.inl upd_same) (fun q => by obtain ⟨_, e, _⟩ := w p q; rw [n] at e; cases e) z (r.keep (fun a o e _ => same_upd n a o e) fun a q => .inl q)
/-- an argument, as the callee sees it -/
theorem E.arg {d : D} (hb : ∀ b ∈ bs, ¬ W b) (nb : isBo d = false) (h : E K H (plus W bs) d v bs) : F K H W (argD d) v := by
  have e : argD d = frz d := by
    cases d with
    | lst o ds => cases o <;> first | rfl | (simp [isBo] at nb)
    | dct o t ks vs => cases o <;> first | rfl | (simp [isBo] at nb)
    | obj o c ns ds => cases o <;> first | rfl | (simp [isBo] at nb)
    | _ => rfl
  rw [e]
  cases h with
  | o h => exact h.frz (fun a q => .inl q) hb
  | bo h z r => simp [isBo] at nb
  | dk _ _ _ _ _ => simp [isBo] at nb
  | dn _ _ _ _ _ _ _ => simp [isBo] at nb
  | ob _ _ _ => simp [isBo] at nb
theorem E.arg0 {d : D} (h : E K H W' d v bs) : F K H (fun _ => False) (argD d) v := by
  cases h with
  | o h =>
    have e : argD d = frz d := by
      cases h with
      | fz h => cases h <;> rfl
      | ow _ _ _ => rfl
      | dk _ _ _ _ _ => rfl
      | dn _ _ _ _ _ _ _ => rfl
      | ob _ _ _ => rfl
      | sb _ _ _ _ => rfl
    rw [e]
    exact h.frz (fun a q => q.elim) fun a _ q => q
  | ob h l r =>
    simp only [argD]
    exact .ob h (fun q => q) l (r.frz (fun a q => q.elim) fun a _ q => q)
  | bo h z r =>
    simp only [argD]
    exact .lst h (fun q => q) z (r.frz (fun a q => q.elim) fun a _ q => q)
  | dk h z nd e r =>
    simp only [argD]
    exact .dk h (fun q => q) z nd e (r.keep (fun _ _ q _ => q) fun a q => q.elim)
  | dn h z nd dp e rk r =>
    simp only [argD]
    exact .dn h (fun q => q) z nd dp e (rk.keep (fun _ _ q _ => q) fun a q => q.elim) (r.keep (fun _ _ q _ => q) fun a q => q.elim)
mutual
/-- without frozen lists within nothing that may be written is hidden in it -/
theorem F.clean (w : Wok H W) : ∀ {d : D} {v : V}, F K H W' d v → Ds.clean d = true → F K H W d v
  | _, _, .non, _ => .non
  | _, _, .bl b, _ => .bl b
  | _, _, .int i, _ => .int i
  | _, _, .str x, _ => .str x
  | _, _, .tup h n z r, c => .tup h (fun q => by
      obtain ⟨vs, e, wr⟩ := w _ q
      rcases h with h | ⟨o, h⟩
      · rw [h] at e; cases e; exact wr
      · rw [h] at e; cases e; exact wr) z (Fs.clean w r (by simpa only [Ds.clean] using c))
  | _, _, .tupK l c' q z v r, c => .tupK l c' q z v (Fs.clean w r (by simpa only [Ds.clean] using c))
  | _, _, .lst _ _ _ _, c => by simp only [Ds.clean] at c; cases c
  | _, _, .lk _ _ _ _, c => by simp only [Ds.clean] at c; cases c
  | _, _, .lkK _ _ _ _ _ _ _, c => by simp only [Ds.clean] at c; cases c
  | _, _, .exc _, c => by simp only [Ds.clean] at c; cases c
  | _, _, .rg h n, _ => .rg h fun q => by
      obtain ⟨o, e, wr⟩ := w _ q
      rw [h] at e; cases e; exact wr
  | _, _, .dk _ _ _ _ _ _, c => by simp only [Ds.clean] at c; cases c
  | _, _, .dn _ _ _ _ _ _ _ _, c => by simp only [Ds.clean] at c; cases c
theorem Fs.clean (w : Wok H W) : ∀ {ds : List D} {vs : List V}, Fs K H W' ds vs → Ds.cleans ds = true → Fs K H W ds vs
  | _, _, .nil, _ => .nil
  | _, _, .cons h t, c => by
    simp only [Ds.cleans, Bool.and_eq_true] at c
    exact .cons (F.clean w h c.1) (Fs.clean w t c.2)
end
mutual
theorem O.clean (w : Wok H W) : ∀ {d : D} {v : V} {bs : List Addr}, O K H W' d v bs → Ds.clean d = true → O K H W d v bs
  | _, _, _, .fz h, c => .fz (h.clean w c)
  | _, _, _, .ow h z r, c => .ow h z (Os.clean w r (by simpa only [Ds.clean] using c))
  | _, _, _, .dk h z nd e r, c => .dk h z nd e (r.clean w (by simp only [Ds.clean, Bool.and_eq_true] at c; exact c.2))
  | _, _, _, .dn h z nd dp e rk r, c => .dn h z nd dp e (rk.clean w (by simp only [Ds.clean, Bool.and_eq_true] at c; exact c.1)) (r.clean w (by simp only [Ds.clean, Bool.and_eq_true] at c; exact c.2))
  | _, _, _, .ob h l r, c => .ob h l (Os.clean w r (by simpa only [Ds.clean] using c))
  | _, _, _, .sb _ _ _ _, c => by simp only [Ds.clean] at c; cases c
theorem Os.clean (w : Wok H W) : ∀ {ds : List D} {vs : List V} {bs : List Addr}, Os K H W' ds vs bs → Ds.cleans ds = true → Os K H W ds vs bs
  | _, _, _, .nil, _ => .nil
  | _, _, _, .cons h t, c => by
    simp only [Ds.cleans, Bool.and_eq_true] at c
    exact .cons (O.clean w h c.1) (Os.clean w t c.2)
end
end

/-! ### == -/
section
variable {K : Kx} {H : Hp} {W : Addr → Prop}
mutual
theorem F.dp : ∀ {d : D} {v : V} {n : Nat}, F K H W d v → dep n d = true → Dp K.k H v (toPy d)
  | _, _, _, .non, _ => by simp only [toPy]; exact .non
  | _, _, _, .bl b, _ => by simp only [toPy]; exact .bl b
  | _, _, _, .int i, _ => by simp only [toPy]; exact .int i
  | _, _, _, .str x, _ => by simp only [toPy]; exact .str x
  | _, _, 0, .tup h n z r, d => by simp [dep] at d
  | _, _, _ + 1, .tup h n z r, d => by simp only [toPy]; exact .tup (.inl h) (Fs.dp r (by simpa only [dep] using d))
  | _, _, 0, .tupK l c q z v r, d => by simp [dep] at d
  | _, _, _ + 1, .tupK l c q z v r, d => by simp only [toPy]; exact .tup (.inr ⟨_, _, _, l, c, q, z, v⟩) (Fs.dp r (by simpa only [dep] using d))
  | _, _, 0, .lst h n z r, d => by simp [dep] at d
  | _, _, _ + 1, .lst h n z r, d => by simp only [toPy]; exact .lst (SqL.of h) (Fs.dp r (by simpa only [dep] using d))
  | _, _, 0, .lk h n z r, d => by simp [dep] at d
  | _, _, 0, .lkK l c dn q z v r, d => by simp [dep] at d
  | _, _, _ + 1, .lkK l c dn q z v r, d => by simp only [toPy]; exact .lst (.inr ⟨_, _, _, l, c, dn, q, z, v⟩) (Fs.dp r (by simpa only [dep] using d))
  | _, _, _ + 1, .lk h n z r, d => by simp only [toPy]; exact .lst (.inl (.inr ⟨_, h⟩)) (Fs.dp r (by simpa only [dep] using d))
  | _, _, n, .exc h, d => by cases n <;> simp [dep] at d
  | _, _, n, .dk _ _ _ _ _ _, d => by cases n <;> simp [dep] at d
  | _, _, n, .dn _ _ _ _ _ _ _ _, d => by cases n <;> simp [dep] at d
theorem Fs.dp : ∀ {ds : List D} {vs : List V} {n : Nat}, Fs K H W ds vs → deps n ds = true → DpAll K.k H vs (toPys ds)
  | _, _, _, .nil, _ => by simp only [toPys]; exact .nil
  | _, _, _, .cons h t, d => by
    simp only [deps, Bool.and_eq_true] at d
    simp only [toPys]
    exact .cons (F.dp h d.1) (Fs.dp t d.2)
end
mutual
theorem O.dp : ∀ {d : D} {v : V} {as : List Addr} {n : Nat}, O K H W d v as → dep n d = true → Dp K.k H v (toPy d)
  | _, _, _, _, .fz h, d => h.dp d
  | _, _, _, 0, .ow h z r, d => by simp [dep] at d
  | _, _, _, _ + 1, .ow h z r, d => by simp only [toPy]; exact .lst (SqL.of h) (Os.dp r (by simpa only [dep] using d))
  | _, _, _, n, .dk _ _ _ _ _, d => by cases n <;> simp [dep] at d
  | _, _, _, n, .dn _ _ _ _ _ _ _, d => by cases n <;> simp [dep] at d
theorem Os.dp : ∀ {ds : List D} {vs : List V} {as : List Addr} {n : Nat}, Os K H W ds vs as → deps n ds = true → DpAll K.k H vs (toPys ds)
  | _, _, _, _, .nil, _ => by simp only [toPys]; exact .nil
  | _, _, _, _, .cons h t, d => by
    simp only [deps, Bool.and_eq_true] at d
    simp only [toPys]
    exact .cons (O.dp h d.1) (Os.dp t d.2)
end
theorem E.dp {d : D} {v : V} {as : List Addr} (h : E K H W d v as) (q : dep 12 d = true) : Dp K.k H v (toPy d) := by
  cases h with
  | o h => exact h.dp q
  | bo h z r => simp only [toPy]; exact .lst (SqL.of h) (r.dp (n := 11) (by simpa only [dep] using q))
  | dk _ _ _ _ _ => simp [dep] at q
  | dn _ _ _ _ _ _ _ => simp [dep] at q
  | ob _ _ _ => simp [dep] at q
mutual
theorem dep_lay : ∀ (n : Nat) (d : D), dep n d = true → (toPy d).canLay0 = true ∧ (toPy d).depth ≤ n
  | _, .non, _ => by simp [toPy, PyData.canLay0, PyData.depth]
  | _, .bl _, _ => by simp [toPy, PyData.canLay0, PyData.depth]
  | _, .int _, _ => by simp [toPy, PyData.canLay0, PyData.depth]
  | _, .str x, h => by
    have h' : PyData.strOk x = true := by simpa [dep] using h
    simp [toPy, PyData.canLay0, PyData.depth, h']
  | 0, .tup _, h => by simp [dep] at h
  | 0, .lst _ _, h => by simp [dep] at h
  | n, .exc, h => by cases n <;> simp [dep] at h
  | n, .dct _ _ _ _, h => by cases n <;> simp [dep] at h
  | n + 1, .tup ds, h => by
    have h' : deps n ds = true := by simpa [dep] using h
    obtain ⟨a, b⟩ := deps_lay n ds h'
    simp only [toPy, PyData.canLay0, PyData.depth]
    exact ⟨a, by omega⟩
  | n + 1, .lst _ ds, h => by
    have h' : deps n ds = true := by simpa [dep] using h
    obtain ⟨a, b⟩ := deps_lay n ds h'
    simp only [toPy, PyData.canLay0, PyData.depth]
    exact ⟨a, by omega⟩
theorem deps_lay : ∀ (n : Nat) (ds : List D), deps n ds = true → PyData.canLayAll0 (toPys ds) = true ∧ PyData.depthAll (toPys ds) ≤ n
  | _, [], _ => by simp [toPys, PyData.canLayAll0, PyData.depthAll]
  | n, d :: ds, h => by
    simp only [deps, Bool.and_eq_true] at h
    obtain ⟨a, b⟩ := dep_lay n d h.1
    obtain ⟨a', b'⟩ := deps_lay n ds h.2
    simp only [toPys, PyData.canLayAll0, PyData.depthAll, a, a', Bool.and_self, true_and]
    omega
end
theorem dep_shaped {d : D} (h : dep 12 d = true) : SeqAt.shaped (toPy d) = true := by
  obtain ⟨a, b⟩ := dep_lay 12 d h
  unfold SeqAt.shaped
  rw [a, decide_eq_true (show (toPy d).depth ≤ 64 by omega)]
  rfl
theorem deps_shaped {o : Ow} {ds : List D} (h : deps 12 ds = true) : SeqAt.shaped (.list (toPys ds)) = true := by
  have := dep_lay 13 (.lst o ds) (by simpa [dep] using h)
  obtain ⟨a, b⟩ := this
  simp only [toPy] at a b
  unfold SeqAt.shaped
  rw [a, decide_eq_true (show (PyData.list (toPys ds)).depth ≤ 64 by omega)]
  rfl
theorem deps_shapedT {ds : List D} (h : deps 12 ds = true) : SeqAt.shaped (.tuple (toPys ds)) = true := by
  obtain ⟨a, b⟩ := dep_lay 13 (.tup ds) (by simpa [dep] using h)
  simp only [toPy] at a b
  unfold SeqAt.shaped
  rw [a, decide_eq_true (show (PyData.tuple (toPys ds)).depth ≤ 64 by omega)]
  rfl
end
end Ds

namespace Ds
open PySem PySem.Spec PyProof.Rows L2
/-! ## 5b. tuple * 0, tuple * 1 -/
theorem tup_mul1 (l : Addr) (items : Array Value) (n : Nat) (dd : Option Addr) (sl : Array (Option Value)) (u : Tok) :
    Meets (Builtin.«tuple.__mul__» ⟨[.ref l, .int 1 u], []⟩) (fun _ R s => s.heap.get? l = some { cls := .type "tuple", dict := dd, data := .seq items n, slots := sl } ∧ R (.ok (.ret (Value.ref l))) s) :=
  .of_wp fun prog w A R s h => by
    obtain ⟨hp, g, d, tk, os⟩ := s
    obtain ⟨hl, h⟩ := h
    have f1 := AutoSeq1.idx_int
    have c1 : (items.isEmpty || (1 : Int) == 1) = true := by simp
    wp_walk using wpAny_loadPart' hl
    repeat (first
      | (refine wpAny_ite_true (decide_eq_true c1) ?_; wp_walk using wpAny_loadPart' hl)
      | (refine wpAny_ite_false (by decide) ?_; wp_walk using wpAny_loadPart' hl))
    exact ⟨_, rfl, h⟩
theorem tup_mul0 (l : Addr) (items : Array Value) (n : Nat) (dd : Option Addr) (sl : Array (Option Value)) (x : Int) (u : Tok) (c0 : (decide (x < -(2 ^ 63)) || decide (x ≥ 2 ^ 63)) = false) (c1 : (items.isEmpty || x == 1) = false) (c2 : (decide (x ≤ 0) || items.isEmpty) = true) :
    Meets (Builtin.«tuple.__mul__» ⟨[.ref l, .int x u], []⟩) (fun _ R s => s.heap.get? l = some { cls := .type "tuple", dict := dd, data := .seq items n, slots := sl } ∧
      R (.ok (.ret (Value.ref s.heap.objs.size))) { s with heap := s.heap.push { cls := Value.type "tuple", data := Data.seq #[] }, toks := s.toks }) :=
  .of_wp fun prog w A R s h => by
    obtain ⟨hp, g, d, tk, os⟩ := s
    obtain ⟨hl, h⟩ := h
    have f1 := AutoSeq1.idx_int
    wp_walk using wpAny_loadPart' hl
    repeat (first
      | (refine wpAny_ite_false (decide_eq_false (by rw [c0]; exact Bool.false_ne_true)) ?_; wp_walk using wpAny_loadPart' hl)
      | (refine wpAny_ite_false (decide_eq_false (by rw [c1]; exact Bool.false_ne_true)) ?_; wp_walk using wpAny_loadPart' hl)
      | (refine wpAny_ite_true (decide_eq_true c2) ?_; wp_walk using wpAny_loadPart' hl))
    exact ⟨_, rfl, h⟩
def rRepS (K : PySem.W.Frag) : R2 := fun x y H Q => ∃ l k xs, x = .ref l ∧ y = .int k ∧ SqT K H l xs ∧ xs ≠ [] ∧ -(2 ^ 63) ≤ k ∧ ((k = 1 ∧ Q (.ref l) H) ∨ (k ≤ 0 ∧ ∀ p, H p = none → Q (.ref p) (upd H p (.tup []))))
theorem op_repS {X : Cx} : OpR X (binaryOp .Mult) (rRepS X.K) := by
  intro pins s σ H x y v u Q I rx ry ⟨l, k, xs, ex, ey, hT, hne, lo, q⟩
  subst ex ey
  cases rx
  obtain ⟨t, rfl⟩ := ry
  obtain ⟨its, r, ⟨⟨cls, dd, data, sl⟩, ho, hc, n, hd⟩, hs⟩ := I.tuple hT
  simp only at hc hd
  subst hc hd
  have ne : its.toArray.isEmpty = false := by
    cases its with
    | cons a b => rfl
    | nil =>
      have l0 := r.length
      cases xs with
      | nil => exact absurd rfl hne
      | cons _ _ => simp at l0
  refine wpAny_binaryOp_repeat_ref (T := "tuple") (U := "int") (by decide) ⟨_, ho, rfl⟩ (fun s' => typeIs_int s' k t) noFill_tuple_mul F.fills_int_mul F.slot_int_rmul repeat_tuple F.slot_int_index.lookup
    (call_meets F.slot_int_rmul (typeIs_int s k t) F.entry_int_rmul (F.args_int_rmul_2 _ _) (int_rmul_tuple k t l its.toArray n dd sl) ⟨ho, rfl, ⟨_, ho, rfl⟩, ?_⟩)
  rcases q with ⟨rfl, q⟩ | ⟨k0, q⟩
  · exact call_meets F.slot_tuple_mul ⟨_, ho, rfl⟩ F.entry_tuple_mul (F.args_tuple_mul_2 _ _) (tup_mul1 l its.toArray n dd sl t) ⟨ho, .ref l, H, I, rfl, q⟩
  · have c0 : (decide (k < -(2 ^ 63)) || decide (k ≥ 2 ^ 63)) = false := by rw [decide_eq_false (by omega), decide_eq_false (by omega)] <;> rfl
    have c1 : (its.toArray.isEmpty || k == 1) = false := by rw [ne, Bool.false_or]; exact beq_eq_false_iff_ne.mpr (by omega)
    have c2 : (decide (k ≤ 0) || its.toArray.isEmpty) = true := by rw [decide_eq_true k0] <;> rfl
    refine call_meets F.slot_tuple_mul ⟨_, ho, rfl⟩ F.entry_tuple_mul (F.args_tuple_mul_2 _ _) (tup_mul0 l its.toArray n dd sl k t c0 c1 c2) ⟨ho, .ref s.heap.objs.size, _, I.laid (t' := s.toks) (o := .tup []) (fun b ob q => Heap.get?_push_of_some _ q) (Nat.le_refl _) ⟨Nat.zero_le _, [], .nil, IsTup.new _ _⟩, rfl, q _ (I.hok.fresh (Nat.le_refl _))⟩
end Ds

namespace Ds
/-! ## 5c. tuple[::-1] -/
open PySem PySem.Spec PyProof.Rows L2 HT
section
variable {prog : Program} {w : World} {A : Around} {E : Value → Shared → Prop} {s : Shared}
theorem places_back (n : Nat) : Builtin.Slice.slicePlaces ((n : Int) - 1) (-1) (-1) = n := by
  unfold Builtin.Slice.slicePlaces
  have h1 : ¬ ((-1 : Int) > 0) := by omega
  have h2 : ((n : Int) - 1 - -1 - 1) / (- -1) = n - 1 := by
    rw [show (- -1 : Int) = 1 by decide, Int.ediv_one]
    omega
  simp only [h1, if_false, h2]
  split <;> omega
theorem sliceApplied_back {sl : Addr} {vs : Value} {n : Nat} {Q : Int × Int × Nat → Shared → Prop} (hs : s.heap.IsSliceOf sl .none .none vs) (ps : IsPart vs (some (-1)))
    (h : Q ((n : Int) - 1, -1, n) s) : wpAny (model prog w) A (Builtin.Slice.sliceApplied (.ref sl) (pure (n : Int))) Q E s := by
  obtain ⟨os, hos, hcs, hds⟩ := id hs
  unfold Builtin.Slice.sliceApplied Builtin.Slice.sliceFields
  refine wpAny_bind (wpAny_bind (wpAny_field hos hds (x := .none) rfl (wpAny_bind (wpAny_field hos hds (x := .none) rfl (wpAny_bind (wpAny_field hos hds (x := vs) rfl (wpAny_pure ?_)))))))
  refine wpAny_bind (slicePart_ ps ?_)
  show wpAny _ _ (if ((-1 : Int) == 0) = true then _ else _) _ _ s
  rw [if_neg (by decide)]
  refine wpAny_bind (slicePart_none (wpAny_bind (slicePart_none (wpAny_bind (wpAny_pure ?_)))))
  show wpAny _ _ (match Builtin.Slice.sliceAdjust none none (-1) (n : Int) with | (lo, hi) => pure (lo, (-1 : Int), Builtin.Slice.slicePlaces lo hi (-1))) _ _ s
  have e : Builtin.Slice.sliceAdjust none none (-1) (n : Int) = ((n : Int) - 1, -1) := rfl
  rw [e]
  show wpAny _ _ (pure ((n : Int) - 1, (-1 : Int), Builtin.Slice.slicePlaces ((n : Int) - 1) (-1) (-1))) _ _ s
  rw [places_back]
  exact wpAny_pure h
theorem pick_back (xs : Array Value) : ((List.range xs.size).filterMap fun (m : Nat) => xs[(((xs.size : Int) - 1) + (m : Int) * (-1)).toNat]?).toArray = xs.toList.reverse.toArray := by
  have e : ∀ ys : List Value, (List.range ys.length).filterMap (fun (m : Nat) => ys[m]?) = ys := fun ys => by
    induction ys with
    | nil => rfl
    | cons y ys ih =>
      rw [List.length_cons, List.range_succ_eq_map, List.filterMap_cons, List.filterMap_map]
      exact congrArg _ ih
  have e2 := e xs.toList.reverse
  have f : ∀ (ks : List Nat), (∀ k ∈ ks, k < xs.size) → ks.filterMap (fun (m : Nat) => xs[(((xs.size : Int) - 1) + (m : Int) * (-1)).toNat]?) = ks.filterMap (fun (m : Nat) => xs.toList.reverse[m]?) := fun ks => by
    induction ks with
    | nil => intro _; rfl
    | cons k ks ih =>
      intro hk
      have h0 := hk k List.mem_cons_self
      have e3 : xs[(((xs.size : Int) - 1) + (k : Int) * (-1)).toNat]? = xs.toList.reverse[k]? := by
        rw [List.getElem?_reverse (by rw [Array.length_toList]; exact h0), Array.getElem?_toList, Array.length_toList]
        congr 1
        omega
      rw [List.filterMap_cons, List.filterMap_cons, e3, ih fun q m => hk q (List.mem_cons_of_mem _ m)]
  rw [f _ fun k hk => List.mem_range.mp hk]
  rw [List.length_reverse, Array.length_toList] at e2
  rw [e2]
theorem getItem_tuple_back {t sl : Addr} {items : Array Value} {vs : Value} {Q : Value → Shared → Prop} (ht : IsTup s.heap t items) (hs : s.heap.IsSliceOf sl .none .none vs) (ps : IsPart vs (some (-1)))
    (h : Q (.ref s.heap.objs.size) { s with heap := s.heap.push { cls := .type "tuple", data := .seq items.toList.reverse.toArray } })
    (hsz : items.size ≤ sizeLine) : wpAny (model prog w) A (getItem (.ref t) (.ref sl)) Q E s := by
  have htake : sizeOk (.seq items.toList.reverse.toArray) := by
    show items.toList.reverse.toArray.size ≤ sizeLine
    rw [List.size_toArray, List.length_reverse, Array.length_toList]
    omega
  obtain ⟨os, hos, hcs, hds⟩ := id hs
  have hTs : s.TypeIs (.ref sl) "slice" := ⟨os, hos, hcs⟩
  unfold getItem
  try with_reducible refine wpAny_holding ?_
  first | refine wpAny_bind (wpAny_pure ?_) | skip
  refine wpAny_bind (wpAny_sequenceKey ht.typeIs (by decide) ?_)
  refine wpAny_bind (wpAny_callSpecial?_slot (name := Str.ofString "__getitem__") ht.typeIs PyProof.Rows.slot_tuple_getitem
    (wpAny_call_entry PyProof.Rows.slot_tuple_getitem ht.typeIs entry_tuple_getitem ?_ (args_tuple_getitem _ _)))
  show wpAny _ _ (Builtin.Tuple.tupleItemsOf (.ref t) >>= _) _ _ s
  refine wpAny_bind (tupleItemsOf_ ht ?_)
  refine wpAny_bind (wpAny_typeOf hTs ?_)
  rw [if_pos (by decide)]
  refine wpAny_bind (sliceApplied_back hs ps ?_)
  have hno : ¬ ((((items.size : Int) - 1) == 0 && (-1 : Int) == 1 && items.size == items.size) = true) := by
    simp
  show wpAny _ _ (if (((items.size : Int) - 1) == 0 && (-1 : Int) == 1 && items.size == items.size) = true then _ else _) _ _ s
  rw [if_neg hno, pick_back]
  first
    | exact wpAny_bind (m := Builtin.Tuple.tupleExact _) (wpAny_newObj_type (wpAny_pure ⟨_, rfl, wpAny_pure h⟩) htake)
    | exact wpAny_bind (m := Builtin.Tuple.tupleExact _) (wpAny_newObj_type (wpAny_bind (wpAny_pure (wpAny_pure ⟨_, rfl, wpAny_pure h⟩))) htake)
    | exact wpAny_bind (wpAny_bind (m := Builtin.Tuple.tupleExact _) (wpAny_newObj_type (wpAny_pure (wpAny_pure ⟨_, rfl, wpAny_pure h⟩)) htake))
    | exact wpAny_bind (wpAny_bind (m := Builtin.Tuple.tupleExact _) (wpAny_newObj_type (wpAny_pure ⟨_, rfl, wpAny_pure h⟩) htake))
end
end Ds
namespace L2
open PySem PySem.Spec PyProof.Rows
/-- x[::-1], a list or a tuple -/
def tRevA (K : PySem.W.Frag) (te : TE) : TE := fun σ H Q => te σ H fun x H1 => (∃ a xs, x = .ref a ∧ SqL K H1 a xs ∧ ∀ p, H1 p = none → Q (.ref p) (upd H1 p (.lst xs.reverse))) ∨ ∃ a xs, x = .ref a ∧ SqT K H1 a xs ∧ ∀ p, H1 p = none → Q (.ref p) (upd H1 p (.tup xs.reverse))
theorem pe_revA {X : Cx} {e : Expr} {te : TE} {k : Nat} {p1 p2 p3 pos : Pos} (he : PE X e te) : PE X (.Subscript e (.Slice none none (some (.UnaryOp .USub (.Constant (.int 1) k p1) p2)) p3) pos) (tRevA X.K te) := by
  refine ⟨fun pins s σ H Q I h => ?_⟩
  refine Subscript_ (thn (he.run pins s σ H _ I h) fun v s1 ⟨x, H1, I1, r1, q1⟩ => ?_)
  have hst : PO X (some (.UnaryOp .USub (.Constant (.int 1) k p1) p2)) (tPart (tUn (rU fun i => .int (-i)) (tC (.int 1)))) := po_some (pe_un un_neg pe_int)
  refine wpAny_Slice (thn (po_none.run pins s1 σ H1 (fun o H2 => o = none ∧ H2 = H1) I1 ⟨rfl, rfl⟩) fun vl s2 ⟨l, H2, I2, pl, el, e2⟩ => ?_)
  subst el e2
  refine thn (po_none.run pins s2 σ H2 (fun o H3 => o = none ∧ H3 = H2) I2 ⟨rfl, rfl⟩) fun vu s3 ⟨u, H3, I3, pu, eu, e3⟩ => ?_
  subst eu e3
  refine thn (hst.run pins s3 σ H3 (fun o H4 => o = some (-1) ∧ H4 = H3) I3 ⟨1, rfl, -1, rfl, rfl, rfl⟩) fun vs s4 ⟨o, H4, I4, ps, eo, e4⟩ => ?_
  subst eo e4
  have I5 : Inv X pins σ H4 { s4 with heap := s4.heap.push { cls := .type "slice", data := .fields #[vl, vu, vs] } } := I4.kept (t' := s4.toks) fun b ob q => Heap.get?_push_of_some _ q
  rcases q1 with ⟨a, xs, ex, hx, q⟩ | ⟨a, xs, ex, hx, q⟩
  · subst ex
    cases r1
    obtain ⟨its, r, ht, hz⟩ := I5.list hx
    have hlen := r.length
    show wpAny (model X.prog X.w) X.A (subscriptTail e (.Slice none none (some (.UnaryOp .USub (.Constant (.int 1) k p1) p2)) p3) (.ref a) (.ref s4.heap.objs.size)) (EP X pins σ Q) X.xe { s4 with heap := s4.heap.push { cls := .type "slice", data := .fields #[vl, vu, vs] } }
    refine tail_any (ops := [.ref a, .ref s4.heap.objs.size]) ht.isList.typeIs (PySem.slot_list_getitem.lookup) ?_ (by with_unfolding_all rfl)
    refine wpAny_getItem_list_slice ht.isList (Heap.IsSliceOf.new _ vl vu vs) pl pu ps (by decide) ?_ (by rw [List.size_toArray]; omega)
    rw [PySem.W.krv_pick]
    refine ⟨.ref _, _, I5.laid (t' := s4.toks) (o := .lst xs.reverse) (fun b ob q => Heap.get?_push_of_some _ q) (Nat.le_refl _) ?_, rfl, q _ (I5.hok.fresh (Nat.le_refl _))⟩
    exact ⟨by rw [List.length_reverse]; exact hz, _, 0, r.reverse, Heap.get?_push_size _ rfl⟩
  · subst ex
    cases r1
    cases pl
    cases pu
    obtain ⟨its, r, ht, hz⟩ := I5.tuple hx
    have hlen : its.toArray.size = xs.length := by rw [List.size_toArray]; exact r.length.symm
    show wpAny (model X.prog X.w) X.A (subscriptTail e (.Slice none none (some (.UnaryOp .USub (.Constant (.int 1) k p1) p2)) p3) (.ref a) (.ref s4.heap.objs.size)) (EP X pins σ Q) X.xe { s4 with heap := s4.heap.push { cls := .type "slice", data := .fields #[.none, .none, vs] } }
    refine tail_any (ops := [.ref a, .ref s4.heap.objs.size]) ht.typeIs (PyProof.Rows.slot_tuple_getitem.lookup) ?_ (by with_unfolding_all rfl)
    refine Ds.getItem_tuple_back ht (Heap.IsSliceOf.new _ .none .none vs) ps ?_ (by rw [hlen]; exact hz)
    refine ⟨.ref _, _, I5.laid (t' := s4.toks) (o := .tup xs.reverse) (fun b ob q => Heap.get?_push_of_some _ q) (Nat.le_refl _) ?_, rfl, q _ (I5.hok.fresh (Nat.le_refl _))⟩
    exact ⟨by rw [List.length_reverse]; exact hz, _, r.reverse, IsTup.new _ _⟩
end L2

namespace HotX
open PySem PySem.Spec PyProof.Rows
/-! ## 5d. A list comprehension where an exception is handled -/
section
variable {prog : Program} {w : World} {A : Around} {E : Value → Shared → Prop} {s : Shared}
theorem pyNext_list_end_hot {it l x1 : Addr} {i : Nat} {items : Array Value} {Q : Option Value → Shared → Prop} (hot : HotAt A x1 s.heap) (hit : s.heap.IsListIter it l i) (hl : s.heap.IsList l items) (hx : items[i]? = none)
    (hQ : ∀ h', (∀ b o, b ≠ it → s.heap.get? b = some o → h'.get? b = some o) → Q none { s with heap := h' }) : wpAny (model prog w) A (pyNext (.ref it)) Q E s := by
  obtain ⟨o, ho, hc, hd⟩ := id hit
  obtain ⟨ol, hol, _, nl, hdl⟩ := hl
  obtain ⟨hh, o1, vs1, h1, d1, c1⟩ := hot
  have ne : x1 ≠ it := fun e => by
    subst e
    rw [ho] at h1
    cases h1
    rw [hd] at d1
    cases d1
    cases c1
  unfold pyNext
  refine wpAny_bind (wpAny_attempt (wpAny_callSpecial?_slot (name := Str.ofString "__next__") hit.typeIs slot_listiter_next
    (wpAny_call_entry slot_listiter_next hit.typeIs entry_listiter_next ?_ (args_listiter_next _))))
  show wpAny _ _ (field (.ref it) 0 >>= _) _ _ s
  refine wpAny_bind (wpAny_field ho hd (x := .ref l) rfl ?_)
  show wpAny _ _ (if (Value.ref l == Value.none) = true then _ else _) _ _ s
  rw [if_neg (show ¬ ((Value.ref l == Value.none) = true) from Bool.false_ne_true)]
  show wpAny _ _ (field (.ref it) 1 >>= _) _ _ s
  refine wpAny_bind (wpAny_field ho hd (x := .int i 0) rfl ?_)
  show wpAny _ _ (seqItems? (.ref l) >>= _) _ _ s
  refine wpAny_bind (wpAny_seqItems hol hdl ?_)
  simp only [Int.toNat_natCast, hx]
  refine wpAny_bind (wpAny_rule (wpAny_bind (wpAny_setField ho hd (by simp) ?_)))
  show wpAny _ _ (newExc (.type "StopIteration") [] >>= _) _ _ _
  refine wpAny_bind ?_
  simp only [newExc, newTuple]
  refine wpAny_bind (wpAny_newObj_type ?_ (by size_fits))
  refine wpAny_bind (m := firstArgMember _ _) (wpAny_of_eq (a := Value.none) (by first | rfl | (simp only [firstArgMember]; rfl)) ?_)
  refine wpAny_newObj_type ?_ (by size_fits)
  have hu : (s.heap.update it (Obj.mapFields fun x => x.setIfInBounds 0 Value.none)).get? x1 = some o1 := by
    rw [Heap.get?_update_other _ _ ne.symm]; exact h1
  have hu2 := Heap.get?_push_of_some { cls := .type "tuple", data := .seq #[] } hu
  refine raiseNew_hot (x1 := x1) ⟨hh, o1, vs1, Heap.get?_push_of_some _ hu2, d1, c1⟩ (Nat.ne_of_lt (Heap.lt_size hu2)) (Heap.get?_push_size _ rfl) rfl (by first | (simp; done) | (simp; omega) | (simp only [Array.size_append]; simp; omega)) ?_
  refine wpAny_bind (wpAny_isInstance (T := "StopIteration") (b := true) ⟨_, Heap.get?_update_self _ (Heap.get?_push_size _ rfl) rfl, rfl⟩ isSubtype_stop ?_)
  refine wpAny_pure (hQ _ fun b ob nb e => ?_)
  have e1 : (s.heap.update it (Obj.mapFields fun x => x.setIfInBounds 0 Value.none)).get? b = some ob := by
    rw [Heap.get?_update_other _ _ (Ne.symm nb)]; exact e
  have e2 := Heap.get?_push_of_some { cls := .type "tuple", data := .seq #[] } e1
  rw [Heap.get?_update_other _ _ (Nat.ne_of_gt (Heap.lt_size e2))]
  exact Heap.get?_push_of_some _ e2
end
end HotX
namespace L2
open PySem PySem.Spec PyProof.Rows
structure TurnQ (P : Program) (w : World) (K : PySem.W.Frag) (tg : Expr) (J : It) (fp : List Addr) (it : Addr) (tn : Nat → Heap → Prop) : Prop where
  mem : it ∈ fp
  obj : ∀ i h, tn i h → ∀ b ∈ fp, ∃ o, h.get? b = some o ∧ ∀ v, o.data ≠ .cell v
  keep : ∀ i h h', tn i h → (∀ b ∈ fp, ∀ o, h.get? b = some o → h'.get? b = some o) → tn i h'
  item : ∀ (X : Cx), X.prog = P → X.w = w → X.K = K → ∀ (i : Nat) (pins : List (Addr × Obj)) (s : Shared) (σ : St) (H : Hp) (E : Value → Shared → Prop), Inv X pins σ H s → (∃ x1, HotX.HotAt X.A x1 s.heap) → (∀ b ∈ fp, FpOk X pins H b) → tn i s.heap → J.go i H →
    wpAny (model P w) X.A (pyNext (.ref it)) (fun r s1 => ∃ u, r = some u ∧
      wpAny (model P w) X.A (letOwnedTupleGo tg (.ref it) u) (fun _ s2 => ∃ x H', Inv X pins σ H' s2 ∧ RelV x u ∧ J.yld i H x H' ∧ tn (i + 1) s2.heap ∧ ∀ b ∈ fp, H' b = none) E s1) E s
  done : ∀ (X : Cx), X.prog = P → X.w = w → X.K = K → ∀ (i : Nat) (pins : List (Addr × Obj)) (s : Shared) (σ : St) (H : Hp) (E : Value → Shared → Prop), Inv X pins σ H s → (∃ x1, HotX.HotAt X.A x1 s.heap) → (∀ b ∈ fp, FpOk X pins H b) → tn i s.heap → J.stop i H →
    wpAny (model P w) X.A (pyNext (.ref it)) (fun r s1 => r = none ∧ Inv X pins σ H s1) E s
  self : ∀ (A : Around) (i : Nat) (s : Shared) (Q : Value → Shared → Prop) (E : Value → Shared → Prop), tn i s.heap → Q (.ref it) s → wpAny (model P w) A (pyIter (.ref it)) Q E s
theorem turn_listQ {P : Program} {w : World} {K : PySem.W.Frag} {tg : Expr} (a it : Addr) : TurnQ P w K tg (Itl K a) [it] it (fun i h => h.IsListIter it a i) where
  mem := by simp
  obj := fun i h st b hb => by
    have e : b = it := by simpa using hb
    subst e
    obtain ⟨o, e, c, d⟩ := st
    exact ⟨o, e, fun v z => by rw [d] at z; cases z⟩
  keep := fun i h h' st k => st.at fun o e => k it (by simp) o e
  item := by
    intro X hP hw hK i pins s σ H E I _ hf st hg
    subst hP hw hK
    obtain ⟨xs, x, hq, hx⟩ := hg
    obtain ⟨its, rv, p, hz⟩ := I.list hq
    obtain ⟨u, hu, ru⟩ := rv.get hx
    obtain ⟨f0, f1, f2, f3, f4, f5⟩ := hf it (by simp)
    refine wpAny_pyNext_list_item st p.isList (x := u) (by simpa using hu) fun h' st' sb => ?_
    have I1 : Inv X pins σ H { s with heap := h' } := I.turned (t' := s.toks) (fun b o hb e => (sb.2 b hb).trans e) f0 f1 f3 f4 f5
    obtain ⟨o, e, c, d⟩ := id st'
    exact ⟨u, rfl, go_of (s := { s with heap := h' }) e c d (by decide) ⟨x, H, I1, ru, ⟨rfl, fun ys hy => by rw [I.list_inj hy hq]; exact hx⟩, st', fun b hb => (hf b hb).1⟩⟩
  done := by
    intro X hP hw hK i pins s σ H E I hot hf st hg
    subst hP hw hK
    obtain ⟨xs, hq, hx⟩ := hg
    obtain ⟨its, rv, p, hz⟩ := I.list hq
    obtain ⟨f0, f1, f2, f3, f4, f5⟩ := hf it (by simp)
    have hl := rv.length
    obtain ⟨x1, hot⟩ := hot
    exact HotX.pyNext_list_end_hot hot st p.isList (by simp; omega) fun h' eb => ⟨rfl, I.turned (t' := s.toks) (fun b o hb e => eb b o hb e) f0 f1 f3 f4 f5⟩
  self := fun _ _ _ _ _ st h => wpAny_pyIter_listiter st h
def PIEQ (X : Cx) (pins : List (Addr × Obj)) (σ : St) (tg : Expr) (R : It → Hp → Prop) (itv : Value) (s2 : Shared) : Prop :=
  ∃ (it : Addr) (fp : List Addr) (tn : Nat → Heap → Prop) (J : It) (H' : Hp), itv = .ref it ∧ Inv X pins σ H' s2 ∧ TurnQ X.prog X.w X.K tg J fp it tn ∧ tn 0 s2.heap ∧ (∀ b ∈ fp, FpOk X pins H' b) ∧ R J H'
structure PIQ (X : Cx) (tg iter : Expr) (wi : TI) : Prop where
  run : ∀ (pins : List (Addr × Obj)) (s : Shared) (σ : St) (H : Hp) (R : It → Hp → Prop), Inv X pins σ H s → wi σ H R →
    wpAny (model X.prog X.w) X.A (eval iter X.env) (fun v s1 => wpAny (model X.prog X.w) X.A (pyIter v) (PIEQ X pins σ tg R) X.xe s1) X.xe s
section
variable {X : Cx} {tg : Expr}
theorem pi_listQ {l : Expr} {tl : TE} (hl : PE X l tl) : PIQ X tg l (iList X.K tl) := by
  refine ⟨fun pins s σ H R I h => ?_⟩
  refine thn (hl.run pins s σ H _ I h) fun v s1 ⟨x, H1, I1, r1, q1⟩ => ?_
  obtain ⟨a, e, ⟨xs, hq⟩, q⟩ := q1
  subst e
  cases r1
  obtain ⟨its, rv, p, hz⟩ := I1.list hq
  refine wpAny_pyIter_list p.isList ?_
  refine ⟨s1.heap.objs.size, [s1.heap.objs.size], _, _, H1, rfl, I1.kept (t' := s1.toks) fun b o e => Heap.get?_push_of_some _ e, turn_listQ a _, ⟨_, Heap.get?_push_size _ rfl, rfl, rfl⟩, fun b hb => ?_, q⟩
  have e : b = s1.heap.objs.size := by simpa using hb
  subst e
  exact I1.fpOk (Nat.le_refl _) (I1.hok.fresh (Nat.le_refl _))
end
section
variable {X : Cx}
theorem lc_coreQ {pins : List (Addr × Obj)} {s : Shared} {σ : St} {H : Hp} {Q : VK} {elt tg iter : Expr} {ifs : List Expr} {scope : Scope} {own : List (Str × Nat)} {pos pos' : Pos} {wi : TI} {g : TG} {tt : TT} {te : TE} {use : Option (Value → Sem Unit)} {Qf : Value → Shared → Prop}
    (hc : L2H.HotC X) (hN : X.N.Nodup) (I : Inv X pins σ H s) (hi : PIQ X tg iter wi) (ok : BlkOk X.N X.env.scope scope own)
    (hg : ∀ (s : Shared) (H : Hp) (C : Addr) (cl : List (Str × Addr)) (fp : List Addr), PG (X.blk s H scope (compEnvC scope cl C X.env) fp) tg g) (ht : ∀ (s : Shared) (H : Hp) (C : Addr) (cl : List (Str × Addr)) (fp : List Addr), PTs (X.blk s H scope (compEnvC scope cl C X.env) fp) ifs tt)
    (he : ∀ (s : Shared) (H : Hp) (C : Addr) (cl : List (Str × Addr)) (fp : List Addr), PE (X.blk s H scope (compEnvC scope cl C X.env) fp) elt te) (hs : ∀ x, foldedSetIterable iter X.env x = pure x)
    (h : tLc wi g tt te (own.map (·.2)) σ H Q)
    (hotF : ∀ {b : Addr}, b ∈ frs X.stack → b ≠ X.env.locals → b ∉ X.fs → False)
    (hRR : ∀ D C s' m H', Inv X pins σ H' s' → Q (.ref D) H' → s'.heap.Ns C m → FpOk X pins H' C → compPost (model X.prog X.w) X.A X.xe use Qf (.ref D) C (.ok .next) s') :
    wpAny (model X.prog X.w) X.A (comprehension (.ListComp elt [⟨tg, iter, ifs, 0⟩] scope pos) scope X.env pos' (newList []) false (eval iter X.env) use) Qf X.xe s := by
  have hfree : ∀ y ∈ scope.names, y.2 = .free → ∃ c, X.env.cells.lookup y.1 = some c := fun y hy e => by
    rcases ok.free y hy e with k | k
    · exact I.ok.has _ (.inl k)
    · exact I.ok.has _ (.inr k)
  refine wpAny_comprehension_free (use := use) rfl hs (closure_ok hfree) ok.kind (fun y hy e => by rw [ok.uniq y hy, e])
    (thn (hi.run pins s σ H _ I h) fun xv s1 hx => thn hx fun itv s2 h2 => ?_)
  obtain ⟨it, fp, tn, J, H2, e, I2, T, st2, f2, q⟩ := h2
  subst e
  refine wpAny_newObj_type (newEnv_comp ?_) (by show 0 ≤ sizeLine; decide)
  generalize hD : s2.heap.objs.size = D
  have hDn : H2 D = none := I2.hok.fresh (Nat.le_of_eq hD)
  obtain ⟨W, ⟨m0, w0⟩, turn⟩ := q D hDn
  -- the new list
  generalize hs3 : ({ s2 with heap := s2.heap.push { cls := .type "list", data := .seq ([] : List Value).toArray } } : Shared) = s3
  have I3 : Inv X pins σ (upd H2 D (.lst [])) s3 := by
    rw [← hs3]
    refine I2.laid (t' := s2.toks) (fun b o e => Heap.get?_push_of_some _ e) (Nat.le_of_eq hD) ⟨Nat.zero_le _, [], 0, .nil, ?_⟩
    rw [← hD]
    exact Heap.get?_push_size _ rfl
  have h3 : s3.heap = s2.heap.push { cls := .type "list", data := .seq ([] : List Value).toArray } := by rw [← hs3]
  have sz : ∀ b ∈ fp, b < s2.heap.objs.size := fun b hb => by
    obtain ⟨o, e, _⟩ := T.obj _ _ st2 b hb
    exact Heap.lt_size e
  have f3 : ∀ b ∈ fp, FpOk X pins (upd H2 D (.lst [])) b ∧ b < s3.heap.objs.size := fun b hb => by
    have hlt := sz b hb
    refine ⟨⟨?_, (f2 b hb).2⟩, by rw [h3, Heap.size_push]; exact Nat.lt_succ_of_lt hlt⟩
    rw [upd_ne (by rw [← hD]; exact Nat.ne_of_lt hlt)]
    exact (f2 b hb).1
  have st3 : tn 0 s3.heap := T.keep _ _ _ st2 fun b _ o e => by rw [h3]; exact Heap.get?_push_of_some _ e
  have I4 := block_start I3 ok hN f3
  have pg := hg s3 (upd H2 D (.lst [])) s3.heap.objs.size (cellsFrom (s3.heap.objs.size + 1) scope.names (cloFrom X.env.cells scope.names [])) fp
  have pt := ht s3 (upd H2 D (.lst [])) s3.heap.objs.size (cellsFrom (s3.heap.objs.size + 1) scope.names (cloFrom X.env.cells scope.names [])) fp
  have pe := he s3 (upd H2 D (.lst [])) s3.heap.objs.size (cellsFrom (s3.heap.objs.size + 1) scope.names (cloFrom X.env.cells scope.names [])) fp
  show codeAny _ _ (.compStart (.ListComp elt [⟨tg, iter, ifs, 0⟩] scope pos) 0 (.ref it) (.ref D) (compEnvC scope (cellsFrom (s3.heap.objs.size + 1) scope.names (cloFrom X.env.cells scope.names [])) s3.heap.objs.size X.env)) (compPost (model X.prog X.w) X.A X.xe use Qf (.ref D) s3.heap.objs.size) { s3 with heap := pushCells (s3.heap.push { cls := .type "dict", data := .dict #[] }) scope.names }
  have nfp : ∀ b ∈ fp, (upd H2 D (.lst [])) b = none := fun b hb => (f3 b hb).1.1
  generalize hce : compEnvC scope (cellsFrom (s3.heap.objs.size + 1) scope.names (cloFrom X.env.cells scope.names [])) s3.heap.objs.size X.env = ce at I4 pg pt pe ⊢
  have cL : ce.locals = s3.heap.objs.size := by subst hce; rfl
  generalize hH3 : upd H2 D (.lst []) = H3 at I3 I4 pg pt pe w0 nfp f3
  generalize hs4 : ({ s3 with heap := pushCells (s3.heap.push { cls := .type "dict", data := .dict #[] }) scope.names } : Shared) = s4 at I4 ⊢
  have st4 : tn 0 s4.heap := T.keep _ _ _ st3 fun b _ o e => by rw [← hs4]; exact pushCells_keeps _ _ _ _ (Heap.get?_push_of_some _ e)
  have stat : ∀ {σ' : St} {H' : Hp} {s' : Shared}, Inv (X.blk s3 H3 scope ce fp) [] σ' H' s' → (∀ b ∈ fp, H' b = none) → ∀ b ∈ fp, FpOk (X.blk s3 H3 scope ce fp) [] H' b := fun {σ' H' s'} I' hn b hb =>
    ⟨hn b hb, (I'.ok.exf b hb).1, I'.ok.exfs b hb, .inl hb, fun x c e => (I'.ok.exf b hb).2 x c e, fun p hp => absurd (show p ∈ ([] : List (Addr × Obj)) ++ [] from hp) (by simp)⟩
  have hotB : ∀ {σ' : St} {H' : Hp} {s' : Shared}, Inv (X.blk s3 H3 scope ce fp) [] σ' H' s' → ∃ x1, HotX.HotAt X.A x1 s'.heap := fun {σ' H' s'} I' => by
    obtain ⟨p, ⟨hh, v1, e1, c1⟩, hp⟩ := hc
    obtain ⟨q1, q2, q3, q4, _⟩ := I3.pin p (List.mem_append_left _ hp)
    refine ⟨p.1, hh, p.2, v1, I'.base.keep p.1 p.2 q1 q2 (fun hm => ?_) (fun hm => ?_), e1, c1⟩
    · exact hotF hm q3 q4
    · exact (f3 p.1 hm).1.2.2.2.2.2 p (List.mem_append_left _ hp) rfl
  have loop : codeAny (model X.prog X.w) X.A (.compLoop (.ListComp elt [⟨tg, iter, ifs, 0⟩] scope pos) 0 (.ref it) (.ref D) ce) (compPost (model X.prog X.w) X.A X.xe use Qf (.ref D) s3.heap.objs.size) s4 := by
    refine compLoop_any (fun n s' => ∃ i H', Inv (X.blk s3 H3 scope ce fp) [] (wipe σ (own.map (·.2))) H' s' ∧ tn i s'.heap ∧ (∀ b ∈ fp, H' b = none) ∧ W i n H') ?_ m0 ⟨0, H3, I4, st4, nfp, w0⟩
    rintro n s5 ⟨i, H5, I5, st5, n5, w5⟩
    rcases turn i n H5 w5 with ⟨stop, qq⟩ | ⟨go, Nx, hNx, step⟩
    · have td := T.done (X.blk s3 H3 scope ce fp) rfl rfl rfl i [] s5 _ H5 (fun _ _ => False) I5 (hotB I5) (stat I5 n5) st5 stop
      refine thnF td fun r s6 ⟨hr, I6⟩ => ?_
      subst hr
      -- back in the def's context
      have I7 : Inv X pins σ H5 s6 := I3.call' (ch := fp) I6.os I6.base I6.hok I6.bare fun b hb => ⟨(f3 b hb).1.2.2.2.1, (f3 b hb).1.2.1, (f3 b hb).1.2.2.2.2.1, (f3 b hb).1.2.2.2.2.2⟩
      have nC : H5 s3.heap.objs.size = none := by
        have z : H5 ce.locals = none := I6.free
        rw [cL] at z
        exact z
      obtain ⟨m, hn, _⟩ := I6.loc
      have hn : s6.heap.Ns ce.locals m := hn
      rw [cL] at hn
      exact hRR D s3.heap.objs.size s6 m H5 I7 qq hn (I3.fpOk (Nat.le_refl _) nC)
    · have ti := T.item (X.blk s3 H3 scope ce fp) rfl rfl rfl i [] s5 _ H5 (fun _ _ => False) I5 (hotB I5) (stat I5 n5) st5 go
      refine thnF ti fun r s6 ⟨u, hr, h6⟩ => ?_
      subst hr
      refine thnF h6 fun _ s7 ⟨x, H7, I7, r7, y7, st7, n7⟩ => ?_
      have I7' := I7.pinned (stat I7 n7) (T.obj _ _ st7)
      refine thnF (pg.run _ s7 _ H7 x u _ I7' r7 (step x H7 y7)) fun _ s8 ⟨σ8, H8, I8, hw8, q8⟩ => ?_
      refine thnF (pt.run _ s8 σ8 H8 _ I8 q8) fun b s9 ⟨H9, I9, q9⟩ => ?_
      -- the turn's end
      have fin : ∀ {s' : Shared} {H' : Hp}, Inv (X.blk s3 H3 scope ce fp) ([] ++ pinsAt fp s7.heap) σ8 H' s' → Nx H' → ∃ m, m < n ∧ ∃ i H', Inv (X.blk s3 H3 scope ce fp) [] (wipe σ (own.map (·.2))) H' s' ∧ tn i s'.heap ∧ (∀ b ∈ fp, H' b = none) ∧ W i m H' := fun {s' H'} I' nx => by
        obtain ⟨m', hm, w'⟩ := hNx H' nx
        have pin' : ∀ b ∈ fp, ∀ o, s7.heap.get? b = some o → s'.heap.get? b = some o ∧ H' b = none := fun b hb o e =>
          let z := I'.pin (b, o) (List.mem_append_right _ (List.mem_append_right _ (mem_pinsAt hb e)))
          ⟨z.1, z.2.1⟩
        have hl : (wipe σ (own.map (·.2))).length = σ8.length := by rw [← hw8, wipe_length]
        refine ⟨m', hm, i + 1, H', (I'.unpinned (pins := [])).weak hl (fun j v e => ?_), T.keep _ _ _ st7 fun b hb o e => (pin' b hb o e).1, fun b hb => ?_, w'⟩
        · rw [← hw8] at e
          exact (wipe_some e).1
        · obtain ⟨o, e, _⟩ := T.obj _ _ st7 b hb
          exact (pin' b hb o e).2
      cases b with
      | false =>
        simp only [Bool.false_eq_true, if_false] at q9 ⊢
        exact fin I9 q9
      | true =>
        simp only [if_true] at q9 ⊢
        refine thnF (pe.run _ s9 σ8 H9 _ I9 q9) fun z s10 ⟨yv, H10, I10, r10, acc, hD10, hz10, nx⟩ => ?_
        exact app_ok (X := X.blk s3 H3 scope ce fp) I10 hD10 hz10 r10 fun s11 I11 => fin I11 nx
  exact codeAny_compStart_list loop (T.self X.A 0 _ _ _ st4 loop)
theorem pe_lcQ {elt tg iter : Expr} {ifs : List Expr} {scope : Scope} {own : List (Str × Nat)} {pos : Pos} {wi : TI} {g : TG} {tt : TT} {te : TE} (hc : L2H.HotC X) (hst : ∀ {b : Addr}, b ∈ frs X.stack → b ≠ X.env.locals → b ∉ X.fs → False) (hN : X.N.Nodup) (hi : PIQ X tg iter wi) (ok : BlkOk X.N X.env.scope scope own)
    (hg : ∀ (s : Shared) (H : Hp) (C : Addr) (cl : List (Str × Addr)) (fp : List Addr), PG (X.blk s H scope (compEnvC scope cl C X.env) fp) tg g) (ht : ∀ (s : Shared) (H : Hp) (C : Addr) (cl : List (Str × Addr)) (fp : List Addr), PTs (X.blk s H scope (compEnvC scope cl C X.env) fp) ifs tt)
    (he : ∀ (s : Shared) (H : Hp) (C : Addr) (cl : List (Str × Addr)) (fp : List Addr), PE (X.blk s H scope (compEnvC scope cl C X.env) fp) elt te) (hs : ∀ x, foldedSetIterable iter X.env x = pure x := by intro _; rfl) :
    PE X (.ListComp elt [⟨tg, iter, ifs, 0⟩] scope pos) (tLc wi g tt te (own.map (·.2))) := by
  refine ⟨fun pins s σ H Q I h => ?_⟩
  rw [eval_ListComp]
  refine lc_coreQ hc hN I hi ok hg ht he hs h hst fun D C s' m H' I' q hn f => ⟨m, hn, fun h'' sb => ?_⟩
  obtain ⟨f0, f1, f2, f3, f4, f5⟩ := f
  exact ⟨.ref D, H', I'.turned (t' := s'.toks) (fun b o hb e => (sb.2 b hb).trans e) f0 f1 f3 f4 f5, rfl, q⟩
end
end L2

namespace Ds
open PySem PySem.Spec PyProof.Rows L2

/-! ## 6. The rules of expressions -/
abbrev kx (X : Cx) (xa : Xa) : Kx := ⟨X.K, xa⟩
abbrev lx (X : Cx) (xa : Xa) (ea : Ec → Addr) (c : Cn) : Lx := ⟨kx X xa, ea, c⟩
section
variable {X : Cx}
theorem pe_imp {e : Expr} {t t' : TE} (h : PE X e t) (k : ∀ σ H Q, t' σ H Q → t σ H Q) : PE X e t' := ⟨fun pins s σ H Q I q => h.run pins s σ H Q I (k σ H Q q)⟩
theorem pt_imp {e : Expr} {t t' : TT} (h : PT X e t) (k : ∀ σ H Q, t' σ H Q → t σ H Q) : PT X e t' := ⟨fun pins s σ H Q I q => h.run pins s σ H Q I (k σ H Q q)⟩
theorem pw_imp {e : Expr} {t t' : TT} (h : PW X e t) (k : ∀ σ H Q, t' σ H Q → t σ H Q) : PW X e t' := ⟨fun w pins s σ H Q I q => h.run w pins s σ H Q I (k σ H Q q)⟩
theorem pa_imp {e : List Expr} {t t' : TA} (h : PA X e t) (k : ∀ σ H Q, t' σ H Q → t σ H Q) : PA X e t' := ⟨fun pos pins s σ H Q I q => h.run pos pins s σ H Q I (k σ H Q q)⟩
theorem po_imp {e : Option Expr} {t t' : TO} (h : PO X e t) (k : ∀ σ H Q, t' σ H Q → t σ H Q) : PO X e t' := ⟨fun pins s σ H Q I q => h.run pins s σ H Q I (k σ H Q q)⟩
theorem pss_imp {e : List Stmt} {t t' : TS} (h : PSs X e t) (k : ∀ D σ H, t' D σ H → t D σ H) : PSs X e t' := ⟨fun pins s σ H D I q => h.run pins s σ H D I (k D σ H q)⟩
theorem ps_imp {e : Stmt} {t t' : TS} (h : PS X e t) (k : ∀ D σ H, t' D σ H → t D σ H) : PS X e t' := ⟨fun pins s σ H D I q => h.run pins s σ H D I (k D σ H q)⟩
theorem pi_imp {tg e : Expr} {t t' : TI} (h : PI X tg e t) (k : ∀ σ H R, t' σ H R → t σ H R) : PI X tg e t' := ⟨fun pins s σ H R I q => h.run pins s σ H R I (k σ H R q)⟩
/-- .. with what the invariant tells -/
theorem pe_impI {e : Expr} {t t' : TE} (h : PE X e t) (k : ∀ pins s σ H Q, Inv X pins σ H s → t' σ H Q → t σ H Q) : PE X e t' := ⟨fun pins s σ H Q I q => h.run pins s σ H Q I (k pins s σ H Q I q)⟩
end

section
variable {X : Cx} {xa : Xa} {ea : Ec → Addr} {c : Cn} {Wx : WX} {a b e : Expr} {sa sb sc : S} {pos : Pos}
local macro_rules | `(tactic| trivial) => `(tactic| assumption)

theorem OkE.f {L : Lx} {H H' : Hp} {W : Addr → Prop} {Q : VK} {d : D} {v : V} (h : OkE L H W Q d) (s : Same H H') (f : F L.K H' W d v) : Q v H' :=
  h H' v [] s f.e (fun _ m => nomatch m) List.nodup_nil
theorem OkE.new {L : Lx} {H H' : Hp} {W : Addr → Prop} {Q : VK} {xs : List D} {vs : List V} {p : Addr} (h : OkE L H W Q (.lst .ow xs)) (s : Same H H') (r : Fs L.K H' W xs vs) (z : vs.length ≤ sizeLine) (n : H' p = none) :
    Q (.ref p) (upd H' p (.lst vs)) :=
  h _ _ [p] (s.trans (same_upd n)) (mk_lst r z n) (fun b m => by rw [List.mem_singleton.mp m]; exact s.free n) (List.nodup_cons.mpr ⟨(fun m => nomatch m), List.nodup_nil⟩)
theorem OkE.newT {L : Lx} {H H' : Hp} {W : Addr → Prop} {Q : VK} {xs : List D} {vs : List V} {p : Addr} (h : OkE L H W Q (.tup xs)) (s : Same H H') (w : Wok H' W) (r : Fs L.K H' W xs vs) (z : vs.length ≤ sizeLine) (n : H' p = none) :
    Q (.ref p) (upd H' p (.tup vs)) :=
  h.f (s.trans (same_upd n)) (mk_tup r w z n)

/-! ### names and constants -/
theorem r_non {j p} : PE X (.Constant .none j p) (tE (lx X xa ea c) Wx .non) := pe_imp pe_non fun _ H _ ⟨_, _, _, _, _, h⟩ => OkE.f h (Same.refl H) .non
theorem r_bl {k j p} : PE X (.Constant (.bool k) j p) (tE (lx X xa ea c) Wx (.bl k)) := pe_imp pe_bl fun _ H _ ⟨_, _, _, _, _, h⟩ => OkE.f h (Same.refl H) (.bl k)
theorem r_int {k j p} : PE X (.Constant (.int k) j p) (tE (lx X xa ea c) Wx (.int k)) := pe_imp pe_int fun _ H _ ⟨_, _, _, _, _, h⟩ => OkE.f h (Same.refl H) (.int k)
theorem r_str {k j p} : PE X (.Constant (.str k) j p) (tE (lx X xa ea c) Wx (.str k)) := pe_imp pe_str fun _ H _ ⟨_, _, _, _, _, h⟩ => OkE.f h (Same.refl H) (.str k)
theorem r_var {i : Nat} {x : Str} {p : Pos} (hN : X.N[i]? = some x) (hv : Vis X.env.scope x) (hd : (x == ("__debug__" : Str)) = false) (hcd : (x == ("__classdict__" : Str)) = false) : PE X (.Name x p) (tE (lx X xa ea c) Wx (.var i)) := by
  refine pe_imp (pe_var hN hv hd hcd) fun σ H Q ⟨ρ, as, W, e, w, h⟩ => ?_
  simp only [ev] at h
  cases q : ρ[i]? with
  | none => rw [q] at h; exact h.elim
  | some o =>
    cases o with
    | none => rw [q] at h; exact h.elim
    | some d =>
      rw [q] at h
      obtain ⟨v, bs, e1, r, _⟩ := e.get q
      refine ⟨v, e1, ?_⟩
      have h : OkE (lx X xa ea c) H W Q (kid d) := h
      cases r with
      | fz f =>
        have : kid d = d := by cases f <;> rfl
        rw [this] at h
        exact h.f (Same.refl H) f
      | sb ee hh l r => exact h H _ [] (Same.refl H) (.ob hh l (r.keep (fun _ _ q _ => q) (fun a q => .inl (plus_nil q)) fun _ _ _ q => q)) (fun _ m => nomatch m) List.nodup_nil
      | ob hh l r => exact h H _ [] (Same.refl H) (.ob hh l (r.keep (fun _ _ q _ => q) (fun a q => .inl (plus_nil q)) fun _ _ _ q => q)) (fun _ m => nomatch m) List.nodup_nil
      | ow hh z r => exact h H _ [] (Same.refl H) (.bo hh z (r.keep (fun _ _ q _ => q) (fun a q => .inl (plus_nil q)) fun _ _ _ q => q)) (fun _ m => nomatch m) List.nodup_nil
      | dk hh z nd e r => exact h H _ [] (Same.refl H) (.dk hh z nd e (r.keep (fun _ _ q _ => q) (fun a q => .inl (plus_nil q)))) (fun _ m => nomatch m) List.nodup_nil
      | dn hh z nd dp e rk r => exact h H _ [] (Same.refl H) (.dn hh z nd dp e (rk.keep (fun _ _ q _ => q) (fun a q => .inl (plus_nil q))) (r.keep (fun _ _ q _ => q) (fun a q => .inl (plus_nil q)))) (fun _ m => nomatch m) List.nodup_nil
/-- a constant of the module -/
theorem r_con {x : Str} {d : D} {v : V} {u : Value} {p : Pos} (hg : Gl X x) (hm : X.mg x = some u) (r : RelV v u) (hf : ∀ H W, F (kx X xa) H W d v) (hd : (x == ("__debug__" : Str)) = false) : PE X (.Name x p) (tE (lx X xa ea c) Wx (.con x d)) :=
  pe_imp (pe_glob hg hm r hd) fun σ H Q ⟨ρ, as, W, e, w, h⟩ => OkE.f h (Same.refl H) (hf H W)

/-! ### argument lists -/
theorem r_nil : PA X [] (tEs (lx X xa ea c) Wx []) := by
  refine pa_imp pa_nil fun σ H Q ⟨ρ, as, W, e, w, h⟩ => ?_
  have h : OkEs (lx X xa ea c) H W Q [] := by simp only [evs] at h; exact h
  exact h H [] [] (Same.refl H) .nil (fun _ m => nomatch m) List.nodup_nil
theorem r_cons {es : List Expr} {ss : List S} (ha : PE X e (tE (lx X xa ea c) Wx sa)) (hr : PA X es (tEs (lx X xa ea c) Wx ss)) (hs : starEach (e :: es) X.env = (false, eval e X.env) :: starEach es X.env) : PA X (e :: es) (tEs (lx X xa ea c) Wx (sa :: ss)) := by
  refine pa_imp (pa_cons ha hr hs) fun σ H Q ⟨ρ, as, W, e, w, h⟩ => ?_
  simp only [evs, aft_bind] at h
  refine tE_go e w (h.imp (fun x hx H1 v1 b1 s1 e1 f1 n1 l1 w1 => ?_) fun _ q => q)
  refine tEs_go l1 w1 (hx.imp (fun ys hy H2 v2 b2 s2 e2 f2 n2 l2 w2 => ?_) fun _ q => q.after s1)
  have hy : OkEs (lx X xa ea c) H W Q (x :: ys) := hy
  refine hy H2 (v1 :: v2) (b1 ++ b2) (s1.trans s2) ?_ (fun b m => ?_) ?_
  · refine .cons (e1.keep s2 fun a q => ?_) (e2.keep (Same.refl H2) fun a q => .inl ?_)
    · rcases q with q | q
      · exact .inl (.inl q)
      · rcases List.mem_append.mp q with q | q
        · exact .inl (.inr q)
        · exact .inr (f2 a q)
    · rcases q with q | q
      · exact .inl (.inl q)
      · rcases List.mem_append.mp q with q | q
        · exact .inl (.inr q)
        · exact .inr q
  · rcases List.mem_append.mp m with m | m
    · exact f1 b m
    · exact s1.free (f2 b m)
  · refine List.nodup_append.mpr ⟨n1, n2, fun a m b m' q => ?_⟩
    subst q
    obtain ⟨vs, q, _⟩ := e1.there a m
    rw [f2 a m'] at q
    cases q
theorem r_one (ha : PE X e (tE (lx X xa ea c) Wx sa)) (hs : starEach [e] X.env = (false, eval e X.env) :: starEach [] X.env) : PA X [e] (tEs (lx X xa ea c) Wx [sa]) := r_cons ha r_nil hs

/-! ### displays -/
theorem Es.os {K : Kx} {H : Hp} {W : Addr → Prop} : ∀ {ds : List D} {vs : List V} {as : List Addr}, ds.any isBo = false → Es K H W ds vs as → Os K H W ds vs as
  | _, _, _, _, .nil => .nil
  | _, _, _, n, .cons h t => by
    simp only [List.any_cons, Bool.or_eq_false_iff] at n
    cases h with
    | o h => exact .cons h (Es.os n.2 t)
    | bo _ _ _ => simp [isBo] at n
    | dk _ _ _ _ _ => simp [isBo] at n
    | dn _ _ _ _ _ _ _ => simp [isBo] at n
    | ob _ _ _ => simp [isBo] at n
theorem r_tup {es : List Expr} {ss : List S} {k} (h : PA X es (tEs (lx X xa ea c) Wx ss)) : PE X (.Tuple es k pos) (tE (lx X xa ea c) Wx (.tup ss)) := by
  refine pe_imp (pe_tup h) fun σ H Q ⟨ρ, as, W, e, w, h⟩ => ?_
  simp only [ev, aft_bind] at h
  refine tEs_go e w (h.imp (fun ds hd H1 vs bs s1 e1 f1 n1 l1 w1 => ?_) fun _ q => q)
  split at hd
  · exact hd.elim
  · rename_i nb
    obtain ⟨z, hd⟩ := aft_ok? hd
    have hd : OkE (lx X xa ea c) H W Q (.tup (frzs ds)) := hd
    have z' : vs.length ≤ sizeLine := by rw [← e1.length]; exact of_decide_eq_true z
    exact ⟨z', fun p np => hd.newT s1 (w.same s1) ((Es.os (by simpa using nb) e1).frz (fun a q => .inl q) (fresh_no w f1)) z' np⟩
theorem r_lst {es : List Expr} {ss : List S} (h : PA X es (tEs (lx X xa ea c) Wx ss)) : PE X (.List es pos) (tE (lx X xa ea c) Wx (.lst ss)) := by
  refine pe_imp (pe_lst h) fun σ H Q ⟨ρ, as, W, e, w, h⟩ => ?_
  simp only [ev, aft_bind] at h
  refine tEs_go e w (h.imp (fun ds hd H1 vs bs s1 e1 f1 n1 l1 w1 => ?_) fun _ q => q)
  split at hd
  · exact hd.elim
  · rename_i nb
    obtain ⟨z, hd⟩ := aft_ok? hd
    have hd : OkE (lx X xa ea c) H W Q (.lst .ow ds) := hd
    have z' : vs.length ≤ sizeLine := by rw [← e1.length]; exact of_decide_eq_true z
    refine ⟨z', fun p np => hd _ _ (p :: bs) (s1.trans (same_upd np)) (.o (.ow upd_same z' ?_)) (fun b m => ?_) (List.nodup_cons.mpr ⟨fun m => ?_, n1⟩)⟩
    · refine (Es.os (by simpa using nb) e1).keep (fun a o q _ => same_upd np a o q) (fun a q => ?_) fun a _ o q => same_upd np a o q
      rcases q with q | q
      · exact .inl (.inl q)
      · rcases List.mem_cons.mp q with q | q
        · exact .inr (by rw [q]; exact np)
        · exact .inl (.inr q)
    · rcases List.mem_cons.mp m with m | m
      · rw [m]; exact s1.free np
      · exact f1 b m
    · obtain ⟨vs, q, _⟩ := e1.there p m
      rw [np] at q
      cases q

/-! ### two operands -/
/-- both operands, in one heap -/
theorem two {f : D → D → Re D} {σ : L2.St} {H : Hp} {Q : VK} {W : Addr → Prop} {ρ : Rho} {as : List Addr} {R : V → V → Hp → Prop} (e : Sl (kx X xa) H W ρ σ as) (w : Wok H W)
    (h : Aft (ev c sa ρ >>= fun x => ev c sb ρ >>= fun y => f x y) (OkE (lx X xa ea c) H W Q) (ErE (lx X xa ea c) Wx σ H))
    (k : ∀ x y H2 vx vy bx b_y, Same H H2 → Wok H2 W → (∀ b ∈ bx, ¬ W b) → (∀ b ∈ b_y, ¬ W b) → E (kx X xa) H2 (plus W bx) x vx bx → E (kx X xa) H2 (plus W b_y) y vy b_y → Sl (kx X xa) H2 (plus (plus W bx) b_y) ρ σ as → Wok H2 (plus (plus W bx) b_y) →
      Aft (f x y) (OkE (lx X xa ea c) H W Q) (ErE (lx X xa ea c) Wx σ H) → R vx vy H2) :
    tE (lx X xa ea c) Wx sa σ H (fun x H1 => tE (lx X xa ea c) Wx sb σ H1 fun y H2 => R x y H2) := by
  simp only [aft_bind] at h
  refine tE_go e w (h.imp (fun x hx H1 v1 b1 s1 e1 f1 n1 l1 w1 => ?_) fun _ q => q)
  refine tE_go l1 w1 (hx.imp (fun y hy H2 v2 b2 s2 e2 f2 n2 l2 w2 => ?_) fun _ q => q.after s1)
  refine k x y H2 v1 v2 b1 b2 (s1.trans s2) (w.same (s1.trans s2)) (fresh_no w f1) (fun b m q => fresh_no w1 f2 b m (.inl q)) (e1.keep s2 fun _ q => .inl q) (e2.keep (Same.refl H2) fun a q => .inl ?_) l2 w2 hy
  exact q.elim (fun q => .inl (.inl q)) .inr

def opOf : Bop → Operator
  | .add => .Add | .sub => .Sub | .mul => .Mult | .div => .FloorDiv | .mod => .Mod | .pow => .Pow
theorem CMulB {i j : Int} (h : mulOk i j = true) : CMul i j ∨ CMulW i j := by
  unfold mulOk at h
  simp only [Bool.or_eq_true, Bool.and_eq_true, decide_eq_true_eq] at h
  rcases h with (h | h) | h
  · exact .inl (.inl h)
  · exact .inl (.inr h)
  · exact .inr h
theorem lst_F {L : Lx} {H : Hp} {W : Addr → Prop} {bs : List Addr} {o : Ow} {ds : List D} {v : V} {us : List D} (hb : ∀ b ∈ bs, ¬ W b) (e : E L.K H (plus W bs) (.lst o ds) v bs) (h : lstOf (.lst o ds) = some us) :
    ∃ a vs, v = .ref a ∧ SqL L.K.k H a vs ∧ vs.length ≤ sizeLine ∧ (o ≠ .lk → H a = some (.lst vs)) ∧ Fs L.K H W us vs := by
  obtain ⟨a, vs, e1, q, z, _, hh, k⟩ := E.l hb e
  exact ⟨a, vs, e1, q, z, hh, k us h⟩
def CDivM (_ j : Int) : Prop := j ≠ 0 ∧ j.natAbs.log2 < 9000
theorem op_fdivM : OpR X (binaryOp .FloorDiv) (rI CDivM fun i j => .int (i.fdiv j)) := opI fun _ _ _ _ _ _ _ hc q => floordiv_int hc.1 q (.inl (PyProof.noPylong_of_log2 hc.2))
/-- the operator's rule, as the small language has it -/
def rBin (K : PySem.W.Frag) (op : Bop) : R2 :=
  match op with
  | .add => fun x y H Q => rI0 (fun i j => .int (i + j)) x y H Q ∨ (∃ i j, x = .str i ∧ y = .str j ∧ i.length + j.length ≤ sizeLine ∧ Q (.str (i ++ j)) H) ∨ rCatA K x y H Q ∨ rCat x y H Q
  | .sub => rI0 fun i j => .int (i - j)
  | .mul => fun x y H Q => rI CMul (fun i j => .int (i * j)) x y H Q ∨ rI CMulW (fun i j => .int (i * j)) x y H Q ∨ rRep x y H Q ∨ rRepT K x y H Q ∨ rRepS K x y H Q
  | .div => fun x y H Q => rI CDivW (fun i j => .int (i / j)) x y H Q ∨ rI CDivM (fun i j => .int (i.fdiv j)) x y H Q
  | .mod => fun x y H Q => rI (fun _ j => 0 < j) (fun i j => .int (i % j)) x y H Q ∨ rI (fun _ j => j ≠ 0) (fun i j => .int (i.fmod j)) x y H Q
  | .pow => rI CPow fun i j => .int (i ^ j.toNat)
theorem op_bin (op : Bop) : OpR X (binaryOp (opOf op)) (rBin X.K op) := by
  cases op with
  | add => exact (op_add.or (op_add_str.or (op_catA.or op_cat)))
  | sub => exact op_sub
  | mul => exact op_mul.or (op_mulW.or (op_rep.or (op_repT.or op_repS)))
  | div => exact op_fdivW.or op_fdivM
  | mod => exact op_mod.or op_modN
  | pow => exact op_pow
theorem Vs_rep {K : Kx} {H : Hp} {W : Addr → Prop} {us : List D} {vs : List V} (r : Fs K H W us vs) : ∀ k : Nat, Fs K H W (List.replicate k us).flatten (List.replicate k vs).flatten
  | 0 => .nil
  | k + 1 => by
    simp only [List.replicate_succ, List.flatten_cons]
    exact r.append (Vs_rep r k)
theorem bin_ok {op : Bop} {x y : D} {σ : L2.St} {H H2 : Hp} {Q : VK} {W : Addr → Prop} {vx vy : V} {bx b_y : List Addr} (s : Same H H2) (w : Wok H2 W) (hx : ∀ b ∈ bx, ¬ W b) (hy : ∀ b ∈ b_y, ¬ W b)
    (ex : E (kx X xa) H2 (plus W bx) x vx bx) (ey : E (kx X xa) H2 (plus W b_y) y vy b_y) (h : Aft (evBin op x y) (OkE (lx X xa ea c) H W Q) (ErE (lx X xa ea c) Wx σ H)) : rBin X.K op vx vy H2 Q := by
  unfold evBin at h
  split at h
  · obtain ⟨rfl, _⟩ := ex.i
    obtain ⟨rfl, _⟩ := ey.i
    exact .inl ⟨_, _, rfl, rfl, OkE.f h s (.int _)⟩
  · obtain ⟨rfl, _⟩ := ex.i
    obtain ⟨rfl, _⟩ := ey.i
    exact ⟨_, _, rfl, rfl, OkE.f h s (.int _)⟩
  · obtain ⟨rfl, _⟩ := ex.i
    obtain ⟨rfl, _⟩ := ey.i
    obtain ⟨m, h⟩ := aft_ok? h
    rcases CMulB m with m | m
    · exact .inl ⟨_, _, rfl, rfl, m, OkE.f h s (.int _)⟩
    · exact .inr (.inl ⟨_, _, rfl, rfl, m, OkE.f h s (.int _)⟩)
  · obtain ⟨rfl, _⟩ := ex.i
    obtain ⟨rfl, _⟩ := ey.i
    split at h
    · rename_i j0
      obtain ⟨m, h⟩ := aft_ok? h
      exact .inl ⟨_, _, rfl, rfl, ⟨j0, of_decide_eq_true m⟩, OkE.f h s (.int _)⟩
    · obtain ⟨m, h⟩ := aft_ok? h
      simp only [Bool.and_eq_true, decide_eq_true_eq] at m
      exact .inr ⟨_, _, rfl, rfl, m, OkE.f h s (.int _)⟩
  · obtain ⟨rfl, _⟩ := ex.i
    obtain ⟨rfl, _⟩ := ey.i
    split at h
    · rename_i j0
      exact .inl ⟨_, _, rfl, rfl, j0, OkE.f h s (.int _)⟩
    · obtain ⟨m, h⟩ := aft_ok? h
      exact .inr ⟨_, _, rfl, rfl, of_decide_eq_true m, OkE.f h s (.int _)⟩
  · obtain ⟨rfl, _⟩ := ex.i
    obtain ⟨rfl, _⟩ := ey.i
    obtain ⟨m, h⟩ := aft_ok? h
    simp only [Bool.and_eq_true, decide_eq_true_eq] at m
    exact ⟨_, _, rfl, rfl, ⟨m.1.1, m.1.2, m.2⟩, OkE.f h s (.int _)⟩
  · obtain ⟨rfl, _⟩ := ex.s
    obtain ⟨rfl, _⟩ := ey.s
    obtain ⟨m, h⟩ := aft_ok? h
    exact .inr (.inl ⟨_, _, rfl, rfl, of_decide_eq_true m, OkE.f h s (.str _)⟩)
  · obtain ⟨p, xs, rfl, qx, zx, rx, rfl⟩ := ex.t
    obtain ⟨q, ys, rfl, qy, zy, ry, rfl⟩ := ey.t
    obtain ⟨m, h⟩ := aft_ok? h
    have rx := rx.keep (H' := H2) (W' := W) (fun _ _ q _ => q) fun _ q => .inl (.inl q)
    have ry := ry.keep (H' := H2) (W' := W) (fun _ _ q _ => q) fun _ q => .inl (.inl q)
    have z := of_decide_eq_true m
    rw [rx.length, ry.length] at z
    have ex' := ex
    have ey' := ey
    refine .inr (.inr (.inl ⟨p, q, xs, ys, rfl, rfl, qx, qy, z, fun e => ?_, fun e e2 => ?_, fun _ _ r nr => ?_⟩))
    · subst e
      cases rx
      exact h H2 _ [] s ey (fun _ m => nomatch m) List.nodup_nil
    · subst e2
      cases ry
      rw [List.append_nil] at h
      exact h H2 _ [] s ex (fun _ m => nomatch m) List.nodup_nil
    · exact OkE.newT h s w (rx.append ry) (by rw [List.length_append]; exact z) nr
  · split at h
    · exact h.elim
    · rename_i no
      simp only [aft_bind] at h
      obtain ⟨us, hu, h⟩ := aft_lift h
      obtain ⟨ws, hw, h⟩ := aft_lift h
      obtain ⟨m, h⟩ := aft_ok? h
      obtain ⟨p, xs, rfl, qx, zx, kx, rx⟩ := lst_F (L := lx X xa ea c) hx ex hu
      obtain ⟨q, ys, rfl, qy, zy, ky, ry⟩ := lst_F (L := lx X xa ea c) hy ey hw
      have z := of_decide_eq_true m
      rw [rx.length, ry.length] at z
      exact .inr (.inr (.inr ⟨p, q, xs, ys, rfl, rfl, kx fun e => no (.inl e), ky fun e => no (.inr e), z, fun r nr => OkE.new h s (rx.append ry) (by rw [List.length_append]; exact z) nr⟩))
  · split at h
    · exact h.elim
    · rename_i no
      simp only [aft_bind] at h
      obtain ⟨us, hu, h⟩ := aft_lift h
      obtain ⟨m, h⟩ := aft_ok? h
      simp only [Bool.and_eq_true, decide_eq_true_eq] at m
      obtain ⟨p, xs, rfl, qx, zx, kx, rx⟩ := lst_F (L := lx X xa ea c) hx ex hu
      obtain ⟨rfl, _⟩ := ey.i
      have z := m.2
      rw [rx.length] at z
      refine .inr (.inr (.inl ⟨p, _, xs, rfl, rfl, kx no, m.1.1, m.1.2, z, fun r nr => OkE.new h s (Vs_rep rx _) ?_ nr⟩))
      rw [List.length_flatten, List.map_replicate, List.sum_replicate_nat]
      rw [Nat.mul_comm]; exact z
  · obtain ⟨p, xs, rfl, qx, zx, rx, rfl⟩ := ex.t
    rename_i kk
    obtain ⟨rfl, _⟩ := ey.i
    have rx := rx.keep (H' := H2) (W' := W) (fun _ _ q _ => q) fun _ q => .inl (.inl q)
    split at h
    · obtain ⟨m, h⟩ := aft_ok? h
      simp only [Bool.and_eq_true, decide_eq_true_eq, Bool.not_eq_true', List.isEmpty_eq_false_iff] at m
      have ne : xs ≠ [] := fun e => m.1.1.1 (by subst e; cases rx; rfl)
      refine .inr (.inr (.inr (.inl ⟨p, _, xs, rfl, rfl, qx, ne, m.1.1.2, m.1.2, by rw [← rx.length]; exact m.2, fun r nr => OkE.newT h s w (Vs_rep rx _) ?_ nr⟩)))
      rw [List.length_flatten, List.map_replicate, List.sum_replicate_nat]
      have h1 : xs.length ≤ 1000 := by rw [← rx.length]; exact m.2
      have h2 : ∀ k : Int, k ≤ 1000 → k.toNat ≤ 1000 := fun k h => Int.toNat_le.mpr (by simpa using h)
      exact Nat.le_trans (Nat.mul_le_mul (h2 _ m.1.2) h1) (by decide)
    · obtain ⟨m, h⟩ := aft_ok? h
      simp only [Bool.and_eq_true, decide_eq_true_eq, Bool.not_eq_true', List.isEmpty_eq_false_iff] at m
      have ne : xs ≠ [] := fun e => m.1 (by subst e; cases rx; rfl)
      refine .inr (.inr (.inr (.inr ⟨p, kk, xs, rfl, rfl, qx, ne, m.2, ?_⟩)))
      by_cases k1 : kk = 1
      · rw [if_pos k1] at h
        exact .inl ⟨k1, h H2 _ [] s (ex.keep (Same.refl H2) fun a q => .inl (q.elim .inl fun m => nomatch m)) (fun _ m => nomatch m) List.nodup_nil⟩
      · rw [if_neg k1] at h
        exact .inr ⟨by omega, fun r nr => OkE.newT h s w .nil (Nat.zero_le _) nr⟩
  · exact h.elim
theorem r_bin {op : Bop} (ha : PE X a (tE (lx X xa ea c) Wx sa)) (hb : PE X b (tE (lx X xa ea c) Wx sb)) : PE X (.BinOp a (opOf op) b pos) (tE (lx X xa ea c) Wx (.bin op sa sb)) := by
  refine pe_imp (pe_op (op_bin op) ha hb) fun σ H Q ⟨ρ, as, W, e, w, h⟩ => ?_
  simp only [ev] at h
  exact two e w h fun x y H2 vx vy bx b_y s w2 hx hy ex ey _ _ h => bin_ok s w2 hx hy ex ey h
end
end Ds

namespace Ds
open PySem PySem.Spec PyProof.Rows L2
section
variable {X : Cx} {xa : Xa} {ea : Ec → Addr} {c : Cn} {Wx : WX} {a b e : Expr} {sa sb sc : S} {pos : Pos}

theorem OkE.s {L : Lx} {H H' : Hp} {W : Addr → Prop} {Q : VK} {i : Int} (h : OkE L H W Q (.int i)) (s : Same H H') : Q (.int i) H' := h.f s (.int i)
theorem r_neg (ha : PE X a (tE (lx X xa ea c) Wx sa)) : PE X (.UnaryOp .USub a pos) (tE (lx X xa ea c) Wx (.neg sa)) := by
  refine pe_imp (pe_un un_neg ha) fun σ H Q ⟨ρ, as, W, e, w, h⟩ => ?_
  simp only [ev, aft_bind] at h
  refine tE_go e w (h.imp (fun x hx H1 v1 b1 s1 e1 f1 n1 l1 w1 => ?_) fun _ q => q)
  cases x with
  | int i =>
    obtain ⟨rfl, _⟩ := e1.i
    exact ⟨i, rfl, OkE.f hx s1 (.int _)⟩
  | _ => exact hx.elim
theorem r_notV (ha : PE X a (tE (lx X xa ea c) Wx sa)) : PE X (.UnaryOp .Not a pos) (tE (lx X xa ea c) Wx (.not sa)) := by
  refine pe_imp (pe_not ha) fun σ H Q ⟨ρ, as, W, e, w, h⟩ => ?_
  simp only [ev, aft_bind] at h
  refine tE_go e w (h.imp (fun x hx H1 v1 b1 s1 e1 f1 n1 l1 w1 => ?_) fun _ q => q)
  cases x with
  | bl k =>
    obtain ⟨rfl, _⟩ := e1.b
    exact ⟨k, rfl, OkE.f hx s1 (.bl _)⟩
  | _ => exact hx.elim
theorem r_andV {rest : List Expr} (ha : PE X a (tE (lx X xa ea c) Wx sa)) (hb : PE X (.BoolOp .And (b :: rest) pos) (tE (lx X xa ea c) Wx sb)) : PE X (.BoolOp .And (a :: b :: rest) pos) (tE (lx X xa ea c) Wx (.and sa sb)) := by
  refine pe_imp (pe_and ha hb) fun σ H Q ⟨ρ, as, W, e, w, h⟩ => ?_
  simp only [ev, aft_bind] at h
  refine tE_go e w (h.imp (fun x hx H1 v1 b1 s1 e1 f1 n1 l1 w1 => ?_) fun _ q => q)
  cases x with
  | bl k =>
    obtain ⟨rfl, rfl⟩ := e1.b
    refine ⟨k, rfl, ?_⟩
    cases k with
    | true =>
      rw [if_pos rfl]
      refine tE_go l1 w1 (Aft.imp hx (fun y hy H2 v2 b2 s2 e2 f2 n2 l2 w2 => ?_) fun _ q => q.after s1)
      have hy : OkE (lx X xa ea c) H W Q y := hy
      exact hy H2 v2 b2 (s1.trans s2) (e2.keep (Same.refl _) fun a q => .inl (q.elim (fun q => .inl (.inl q)) .inr)) (f2.same s1) n2
    | false =>
      rw [if_neg (by decide)]
      exact OkE.f hx s1 (.bl _)
  | _ => exact hx.elim
theorem r_orV {rest : List Expr} (ha : PE X a (tE (lx X xa ea c) Wx sa)) (hb : PE X (.BoolOp .Or (b :: rest) pos) (tE (lx X xa ea c) Wx sb)) : PE X (.BoolOp .Or (a :: b :: rest) pos) (tE (lx X xa ea c) Wx (.or sa sb)) := by
  refine pe_imp (pe_or ha hb) fun σ H Q ⟨ρ, as, W, e, w, h⟩ => ?_
  simp only [ev, aft_bind] at h
  refine tE_go e w (h.imp (fun x hx H1 v1 b1 s1 e1 f1 n1 l1 w1 => ?_) fun _ q => q)
  cases x with
  | bl k =>
    obtain ⟨rfl, rfl⟩ := e1.b
    refine ⟨k, rfl, ?_⟩
    cases k with
    | false =>
      rw [if_neg (by decide)]
      refine tE_go l1 w1 (Aft.imp hx (fun y hy H2 v2 b2 s2 e2 f2 n2 l2 w2 => ?_) fun _ q => q.after s1)
      have hy : OkE (lx X xa ea c) H W Q y := hy
      exact hy H2 v2 b2 (s1.trans s2) (e2.keep (Same.refl _) fun a q => .inl (q.elim (fun q => .inl (.inl q)) .inr)) (f2.same s1) n2
    | true =>
      rw [if_pos rfl]
      exact OkE.f hx s1 (.bl _)
  | _ => exact hx.elim

/-! ### comparisons -/
def copOf : Cop → CmpOp
  | .eq => .Eq | .ne => .NotEq | .lt => .Lt | .le => .LtE | .gt => .Gt | .ge => .GtE | .is => .Is | .nis => .IsNot | .isin => .In | .nin => .NotIn
def rInT (K : PySem.W.Frag) : R2 := fun x y H Q => ∃ d ds, Dp K H x d ∧ Dp K H y (.tuple ds) ∧ SeqAt.shaped d = true ∧ SeqAt.shaped (.tuple ds) = true ∧ Q (.bl (ds.any fun z => PyData.eqv z d)) H
def rNotInT (K : PySem.W.Frag) : R2 := fun x y H Q => ∃ d ds, Dp K H x d ∧ Dp K H y (.tuple ds) ∧ SeqAt.shaped d = true ∧ SeqAt.shaped (.tuple ds) = true ∧ Q (.bl (!ds.any fun z => PyData.eqv z d)) H
theorem op_inT {X : Cx} (hu : X.A.units + 65 < cLine) : OpR X (compareOp .In) (rInT X.K) := by
  intro pins s σ H x y v u Q I rx ry ⟨d, ds, hd, he, sd, se, q⟩
  obtain ⟨as, r1⟩ := Dp.reads I d x v hd rx
  obtain ⟨bs, r2⟩ := Dp.reads I (.tuple ds) y u he ry
  exact SeqAt.in_tuple_reads r2 r1 (SeqAt.canLay_of_shaped se) (SeqAt.canLay_of_shaped sd) (room_in_shaped sd hu) ⟨.bl _, H, I, rfl, q⟩
theorem op_notInT {X : Cx} (hu : X.A.units + 65 < cLine) : OpR X (compareOp .NotIn) (rNotInT X.K) := by
  intro pins s σ H x y v u Q I rx ry ⟨d, ds, hd, he, sd, se, q⟩
  obtain ⟨as, r1⟩ := Dp.reads I d x v hd rx
  obtain ⟨bs, r2⟩ := Dp.reads I (.tuple ds) y u he ry
  exact SeqAt.notIn_tuple_reads r2 r1 (SeqAt.canLay_of_shaped se) (SeqAt.canLay_of_shaped sd) (room_in_shaped sd hu) ⟨.bl _, H, I, rfl, q⟩
def rCmp (K : PySem.W.Frag) (op : Cop) : R2 :=
  match op with
  | .eq => rEqD K
  | .ne => rNeD K
  | .lt => rI0 fun i j => .bl (decide (i < j))
  | .le => rI0 fun i j => .bl (decide (i ≤ j))
  | .gt => rI0 fun i j => .bl (decide (j < i))
  | .ge => rI0 fun i j => .bl (decide (j ≤ i))
  | .is => fun x y H Q => (y = .non ∧ Q (.bl (decide (x = .non))) H) ∨ rIsB x y H Q
  | .nis => fun x y H Q => (y = .non ∧ Q (.bl (!decide (x = .non))) H) ∨ rNotB x y H Q
  | .isin => fun x y H Q => rIn K false x y H Q ∨ rInD K x y H Q ∨ rInT K x y H Q
  | .nin => fun x y H Q => rIn K true x y H Q ∨ rNotInD K x y H Q ∨ rNotInT K x y H Q
theorem op_cmp (hu : X.A.units + 65 < cLine) (op : Cop) : OpR X (compareOp (copOf op)) (rCmp X.K op) := by
  cases op with
  | eq => exact op_eqD (by omega)
  | ne => exact op_neD (by omega)
  | lt => exact op_lt
  | le => exact op_le
  | gt => exact op_gt
  | ge => exact op_ge
  | is => exact op_isN.or op_isBl
  | nis => exact op_notN.or op_notBl
  | isin => exact op_in_seq.or ((op_inD hu).or (op_inT hu))
  | nin => exact op_notIn_seq.or ((op_notInD hu).or (op_notInT hu))
theorem E.nn {K : Kx} {H : Hp} {W : Addr → Prop} {d : D} {v : V} {bs : List Addr} (h : E K H W d v bs) (n : d ≠ .non) : v ≠ .non := by
  cases h with
  | o h =>
    cases h with
    | fz h =>
      cases h with
      | non => exact absurd rfl n
      | _ => intro q; cases q
    | _ => intro q; cases q
  | _ => intro q; cases q
theorem flat_F {K : Kx} {H : Hp} {W : Addr → Prop} {d : D} {v : V} (h : F K H W d v) (f : flat d = true) : flatV v = true ∧ ∀ (y : D) (u : V), F K H W y u → flat y = true → deq y d = eqV u v := by
  cases h with
  | non =>
    refine ⟨rfl, fun y u hy fy => ?_⟩
    cases hy <;> first | rfl | (simp [flat] at fy)
  | bl b =>
    refine ⟨rfl, fun y u hy fy => ?_⟩
    cases hy <;> first | rfl | (simp [flat] at fy)
  | int b =>
    refine ⟨rfl, fun y u hy fy => ?_⟩
    cases hy <;> first | rfl | (simp [flat] at fy)
  | str b =>
    refine ⟨rfl, fun y u hy fy => ?_⟩
    cases hy <;> first | rfl | (simp [flat] at fy)
  | _ => simp [flat] at f
theorem flat_E {K : Kx} {H : Hp} {W W' : Addr → Prop} {d : D} {v : V} {bs : List Addr} (h : E K H W d v bs) (f : flat d = true) : F K H W' d v := by
  cases h with
  | o h =>
    cases h with
    | fz h =>
      cases h with
      | non => exact .non
      | bl b => exact .bl b
      | int b => exact .int b
      | str b => exact .str b
      | _ => simp [flat] at f
    | _ => simp [flat] at f
  | _ => simp [flat] at f
theorem any_in {K : Kx} {H : Hp} {W : Addr → Prop} {x : D} {v : V} (hx : F K H W x v) (fx : flat x = true) : ∀ {ds : List D} {vs : List V}, Fs K H W ds vs → ds.all flat = true → vs.all flatV = true ∧ (ds.any fun z => deq z x) = inV v vs
  | _, _, .nil, _ => ⟨rfl, rfl⟩
  | _, _, .cons h t, f => by
    simp only [List.all_cons, Bool.and_eq_true] at f
    obtain ⟨a, b⟩ := any_in hx fx t f.2
    refine ⟨?_, ?_⟩
    · rw [List.all_cons, a, (flat_F h f.1).1]; rfl
    · unfold inV at b ⊢
      rw [List.any_cons, List.any_cons, b, (flat_F hx fx).2 _ _ h f.1]
theorem eqv_any (x : D) : ∀ ds : List D, (ds.any fun z => deq z x) = (toPys ds).any fun z => PyData.eqv z (toPy x)
  | [] => rfl
  | d :: ds => by
    simp only [toPys, List.any_cons, eqv_any x ds]
    rfl
theorem frzs_py : ∀ ds : List D, toPys (frzs ds) = toPys ds
  | [] => rfl
  | d :: ds => by
    simp only [frzs, toPys, frzs_py ds]
    congr 1
    cases d with
    | lst o ds => cases o <;> simp only [frz, toPy, frzs_py ds]
    | dct o t ks vs => cases o <;> simp only [frz, toPy]
    | obj o c ns ds => cases o <;> simp only [frz, toPy]
    | _ => simp only [frz]
/-- the comparison's answer is a truth value -/
theorem cmp_ok {op : Cop} {x y : D} {H : Hp} {W : Addr → Prop} {vx vy : V} {bx b_y : List Addr} {p : D → Prop} {q : Ec → Prop} (hx : ∀ b ∈ bx, ¬ W b) (hy : ∀ b ∈ b_y, ¬ W b)
    (ex : E (kx X xa) H (plus W bx) x vx bx) (ey : E (kx X xa) H (plus W b_y) y vy b_y) (h : Aft (evCmp op x y) p q) : ∃ k, p (.bl k) ∧ ∀ Q : VK, Q (.bl k) H → rCmp X.K op vx vy H Q := by
  have inp : ∀ {p : Bool → Prop} {q : Ec → Prop}, Aft (evIn x y) p q → ∃ k, p k ∧ ∀ (neg : Bool) (Q : VK), Q (.bl (if neg then !k else k)) H → rIn X.K neg vx vy H Q ∨ (if neg then rNotInD X.K else rInD X.K) vx vy H Q ∨ (if neg then rNotInT X.K else rInT X.K) vx vy H Q := by
    intro p q h
    unfold evIn at h
    cases sq : seqOf y with
    | none => rw [sq] at h; exact h.elim
    | some ds =>
      rw [sq] at h
      obtain ⟨b, us, rfl, z, r, hk⟩ := ey.seq hy sq
      simp only at h
      split at h
      · rename_i f
        simp only [Bool.and_eq_true] at f
        have fx := flat_E (W' := W) ex f.1
        obtain ⟨fa, ia⟩ := any_in fx f.1 r f.2
        refine ⟨_, h, fun neg Q hq => .inl ⟨b, us, rfl, ?_, (flat_F fx f.1).1, fa, ?_⟩⟩
        · rcases hk with ⟨_, _, _, _, hk⟩ | ⟨_, _, _, hk⟩
          · exact .inl hk
          · exact .inr hk
        · rw [← ia]
          cases neg <;> exact hq
      · rcases hk with ⟨o, es, rfl, hl, hk⟩ | ⟨es, rfl, rfl, hk⟩
        · simp only at h
          obtain ⟨m, h⟩ := aft_ok? h
          simp only [Bool.and_eq_true] at m
          refine ⟨_, h, fun neg Q hq => .inr (.inl ?_)⟩
          have dy : Dp X.K H (.ref b) (.list (toPys ds)) := .lst hk (r.dp m.2)
          rw [eqv_any] at hq
          cases neg with
          | false => exact ⟨_, _, ex.dp m.1, dy, dep_shaped m.1, deps_shaped (o := .fr) m.2, hq⟩
          | true => exact ⟨_, _, ex.dp m.1, dy, dep_shaped m.1, deps_shaped (o := .fr) m.2, hq⟩
        · simp only at h
          obtain ⟨m, h⟩ := aft_ok? h
          simp only [Bool.and_eq_true] at m
          refine ⟨_, h, fun neg Q hq => .inr (.inr ?_)⟩
          have dy : Dp X.K H (.ref b) (.tuple (toPys ds)) := .tup hk (r.dp m.2)
          have sh : SeqAt.shaped (.tuple (toPys ds)) = true := deps_shapedT m.2
          rw [eqv_any] at hq
          cases neg with
          | false => exact ⟨_, _, ex.dp m.1, dy, dep_shaped m.1, sh, hq⟩
          | true => exact ⟨_, _, ex.dp m.1, dy, dep_shaped m.1, sh, hq⟩
  unfold evCmp at h
  split at h
  · obtain ⟨rfl, _⟩ := ex.i
    obtain ⟨rfl, _⟩ := ey.i
    exact ⟨_, h, fun Q hq => ⟨_, _, rfl, rfl, hq⟩⟩
  · obtain ⟨rfl, _⟩ := ex.i
    obtain ⟨rfl, _⟩ := ey.i
    exact ⟨_, h, fun Q hq => ⟨_, _, rfl, rfl, hq⟩⟩
  · obtain ⟨rfl, _⟩ := ex.i
    obtain ⟨rfl, _⟩ := ey.i
    exact ⟨_, h, fun Q hq => ⟨_, _, rfl, rfl, hq⟩⟩
  · obtain ⟨rfl, _⟩ := ex.i
    obtain ⟨rfl, _⟩ := ey.i
    exact ⟨_, h, fun Q hq => ⟨_, _, rfl, rfl, hq⟩⟩
  · obtain ⟨rfl, _⟩ := ex.n
    obtain ⟨rfl, _⟩ := ey.n
    exact ⟨_, h, fun Q hq => .inl ⟨rfl, hq⟩⟩
  · obtain ⟨rfl, _⟩ := ex.b
    obtain ⟨rfl, _⟩ := ey.b
    exact ⟨_, h, fun Q hq => .inr ⟨_, _, rfl, rfl, hq⟩⟩
  · rename_i n1
    obtain ⟨rfl, _⟩ := ey.n
    refine ⟨_, h, fun Q hq => .inl ⟨rfl, ?_⟩⟩
    rw [decide_eq_false (ex.nn n1)]
    exact hq
  · obtain ⟨rfl, _⟩ := ex.n
    obtain ⟨rfl, _⟩ := ey.n
    exact ⟨_, h, fun Q hq => .inl ⟨rfl, hq⟩⟩
  · obtain ⟨rfl, _⟩ := ex.b
    obtain ⟨rfl, _⟩ := ey.b
    exact ⟨_, h, fun Q hq => .inr ⟨_, _, rfl, rfl, hq⟩⟩
  · rename_i n1
    obtain ⟨rfl, _⟩ := ey.n
    refine ⟨_, h, fun Q hq => .inl ⟨rfl, ?_⟩⟩
    rw [decide_eq_false (ex.nn n1)]
    exact hq
  · obtain ⟨m, h⟩ := aft_ok? h
    simp only [Bool.and_eq_true] at m
    exact ⟨_, h, fun Q hq => ⟨_, _, ex.dp m.1, ey.dp m.2, dep_shaped m.1, dep_shaped m.2, hq⟩⟩
  · obtain ⟨m, h⟩ := aft_ok? h
    simp only [Bool.and_eq_true] at m
    exact ⟨_, h, fun Q hq => ⟨_, _, ex.dp m.1, ey.dp m.2, dep_shaped m.1, dep_shaped m.2, hq⟩⟩
  · rw [aft_bind] at h
    obtain ⟨k, h, g⟩ := inp h
    exact ⟨_, h, fun Q hq => g false Q hq⟩
  · rw [aft_bind] at h
    obtain ⟨k, h, g⟩ := inp h
    exact ⟨_, h, fun Q hq => g true Q hq⟩
  · exact h.elim
theorem r_cmp {op : Cop} (hu : X.A.units + 65 < cLine) (ha : PE X a (tE (lx X xa ea c) Wx sa)) (hb : PE X b (tE (lx X xa ea c) Wx sb)) (hm : behindInMarks (copOf op) b = false) : PE X (.Compare a [copOf op] [b] pos) (tE (lx X xa ea c) Wx (.cmp op sa sb)) := by
  refine pe_imp (pe_cmpR (op_cmp hu op) ha hb hm) fun σ H Q ⟨ρ, as, W, e, w, h⟩ => ?_
  simp only [ev] at h
  refine two e w h fun x y H2 vx vy bx b_y s w2 hx hy ex ey _ _ h => ?_
  obtain ⟨k, h, g⟩ := cmp_ok hx hy ex ey h
  exact g Q (OkE.f h s (.bl k))
/-- as a test -/
theorem t_cmp {op : Cop} (hu : X.A.units + 65 < cLine) (ha : PE X a (tE (lx X xa ea c) Wx sa)) (hb : PE X b (tE (lx X xa ea c) Wx sb)) (hm : behindInMarks (copOf op) b = false) : PT X (.Compare a [copOf op] [b] pos) (tT (lx X xa ea c) Wx (.cmp op sa sb)) := by
  refine pt_imp (pt_cmpR (op_cmp hu op) ha hb hm) fun σ H Q ⟨ρ, as, W, e, w, h⟩ => ?_
  simp only [evT, ev, aft_bind] at h
  refine tE_go e w (h.imp (fun x hx H1 v1 b1 s1 e1 f1 n1 l1 w1 => ?_) fun _ q => q)
  refine tE_go l1 w1 (hx.imp (fun y hy H2 v2 b2 s2 e2 f2 n2 l2 w2 => ?_) fun _ q => q.after s1)
  obtain ⟨k, h, g⟩ := cmp_ok (fresh_no w f1) (fun b m q => fresh_no w1 f2 b m (.inl q)) (e1.keep s2 fun _ q => .inl q) (e2.keep (Same.refl H2) fun a q => .inl (q.elim (fun q => .inl (.inl q)) .inr)) hy
  exact g _ ⟨k, rfl, h H2 (s1.trans s2)⟩
/-- a op1 b op2 c -/
theorem chn_ok {o1 o2 : Cop} {σ : L2.St} {H : Hp} {Q : VK} (hu : X.A.units + 65 < cLine) (h : tE (lx X xa ea c) Wx (.chn o1 o2 sa sb sc) σ H Q) :
    tChain (rCmp X.K o1) (rCmp X.K o2) (tE (lx X xa ea c) Wx sa) (tE (lx X xa ea c) Wx sb) (tE (lx X xa ea c) Wx sc) σ H Q := by
  obtain ⟨ρ, as, W, e, w, h⟩ := h
  simp only [ev, aft_bind] at h
  refine tE_go e w (h.imp (fun x hx H1 v1 b1 s1 e1 f1 n1 l1 w1 => ?_) fun _ q => q)
  refine tE_go l1 w1 (hx.imp (fun y hy H2 v2 b2 s2 e2 f2 n2 l2 w2 => ?_) fun _ q => q.after s1)
  have hx2 := fresh_no w f1
  have hy2 : ∀ b ∈ b2, ¬ W b := fun b m q => fresh_no w1 f2 b m (.inl q)
  have ex2 : E (kx X xa) H2 (plus W b1) x v1 b1 := e1.keep s2 fun _ q => .inl q
  have ey2 : E (kx X xa) H2 (plus W b2) y v2 b2 := e2.keep (Same.refl H2) fun a q => .inl (q.elim (fun q => .inl (.inl q)) .inr)
  obtain ⟨k, h, g⟩ := cmp_ok hx2 hy2 ex2 ey2 hy
  refine g _ ⟨k, rfl, ?_⟩
  cases k with
  | false =>
    rw [if_neg (by decide)]
    exact OkE.f h (s1.trans s2) (.bl _)
  | true =>
    rw [if_pos rfl]
    simp only [aft_bind] at h
    refine tE_go l2 w2 (h.imp (fun z hz H3 v3 b3 s3 e3 f3 n3 l3 w3 => ?_) fun _ q => (q.after (s1.trans s2)))
    have hz2 : ∀ b ∈ b3, ¬ W b := fun b m q => fresh_no w2 f3 b m (.inl (.inl q))
    obtain ⟨k, h, g⟩ := cmp_ok (W := W) hy2 hz2 (ey2.keep s3 fun _ q => .inl q) (e3.keep (Same.refl H3) fun a q => .inl (q.elim (fun q => .inl (.inl (.inl q))) .inr)) hz
    exact g Q (OkE.f h ((s1.trans s2).trans s3) (.bl k))
theorem r_chn {o1 o2 : Cop} {d : Expr} (hu : X.A.units + 65 < cLine) (ha : PE X a (tE (lx X xa ea c) Wx sa)) (hb : PE X b (tE (lx X xa ea c) Wx sb)) (hc : PE X d (tE (lx X xa ea c) Wx sc)) (hm : lastMarks [copOf o1, copOf o2] [b, d] = false) :
    PE X (.Compare a [copOf o1, copOf o2] [b, d] pos) (tE (lx X xa ea c) Wx (.chn o1 o2 sa sb sc)) :=
  pe_imp (pe_chain (op_cmp hu o1) (op_cmp hu o2) ha hb hc hm) fun _ _ _ h => chn_ok hu h
theorem OkT {L : Lx} {s : S} {σ : L2.St} {H : Hp} {Q : Bool → Hp → Prop} (h : tT L Wx s σ H Q) : tE L Wx s σ H fun x H' => ∃ k, x = .bl k ∧ Q k H' := by
  obtain ⟨ρ, as, W, e, w, h⟩ := h
  simp only [evT, aft_bind] at h
  refine tE_go e w (h.imp (fun x hx H1 v1 b1 s1 e1 f1 n1 l1 w1 => ?_) fun _ q => q)
  cases x with
  | bl k =>
    obtain ⟨rfl, _⟩ := e1.b
    exact ⟨k, rfl, hx H1 s1⟩
  | _ => exact hx.elim
theorem t_chn {o1 o2 : Cop} {d : Expr} (hu : X.A.units + 65 < cLine) (ha : PE X a (tE (lx X xa ea c) Wx sa)) (hb : PE X b (tE (lx X xa ea c) Wx sb)) (hc : PE X d (tE (lx X xa ea c) Wx sc)) (hm : lastMarks [copOf o1, copOf o2] [b, d] = false) :
    PT X (.Compare a [copOf o1, copOf o2] [b, d] pos) (tT (lx X xa ea c) Wx (.chn o1 o2 sa sb sc)) :=
  pt_imp (pt_chain (op_cmp hu o1) (op_cmp hu o2) ha hb hc hm) fun _ _ _ h => chn_ok hu (OkT h)

/-! ### tests -/
theorem t_val (h : PE X e (tE (lx X xa ea c) Wx sa)) (he : ∀ whole, isTrue e X.env whole = (do let v ← whole; standAt e.pos; holding [v] (truthy v))) : PT X e (tT (lx X xa ea c) Wx sa) :=
  pt_imp (pt_val h he) fun _ _ _ h => OkT h
theorem tru_E {K : Kx} {d : D} {H : Hp} {W : Addr → Prop} {v : V} {bs : List Addr} {p : Bool → Prop} {q : Ec → Prop} (hb : ∀ b ∈ bs, ¬ W b) (ex : E K H (plus W bs) d v bs) (h : Aft (evTru d) p q) : ∃ k, TruV K.k v H k ∧ p k := by
  have em : ∀ {ds : List D} {vs : List V}, ds.length = vs.length → (!ds.isEmpty) = !vs.isEmpty := by
    intro ds vs e
    cases ds <;> cases vs <;> first | rfl | simp at e
  cases d with
  | exc => exact h.elim
  | rg _ _ => exact h.elim
  | dct _ _ _ _ => exact h.elim
  | obj _ _ _ _ => exact h.elim
  | non => obtain ⟨rfl, _⟩ := ex.n; exact ⟨_, rfl, h⟩
  | bl b => obtain ⟨rfl, _⟩ := ex.b; exact ⟨_, rfl, h⟩
  | int i => obtain ⟨rfl, _⟩ := ex.i; exact ⟨_, rfl, h⟩
  | str x =>
    obtain ⟨rfl, _⟩ := ex.s
    obtain ⟨m, h⟩ := aft_ok? h
    exact ⟨_, ⟨of_decide_eq_true m, rfl⟩, h⟩
  | tup ds =>
    obtain ⟨a, vs, rfl, q, z, r, _⟩ := ex.t
    exact ⟨_, .inr (.inl ⟨vs, q, em r.length⟩), h⟩
  | lst o ds =>
    obtain ⟨a, vs, rfl, q, z, l, _, _⟩ := E.l hb ex
    exact ⟨_, .inl ⟨vs, q, em l⟩, h⟩
theorem t_tru (h : PE X e (tE (lx X xa ea c) Wx sa)) (he : ∀ whole, isTrue e X.env whole = (do let v ← whole; standAt e.pos; holding [v] (truthy v))) : PT X e (tT (lx X xa ea c) Wx (.tru sa)) := by
  refine pt_imp (pt_truth h he) fun σ H Q ⟨ρ, as, W, e, w, h⟩ => ?_
  simp only [evT, ev, aft_bind] at h
  refine tE_go e w (h.imp (fun x hx H1 v1 b1 s1 e1 f1 n1 l1 w1 => ?_) fun _ q => q)
  obtain ⟨k, t, h⟩ := tru_E (fresh_no w f1) e1 hx
  exact ⟨k, t, h H1 s1⟩
theorem t_not (ha : PT X a (tT (lx X xa ea c) Wx sa)) : PT X (.UnaryOp .Not a pos) (tT (lx X xa ea c) Wx (.not sa)) := by
  refine pt_imp (pt_not ha) fun σ H Q ⟨ρ, as, W, e, w, h⟩ => ?_
  refine tT_go e w ?_
  simp only [evT, ev, aft_bind] at h ⊢
  refine h.imp (fun x hx => ?_) fun _ q => q
  cases x with
  | bl k => exact fun H' s _ _ => hx H' s
  | _ => exact hx
theorem w_one {op : BoolOp} (ha : PT X a (tT (lx X xa ea c) Wx sa)) : PW X (.BoolOp op [a] pos) (tT (lx X xa ea c) Wx sa) := by
  cases op with
  | And => exact pw_and1 ha
  | Or => exact pw_or1 ha
theorem w_and {rest : List Expr} (ha : PT X a (tT (lx X xa ea c) Wx sa)) (hb : PW X (.BoolOp .And (b :: rest) pos) (tT (lx X xa ea c) Wx sb)) : PW X (.BoolOp .And (a :: b :: rest) pos) (tT (lx X xa ea c) Wx (.and sa sb)) := by
  refine pw_imp (pw_and ha hb) fun σ H Q ⟨ρ, as, W, e, w, h⟩ => ?_
  refine tT_go e w ?_
  simp only [evT, ev, aft_bind] at h ⊢
  refine h.imp (fun x hx => ?_) fun _ q => q
  cases x with
  | bl k =>
    intro H1 s1 e1 w1
    cases k with
    | true =>
      rw [if_pos rfl]
      refine tT_go e1 w1 ?_
      simp only [evT, aft_bind]
      exact Aft.imp hx (fun y hy => Aft.imp hy (fun k hk H2 s2 _ _ => hk H2 (s1.trans s2)) fun _ q => q.after s1) fun _ q => q.after s1
    | false =>
      rw [if_neg (by decide)]
      exact hx H1 s1
  | _ => exact hx
theorem w_or {rest : List Expr} (ha : PT X a (tT (lx X xa ea c) Wx sa)) (hb : PW X (.BoolOp .Or (b :: rest) pos) (tT (lx X xa ea c) Wx sb)) : PW X (.BoolOp .Or (a :: b :: rest) pos) (tT (lx X xa ea c) Wx (.or sa sb)) := by
  refine pw_imp (pw_or ha hb) fun σ H Q ⟨ρ, as, W, e, w, h⟩ => ?_
  refine tT_go e w ?_
  simp only [evT, ev, aft_bind] at h ⊢
  refine h.imp (fun x hx => ?_) fun _ q => q
  cases x with
  | bl k =>
    intro H1 s1 e1 w1
    cases k with
    | false =>
      rw [if_neg (by decide)]
      refine tT_go e1 w1 ?_
      simp only [evT, aft_bind]
      exact Aft.imp hx (fun y hy => Aft.imp hy (fun k hk H2 s2 _ _ => hk H2 (s1.trans s2)) fun _ q => q.after s1) fun _ q => q.after s1
    | true =>
      rw [if_pos rfl]
      exact hx H1 s1
  | _ => exact hx
theorem r_ite {t : Expr} (ht : PT X t (tT (lx X xa ea c) Wx sc)) (ha : PE X a (tE (lx X xa ea c) Wx sa)) (hb : PE X b (tE (lx X xa ea c) Wx sb)) : PE X (.IfExp t a b pos) (tE (lx X xa ea c) Wx (.ite sc sa sb)) := by
  refine pe_imp (pe_ifExp ht ha hb) fun σ H Q ⟨ρ, as, W, e, w, h⟩ => ?_
  refine tT_go e w ?_
  simp only [evT, ev, aft_bind] at h ⊢
  refine h.imp (fun x hx => ?_) fun _ q => q
  have go : ∀ {s : S} {H1 : Hp}, Same H H1 → Sl (kx X xa) H1 W ρ σ as → Wok H1 W → Aft (ev c s ρ) (OkE (lx X xa ea c) H W Q) (ErE (lx X xa ea c) Wx σ H) → tE (lx X xa ea c) Wx s σ H1 Q := fun s1 e1 w1 h =>
    tE_go e1 w1 (h.imp (fun y hy H2 v2 b2 s2 e2 f2 n2 l2 w2 => hy H2 v2 b2 (s1.trans s2) e2 (f2.same s1) n2) fun _ q => q.after s1)
  cases x with
  | bl k =>
    intro H1 s1 e1 w1
    cases k with
    | true => rw [if_pos rfl]; exact go s1 e1 w1 hx
    | false => rw [if_neg (by decide)]; exact go s1 e1 w1 hx
  | _ => exact hx
end
end Ds

namespace Ds
open PySem PySem.Spec PyProof.Rows L2
/-! ### sorted of data -/
theorem leD_eq : leD = PySem.W.dataLe false toPy := by
  funext a b
  rw [PySem.W.dataLe_eq]
  rfl
theorem leD_total : PySem.W.TotalLe leD := by rw [leD_eq]; exact PySem.W.sortLe_total _ _ _
theorem insD_app {x : D} : ∀ {l1 l2 : List D}, (∀ b ∈ l1, leD x b = false) → (l1 ++ x :: l2).Pairwise (fun a b => leD a b = true) → insD x (l1 ++ l2) = l1 ++ x :: l2
  | [], [], _, _ => rfl
  | [], y :: l2, _, h => by
    have := (List.pairwise_cons.mp h).1 y List.mem_cons_self
    show (if leD x y = true then _ else _) = _
    rw [if_pos this]
    rfl
  | y :: l1, l2, h, p => by
    show (if leD x y = true then _ else y :: insD x (l1 ++ l2)) = _
    rw [if_neg (by rw [h y List.mem_cons_self]; simp), insD_app (fun b m => h b (List.mem_cons_of_mem _ m)) (List.pairwise_cons.mp p).2]
    rfl
theorem sortD_eq : ∀ xs : List D, sortD xs = xs.mergeSort leD
  | [] => by simp [sortD]
  | x :: xs => by
    have tr : ∀ a b c, leD a b = true → leD b c = true → leD a c = true := leD_total.trans
    have tt : ∀ a b, (leD a b || leD b a) = true := fun a b => by rw [Bool.or_eq_true]; exact leD_total.total a b
    obtain ⟨l1, l2, e1, e2, h⟩ := List.mergeSort_cons tr tt x xs
    have p := List.pairwise_mergeSort tr tt (x :: xs)
    rw [e1] at p ⊢
    show insD x (sortD xs) = _
    rw [sortD_eq xs, e2]
    exact insD_app (fun b m => by have := h b m; simpa using this) p
theorem insD_perm (x : D) : ∀ xs : List D, (insD x xs).Perm (x :: xs)
  | [] => List.Perm.refl _
  | y :: ys => by
    unfold insD
    split
    · exact List.Perm.refl _
    · exact ((insD_perm x ys).cons y).trans (List.Perm.swap x y ys)
theorem sortD_perm : ∀ xs : List D, (sortD xs).Perm xs
  | [] => List.Perm.refl _
  | x :: xs => (insD_perm x (sortD xs)).trans ((sortD_perm xs).cons x)
theorem sortD_sorted (xs : List D) : (sortD xs).Pairwise fun a b => leD a b = true := by
  rw [sortD_eq]
  exact List.pairwise_mergeSort leD_total.trans (fun a b => by rw [Bool.or_eq_true]; exact leD_total.total a b) xs
section
variable {X : Cx}
def rSortedD (K : PySem.W.Frag) : List V → Hp → VK → Prop := fun vs H Q => ∃ a, ∃ bs : List (V × PyData), vs = [V.ref a] ∧ SqL K H a (bs.map (·.1)) ∧ (∀ b ∈ bs, Dp K H b.1 b.2) ∧ PySem.W.AllAlike (bs.map (·.2)) ∧ (∀ b ∈ bs, ∃ x r, b.2 = .tuple (x :: r)) ∧ (∀ b ∈ bs, b.2.depth ≤ 12) ∧
  ∀ p, H p = none → Q (.ref p) (upd H p (.lst ((bs.mergeSort (PySem.W.dataLe false (·.2))).map (·.1))))
theorem each_vals : ∀ {bs : List (V × PyData)} {its : List Value}, Vals (bs.map (·.1)) its → PySem.W.EachIs (fun v (b : V × PyData) => RelV b.1 v) its bs
  | [], _, r => by cases r; exact .nil
  | b :: bs, _, r => by
    cases r with
    | cons h t => exact .cons h (each_vals t)
theorem vals_each : ∀ {bs : List (V × PyData)} {its : List Value}, PySem.W.EachIs (fun v (b : V × PyData) => RelV b.1 v) its bs → Vals (bs.map (·.1)) its
  | _, _, .nil => .nil
  | _, _, .cons h t => .cons h (vals_each t)
theorem each_imp {α β : Type} {R S : α → β → Prop} : ∀ {vs : List α} {bs : List β}, (∀ v, ∀ b ∈ bs, R v b → S v b) → PySem.W.EachIs R vs bs → PySem.W.EachIs S vs bs
  | _, _, _, .nil => .nil
  | _, _, h, .cons h1 t => .cons (h _ _ List.mem_cons_self h1) (each_imp (fun v b m => h v b (List.mem_cons_of_mem _ m)) t)
theorem cr_sortedD (hu : X.A.units + 65 < cLine) : CallR X (.builtin "sorted") (rSortedD X.K) := by
  intro pins s σ H vs us Q I r h
  obtain ⟨a, bs, rfl, hs, hd, hal, ht, hdp, q⟩ := h
  obtain ⟨its, rv, hl, hz⟩ := I.list hs
  obtain ⟨u, rfl, ru⟩ := vals1 r
  obtain rfl : u = Value.ref a := ru
  have e := each_vals rv
  have er : PySem.W.EachIs (fun v (b : V × PyData) => ∃ as, Reads s.heap v b.2 as) its bs := each_imp (fun v b m rl => Dp.reads I b.2 b.1 v (hd b m) rl) e
  have hsrt : PySem.W.Sortable (bs.map (·.2)) := .inl fun d m => by
    obtain ⟨b, mb, rfl⟩ := List.mem_map.mp m
    exact ht b mb
  have hL : bs.length ≤ sizeLine := by rw [List.length_map] at hz; exact hz
  refine PySem.W.sorted_data (enc := (·.2)) hl.isList e er hal hsrt hL (fun b m => by have := hdp b m; omega) fun out ho eo => ?_
  obtain ⟨c, hc⟩ := sortedAll_at s.heap its out.toArray
  have k : ∀ b o, s.heap.get? b = some o → (sortedAll s.heap its out.toArray).get? b = some o := fun _ _ => sortedAll_old
  refine ⟨.ref (s.heap.objs.size + 1), _, I.laid (t' := s.toks) k (Nat.le_succ _) ?_, rfl, q _ (I.hok.fresh (Nat.le_succ _))⟩
  refine ⟨?_, out, c, vals_each eo, hc⟩
  rw [List.length_map, List.length_mergeSort]
  exact hL
theorem Fs.pairs {K : Kx} {H : Hp} {W : Addr → Prop} : ∀ {ds : List D} {vs : List V}, Fs K H W ds vs → ∀ c ∈ ds.zip vs, F K H W c.1 c.2
  | _, _, .nil, c, m => by cases m
  | _, _, .cons h t, c, m => by
    rw [List.zip_cons_cons] at m
    rcases List.mem_cons.mp m with rfl | m
    · exact h
    · exact Fs.pairs t c m
theorem Fs.of_pairs {K : Kx} {H : Hp} {W : Addr → Prop} : ∀ {cs : List (D × V)}, (∀ c ∈ cs, F K H W c.1 c.2) → Fs K H W (cs.map (·.1)) (cs.map (·.2))
  | [], _ => .nil
  | c :: cs, h => .cons (h c List.mem_cons_self) (Fs.of_pairs fun c m => h c (List.mem_cons_of_mem _ m))
theorem deps_mem {n : Nat} : ∀ {ds : List D}, deps n ds = true → ∀ d ∈ ds, dep n d = true
  | [], _, _, m => nomatch m
  | d :: ds, h, x, m => by
    simp only [deps, Bool.and_eq_true] at h
    rcases List.mem_cons.mp m with rfl | m
    · exact h.1
    · exact deps_mem h.2 x m
theorem sorted_ok {K : Kx} {H : Hp} {W : Addr → Prop} {xs : List D} {us : List V} {p : Addr} (r : Fs K H W xs us) (ok : srtOk xs = true) (q : SqL K.k H p us) :
    ∃ vs', Fs K H W (sortD xs) vs' ∧ vs'.length = us.length ∧ ∀ Q : VK, (∀ l, H l = none → Q (.ref l) (upd H l (.lst vs'))) → rSortedD K.k [.ref p] H Q := by
  unfold srtOk at ok
  simp only [Bool.and_eq_true, List.all_eq_true] at ok
  obtain ⟨o1, o2, o3⟩ := ok
  have hl := r.length
  have fst : (xs.zip us).map (·.1) = xs := List.map_fst_zip (by omega)
  have snd : (xs.zip us).map (·.2) = us := List.map_snd_zip (by omega)
  have pr := r.pairs
  have mx : ∀ c ∈ xs.zip us, c.1 ∈ xs := fun c m => (List.of_mem_zip (a := c.1) (b := c.2) m).1
  generalize xs.zip us = cs at *
  have e1 : (cs.mergeSort fun a b => leD a.1 b.1).map (·.1) = sortD xs := by
    rw [sortD_eq, ← fst]
    exact List.map_mergeSort fun a _ b _ => rfl
  have e2 : (cs.mergeSort fun a b => leD a.1 b.1).map (fun c => (c.2, toPy c.1)) = (cs.map fun c => (c.2, toPy c.1)).mergeSort (PySem.W.dataLe false (·.2)) := by
    refine List.map_mergeSort fun a _ b _ => ?_
    rw [PySem.W.dataLe_eq]
    rfl
  refine ⟨(cs.mergeSort fun a b => leD a.1 b.1).map (·.2), ?_, ?_, fun Q hq => ⟨p, cs.map fun c => (c.2, toPy c.1), rfl, ?_, ?_, ?_, ?_, ?_, ?_⟩⟩
  · rw [← e1]
    exact Fs.of_pairs fun c m => pr c (List.mem_mergeSort.mp m)
  · rw [List.length_map, List.length_mergeSort, ← snd, List.length_map]
  · rw [List.map_map]
    show SqL K.k H p (cs.map (·.2))
    rw [snd]; exact q
  · intro b m
    obtain ⟨c, mc, rfl⟩ := List.mem_map.mp m
    exact (pr c mc).dp (deps_mem o1 _ (mx c mc))
  · intro d hd d' hd'
    rw [List.map_map] at hd hd'
    obtain ⟨c, mc, rfl⟩ := List.mem_map.mp hd
    obtain ⟨c', mc', rfl⟩ := List.mem_map.mp hd'
    exact o3 _ (mx c mc) _ (mx c' mc')
  · intro b m
    obtain ⟨c, mc, rfl⟩ := List.mem_map.mp m
    have t := o2 _ (mx c mc)
    show ∃ x r, toPy c.1 = .tuple (x :: r)
    generalize c.1 = d at t
    unfold isTupNE at t
    split at t
    · rename_i y ys
      exact ⟨toPy y, toPys ys, by simp only [toPy, toPys]⟩
    · cases t
  · intro b m
    obtain ⟨c, mc, rfl⟩ := List.mem_map.mp m
    exact (dep_lay 12 _ (deps_mem o1 _ (mx c mc))).2
  · intro l nl
    rw [← e2, List.map_map]
    exact hq l nl
end
end Ds

namespace Ds
open PySem PySem.Spec PyProof.Rows L2
section
variable {X : Cx} {xa : Xa} {ea : Ec → Addr} {c : Cn} {Wx : WX} {a b e : Expr} {sa sb sc : S} {pos : Pos}

/-! ### subscripts -/
theorem at_F {K : Kx} {H : Hp} {W : Addr → Prop} {ds : List D} {vs : List V} {k : Int} {d : D} (r : Fs K H W ds vs) (h : atI ds k = some d) : ∃ v, atI vs k = some v ∧ F K H W d v := by
  unfold atI at h ⊢
  rw [r.length] at h
  cases q : ixN vs.length k with
  | none => rw [q] at h; cases h
  | some j =>
    rw [q] at h
    obtain ⟨v, e, f⟩ := r.get (i := j) h
    exact ⟨v, e, f⟩
theorem at_O {K : Kx} {H : Hp} {W : Addr → Prop} {ds : List D} {vs : List V} {as : List Addr} {k : Int} {d : D} (r : Os K H W ds vs as) (h : atI ds k = some d) : ∃ v bs, atI vs k = some v ∧ O K H W d v bs := by
  unfold atI at h ⊢
  rw [r.length] at h
  cases q : ixN vs.length k with
  | none => rw [q] at h; cases h
  | some j =>
    rw [q] at h
    obtain ⟨v, bs, e, f⟩ := r.get (i := j) h
    exact ⟨v, bs, e, f⟩
theorem at_frz {ds : List D} {k : Int} {d : D} (h : atI ds k = some d) : atI (frzs ds) k = some (frz d) := by
  rw [frzs_map]
  unfold atI at h ⊢
  rw [List.length_map]
  cases q : ixN ds.length k with
  | none => rw [q] at h; cases h
  | some j =>
    rw [q] at h
    have h : ds[j]? = some d := h
    show (ds.map frz)[j]? = _
    rw [List.getElem?_map, h]
    rfl
theorem frz_F {K : Kx} {H : Hp} {W : Addr → Prop} {d : D} {v : V} (h : F K H W d v) : frz d = d := by cases h <;> simp only [frz]
theorem ix_ok {x y : D} {σ : L2.St} {H H2 : Hp} {Q : VK} {W : Addr → Prop} {vx vy : V} {bx b_y : List Addr} (s : Same H H2) (w : Wok H2 W) (hx : ∀ b ∈ bx, ¬ W b)
    (ex : E (kx X xa) H2 (plus W bx) x vx bx) (ey : E (kx X xa) H2 (plus W b_y) y vy b_y) (h : Aft (evIx x y) (OkE (lx X xa ea c) H W Q) (ErE (lx X xa ea c) Wx σ H)) : rIx X.K vx vy H2 Q := by
  unfold evIx at h
  split at h
  · obtain ⟨p, vs, rfl, q, z, r, _⟩ := ex.t
    obtain ⟨rfl, _⟩ := ey.i
    obtain ⟨d, hd, h⟩ := aft_lift h
    obtain ⟨v, hv, f⟩ := at_F r hd
    exact .inr (.inl ⟨p, vs, _, v, rfl, rfl, q, hv, OkE.f h s (f.keep (fun _ _ q _ => q) fun _ q => .inl (.inl q))⟩)
  · obtain ⟨rfl, _⟩ := ey.i
    rw [aft_bind] at h
    obtain ⟨d, hd, h⟩ := aft_lift h
    cases ex with
    | bo hh z r =>
      obtain ⟨v, bs, hv, f⟩ := at_O r hd
      refine .inl ⟨_, _, _, v, rfl, rfl, SqL.of hh, hv, ?_⟩
      cases f with
      | fz f =>
        have e : kid _ = _ := show kid d = d by cases f <;> rfl
        have h : OkE (lx X xa ea c) H W Q (kid d) := h
        rw [e] at h
        exact OkE.f h s (f.keep (fun _ _ q _ => q) fun _ q => .inl (.inl q))
      | ob hh' l' r' =>
        exact h H2 _ [] s (.ob hh' l' (r'.keep (fun _ _ q _ => q) (fun _ q => .inl q) fun _ _ _ q => q)) (fun _ m => nomatch m) List.nodup_nil
      | sb _ hh' l' r' =>
        exact h H2 _ [] s (.ob hh' l' (r'.keep (fun _ _ q _ => q) (fun _ q => .inl q) fun _ _ _ q => q)) (fun _ m => nomatch m) List.nodup_nil
      | ow hh' z' r' =>
        exact h H2 _ [] s (.bo hh' z' (r'.keep (fun _ _ q _ => q) (fun _ q => .inl q) fun _ _ _ q => q)) (fun _ m => nomatch m) List.nodup_nil
      | dk hh' z' nd e r' =>
        exact h H2 _ [] s (.dk hh' z' nd e (r'.keep (fun _ _ q _ => q) (fun _ q => .inl q))) (fun _ m => nomatch m) List.nodup_nil
      | dn hh' z' nd dp e rk r' =>
        exact h H2 _ [] s (.dn hh' z' nd dp e (rk.keep (fun _ _ q _ => q) (fun _ q => .inl q)) (r'.keep (fun _ _ q _ => q) (fun _ q => .inl q))) (fun _ m => nomatch m) List.nodup_nil
    | o ex =>
      cases ex with
      | fz ex => cases ex
  · rename_i nb
    obtain ⟨rfl, _⟩ := ey.i
    rw [aft_bind] at h
    obtain ⟨d, hd, h⟩ := aft_lift h
    have h : OkE (lx X xa ea c) H W Q (frz d) := h
    cases ex with
    | bo hh z r => first | exact (nb rfl).elim | exact (nb _ rfl).elim
    | o ex =>
      cases ex with
      | fz ex =>
        cases ex with
        | lst hh n z r =>
          obtain ⟨v, hv, f⟩ := at_F r hd
          rw [frz_F f] at h
          exact .inl ⟨_, _, _, v, rfl, rfl, SqL.of hh, hv, OkE.f h s (f.keep (fun _ _ q _ => q) fun _ q => .inl (.inl q))⟩
        | lkK l c' dn q z vv r =>
          obtain ⟨v, hv, f⟩ := at_F r hd
          rw [frz_F f] at h
          exact .inl ⟨_, _, _, v, rfl, rfl, .inr ⟨_, _, _, l, c', dn, q, z, vv⟩, hv, OkE.f h s (f.keep (fun _ _ q _ => q) fun _ q => .inl (.inl q))⟩
        | lk hh n z r =>
          obtain ⟨v, hv, f⟩ := at_F r hd
          rw [frz_F f] at h
          exact .inl ⟨_, _, _, v, rfl, rfl, .inl (.inr ⟨_, hh⟩), hv, OkE.f h s (f.keep (fun _ _ q _ => q) fun _ q => .inl (.inl q))⟩
      | ow hh z r =>
        have r' := r.frz (W' := W) (fun _ q => .inl q) fun a m => hx a (List.mem_cons_of_mem _ m)
        obtain ⟨v, hv, f⟩ := at_F r' (at_frz hd)
        exact .inl ⟨_, _, _, v, rfl, rfl, SqL.of hh, hv, OkE.f h s f⟩
  · obtain ⟨rfl, _⟩ := ex.s
    obtain ⟨rfl, _⟩ := ey.i
    rw [aft_bind] at h
    obtain ⟨d, hd, h⟩ := aft_lift h
    obtain ⟨m, h⟩ := aft_ok? h
    exact .inr (.inr ⟨_, _, d, rfl, rfl, of_decide_eq_true m, hd, OkE.f h s (.str _)⟩)
  · exact h.elim
theorem r_ix (ha : PE X a (tE (lx X xa ea c) Wx sa)) (hb : PE X b (tE (lx X xa ea c) Wx sb)) (hs : PlainIx b) : PE X (.Subscript a b pos) (tE (lx X xa ea c) Wx (.ix sa sb)) := by
  refine pe_imp (pe_ix ix_seq ha hb hs) fun σ H Q ⟨ρ, as, W, e, w, h⟩ => ?_
  simp only [ev] at h
  exact two e w h fun x y H2 vx vy bx b_y s w2 hx hy ex ey _ _ h => ix_ok s w2 hx ex ey h

/-! ### slices -/
theorem o_none : PO X none (tO (lx X xa ea c) Wx none) := by
  refine po_imp po_none fun σ H Q ⟨ρ, as, W, e, w, h⟩ => ?_
  simp only [evO] at h
  exact h H (Same.refl H)
theorem o_some (ha : PE X a (tE (lx X xa ea c) Wx sa)) : PO X (some a) (tO (lx X xa ea c) Wx (some sa)) := by
  refine po_imp (po_some ha) fun σ H Q ⟨ρ, as, W, e, w, h⟩ => ?_
  simp only [evO, aft_bind] at h
  refine tE_go e w (h.imp (fun x hx H1 v1 b1 s1 e1 f1 n1 l1 w1 => ?_) fun _ q => q)
  cases x with
  | int i =>
    obtain ⟨rfl, _⟩ := e1.i
    exact ⟨i, rfl, hx H1 s1⟩
  | _ => exact hx.elim
theorem cut_F {K : Kx} {H : Hp} {W : Addr → Prop} {ds : List D} {vs : List V} {lo hi : Option Int} (r : Fs K H W ds vs) : Fs K H W (cutD ds lo hi) (cutV vs lo hi) := by
  unfold cutD cutV
  rw [r.length]
  exact (r.drop _).take _
theorem cut_whole {ds : List D} {lo hi : Option Int} (h : HT.sIx ds.length 0 lo = 0 ∧ HT.sIx ds.length ds.length hi = ds.length) : cutD ds lo hi = ds := by
  unfold cutD
  rw [h.1, h.2]
  simp
theorem r_sl {lo hi : Option Expr} {slo shi : Option S} {p2 : Pos} (ha : PE X a (tE (lx X xa ea c) Wx sa)) (hl : PO X lo (tO (lx X xa ea c) Wx slo)) (hh : PO X hi (tO (lx X xa ea c) Wx shi)) :
    PE X (.Subscript a (.Slice lo hi none p2) pos) (tE (lx X xa ea c) Wx (.sl sa slo shi)) := by
  refine pe_imp (pe_slice (sl_list.or sl_tupA) ha hl hh) fun σ H Q ⟨ρ, as, W, e, w, h⟩ => ?_
  simp only [ev, aft_bind] at h
  refine tE_go e w (h.imp (fun x hx H1 v1 b1 s1 e1 f1 n1 l1 w1 => ?_) fun _ q => q)
  refine tO_go l1 w1 (hx.imp (fun lo hlo H2 s2 l2 w2 => ?_) fun _ q => q.after s1)
  refine tO_go l2 w2 (hlo.imp (fun hi hhi H3 s3 l3 w3 => ?_) fun _ q => q.after (s1.trans s2))
  have s : Same H H3 := (s1.trans s2).trans s3
  have ex : E (kx X xa) H3 (plus W b1) x v1 b1 := e1.keep (s2.trans s3) fun _ q => .inl q
  have hb := fresh_no w f1
  unfold evSl at hhi
  cases x with
  | tup ds =>
    obtain ⟨p, vs, rfl, q, z, r, rfl⟩ := ex.t
    have r := r.keep (H' := H3) (W' := W) (fun _ _ q _ => q) fun _ q => .inl (.inl q)
    have hhi : OkE (lx X xa ea c) H W Q (.tup (cutD ds lo hi)) := hhi
    refine .inr ⟨p, vs, rfl, q, fun hw => ?_, fun hw p np => hhi.newT s (w.same s) (cut_F r) (Nat.le_trans (cutV_length _ _ _) z) np⟩
    rw [← r.length] at hw
    rw [cut_whole hw] at hhi
    exact hhi H3 _ [] s ex (fun _ m => nomatch m) List.nodup_nil
  | lst o ds =>
    simp only [aft_bind] at hhi
    obtain ⟨us, hu, hhi⟩ := aft_lift hhi
    obtain ⟨p, vs, rfl, q, z, kx, r⟩ := lst_F (L := lx X xa ea c) hb ex hu
    have hhi : OkE (lx X xa ea c) H W Q (.lst .ow (cutD us lo hi)) := hhi
    exact .inl ⟨p, vs, rfl, q, fun p np => hhi.new s (cut_F r) (Nat.le_trans (cutV_length _ _ _) z) np⟩
  | _ => exact hhi.elim
theorem r_rev {k : Nat} {p1 p2 p3 : Pos} (ha : PE X a (tE (lx X xa ea c) Wx sa)) : PE X (.Subscript a (.Slice none none (some (.UnaryOp .USub (.Constant (.int 1) k p1) p2)) p3) pos) (tE (lx X xa ea c) Wx (.rev sa)) := by
  refine pe_imp (pe_revA ha) fun σ H Q ⟨ρ, as, W, e, w, h⟩ => ?_
  simp only [ev, aft_bind] at h
  refine tE_go e w (h.imp (fun x hx H1 v1 b1 s1 e1 f1 n1 l1 w1 => ?_) fun _ q => q)
  have hb := fresh_no w f1
  unfold evRev at hx
  cases x with
  | tup ds =>
    obtain ⟨p, vs, rfl, q, z, r, rfl⟩ := e1.t
    have r := r.keep (H' := H1) (W' := W) (fun _ _ q _ => q) fun _ q => .inl (.inl q)
    have hx : OkE (lx X xa ea c) H W Q (.tup ds.reverse) := hx
    exact .inr ⟨p, vs, rfl, q, fun p np => hx.newT s1 (w.same s1) r.reverse (by rw [List.length_reverse]; exact z) np⟩
  | lst o ds =>
    simp only [aft_bind] at hx
    obtain ⟨us, hu, gx⟩ := aft_lift hx
    obtain ⟨p, vs, rfl, q, z, kx, r⟩ := lst_F (L := lx X xa ea c) hb e1 hu
    have gx : OkE (lx X xa ea c) H W Q (.lst .ow us.reverse) := gx
    exact .inl ⟨p, vs, rfl, q, fun p np => gx.new s1 r.reverse (by rw [List.length_reverse]; exact z) np⟩
  | _ =>
    simp only [aft_bind] at hx
    obtain ⟨us, hu, gx⟩ := aft_lift hx
    simp [lstOf] at hu

/-! ### built-ins -/
section
open PySem.W
theorem min_two_data {prog : Program} {w : World} {A : Around} {E : Value → Shared → Prop} {s : Shared} {a b : Value} {da db : PyData} {as bs : List Addr} {Q : Value → Shared → Prop} (hh : A.handled = none) (ra : Reads s.heap a da as) (rb : Reads s.heap b db bs) (ha : AlikeAll [da, db])
    (hu : A.units + 1 + PyData.depthAll [da, db] < cLine) (q : ∀ h' tk, (∀ b o, s.heap.get? b = some o → h'.get? b = some o) → Q (if dataLt db da = true then b else a) { s with heap := h', toks := tk }) :
    wpAny (model prog w) A (call (.builtin "min") [a, b]) Q E s := by
  refine call_function_tree F.kind_min F.plain_min F.entry_min (F.args_min2 _ _) ?_
  show wpAny _ A.in1 (Builtin.Builtins.bindParams "min" ["key", "default"] 0 ⟨[], []⟩ >>= _) _ _ s
  refine wpAny_bind (wpAny_of_eq (show Builtin.Builtins.bindParams "min" ["key", "default"] 0 ⟨[], []⟩ = pure [none, none] from rfl) ?_)
  refine wpAny_bind (wpAny_newObj_type ?_)
  -- the pair of both, walked
  obtain ⟨s1, e1⟩ : ∃ s1 : Shared, ({ s with heap := s.heap.push { cls := .type "tuple", data := .seq [a, b].toArray } } : Shared) = s1 := ⟨_, rfl⟩
  have k1 : ∀ c o, s.heap.get? c = some o → s1.heap.get? c = some o := fun c o e => e1 ▸ Heap.get?_push_of_some _ e
  have tp : s1.heap.IsTuple s.heap.objs.size #[a, b] := by subst e1; exact ⟨_, Heap.get?_push_size _ rfl, rfl, _, rfl⟩
  have rd : ReadsAll s1.heap (#[a, b] : Array Value).toList [da, db] (as ++ (bs ++ [])) := .cons (reads_keeps k1 ra) (.cons (reads_keeps k1 rb) .nil)
  show wpAny _ A.in1 (pyIter (.ref s.heap.objs.size) >>= _) _ _ ({ s with heap := s.heap.push { cls := .type "tuple", data := .seq [a, b].toArray } } : Shared)
  rw [e1]
  refine wpAny_bind (iter_tupleW (A := A.in1) hh tp fun s2 e W st hfp hw hk => ?_)
  refine wpAny_bind (wpAny_newObj_type ?_)
  have nS : s2.heap.objs.size ∉ [s1.heap.objs.size, s.heap.objs.size] := fun m => Nat.lt_irrefl _ (hfp _ m)
  have nm : (toString "min" ++ toString ".loop" : String) = "min.loop" := by decide
  rw [nm]
  refine wpAny_pure ⟨plainId_quiet F.plain_min_loop _, codeAny_min_loop_firstH (n := 2) W s1.heap hw _ (cmpIn_lt (A := A.in1) rd ha (by show A.units + 1 + _ < _; exact hu)) s2.heap.objs.size nS (fresh_in hk) _ (by decide) (fun c o e => Heap.get?_push_of_some _ (hk c o e))
    (W.frame 0 s2 _ s2.toks st (Nat.le_refl _) fun c _ o e => Heap.get?_push_of_some _ e) (Heap.get?_push_size _ rfl) fun v s' hP hm => ?_⟩
  obtain ⟨h', tk, e', hk'⟩ := moved_old e rfl (Moved.drop_new (tk := s2.toks) hm (Nat.le_refl _))
  subst e1
  rw [e']
  have hv : v = if dataLt db da = true then b else a := by
    have hP : (#[a, b] : Array Value)[argBest (fun i j => dataLt ([da, db].getD i .none) ([da, db].getD j .none)) 1]? = some v := hP
    have e0 : argBest (fun i j => dataLt ([da, db].getD i .none) ([da, db].getD j .none)) 1 = if dataLt db da = true then 1 else 0 := rfl
    rw [e0] at hP
    by_cases c : dataLt db da = true
    · rw [if_pos c] at hP ⊢; exact (Option.some.inj hP).symm
    · rw [if_neg c] at hP ⊢; exact (Option.some.inj hP).symm
  rw [hv]
  exact q h' tk fun c o e => hk' c o (Heap.get?_push_of_some _ e)
end

theorem ints_of : ∀ {ds : List D} {ns : List Int}, intsOf ds = some ns → ds = ns.map .int
  | [], ns, h => by simp [intsOf] at h; subst h; rfl
  | d :: ds, ns, h => by
    cases d with
    | int i =>
      simp only [intsOf, Option.map_eq_some_iff] at h
      obtain ⟨ms, h, rfl⟩ := h
      rw [ints_of h]; rfl
    | _ => simp [intsOf] at h
theorem bls_of : ∀ {ds : List D} {ns : List Bool}, blsOf ds = some ns → ds = ns.map .bl
  | [], ns, h => by simp [blsOf] at h; subst h; rfl
  | d :: ds, ns, h => by
    cases d with
    | bl i =>
      simp only [blsOf, Option.map_eq_some_iff] at h
      obtain ⟨ms, h, rfl⟩ := h
      rw [bls_of h]; rfl
    | _ => simp [blsOf] at h
theorem Fs.ints {K : Kx} {H : Hp} {W : Addr → Prop} : ∀ {ns : List Int} {vs : List V}, Fs K H W (ns.map .int) vs → vs = ns.map V.int
  | [], _, .nil => rfl
  | n :: ns, _, .cons h t => by
    cases h
    rw [Fs.ints t]; rfl
theorem Fs.bls {K : Kx} {H : Hp} {W : Addr → Prop} : ∀ {ns : List Bool} {vs : List V}, Fs K H W (ns.map .bl) vs → vs = ns.map V.bl
  | [], _, .nil => rfl
  | n :: ns, _, .cons h t => by
    cases h
    rw [Fs.bls t]; rfl
theorem mk_ints {K : Kx} {H : Hp} {W : Addr → Prop} : ∀ ns : List Int, Fs K H W (ns.map .int) (ns.map V.int)
  | [] => .nil
  | n :: ns => .cons (.int n) (mk_ints ns)
theorem insI_perm (x : Int) : ∀ xs : List Int, (insI x xs).Perm (x :: xs)
  | [] => List.Perm.refl _
  | y :: ys => by
    unfold insI
    split
    · exact List.Perm.refl _
    · exact ((insI_perm x ys).cons y).trans (List.Perm.swap x y ys)
theorem sortI_perm : ∀ xs : List Int, (sortI xs).Perm xs
  | [] => List.Perm.refl _
  | x :: xs => (insI_perm x (sortI xs)).trans ((sortI_perm xs).cons x)
theorem insI_sorted (x : Int) : ∀ xs : List Int, xs.Pairwise (· ≤ ·) → (insI x xs).Pairwise (· ≤ ·)
  | [], _ => by simp [insI]
  | y :: ys, h => by
    unfold insI
    rw [List.pairwise_cons] at h
    split
    · rename_i l
      refine List.pairwise_cons.mpr ⟨fun z m => ?_, List.pairwise_cons.mpr h⟩
      rcases List.mem_cons.mp m with m | m
      · rw [m]; exact l
      · exact Int.le_trans l (h.1 z m)
    · rename_i l
      refine List.pairwise_cons.mpr ⟨fun z m => ?_, insI_sorted x ys h.2⟩
      rcases List.mem_cons.mp ((insI_perm x ys).mem_iff.mp m) with m | m
      · rw [m]; omega
      · exact h.1 z m
theorem sortI_sorted : ∀ xs : List Int, (sortI xs).Pairwise (· ≤ ·)
  | [] => List.Pairwise.nil
  | x :: xs => insI_sorted x _ (sortI_sorted xs)

def bVal : Blt → Value
  | .len => .builtin "len" | .sum => .builtin "sum" | .all => .builtin "all" | .any => .builtin "any" | .tuple => .type "tuple" | .list => .type "list" | .int => .type "int"
  | .abs => .builtin "abs" | .min => .builtin "min" | .max => .builtin "max" | .sorted => .builtin "sorted" | .gcd => .builtin "math.gcd" | .inst _ => .builtin "isinstance"
def tyName : Ty → String
  | .tuple => "tuple" | .list => "list" | .int => "int" | .bool => "bool" | .str => "str"
def rMinD (K : PySem.W.Frag) : List V → Hp → VK → Prop := fun xs H Q => ∃ x y dx dy, xs = [x, y] ∧ Dp K H x dx ∧ Dp K H y dy ∧ PySem.W.AlikeAll [dx, dy] ∧ PyData.depthAll [dx, dy] ≤ 12 ∧ Q (if PySem.W.dataLt dy dx = true then y else x) H
def rBlt (K : PySem.W.Frag) (b : Blt) : List V → Hp → VK → Prop :=
  match b with
  | .len => fun xs H Q => ∃ x n, xs = [x] ∧ LenV K x H n ∧ Q (.int n) H
  | .sum => rSum K | .all => rAll K | .any => rAny K
  | .tuple => fun xs H Q => ∃ p ys, xs = [.ref p] ∧ ((SqL K H p ys ∧ ∀ l, H l = none → Q (.ref l) (upd H l (.tup ys))) ∨ (SqT K H p ys ∧ Q (.ref p) H))
  | .list => fun xs H Q => (∃ p ys, xs = [.ref p] ∧ (SqL K H p ys ∨ SqT K H p ys) ∧ ∀ l, H l = none → Q (.ref l) (upd H l (.lst ys))) ∨ ∃ x : Str, xs = [.str x] ∧ x.length ≤ sizeLine ∧ ∀ l, H l = none → Q (.ref l) (upd H l (.lst (x.cps.toList.map fun c => V.str ⟨#[c]⟩)))
  | .int => fun xs H Q => (∃ i, xs = [.int i] ∧ Q (.int i) H) ∨ ∃ k, xs = [.bl k] ∧ Q (.int (if k then 1 else 0)) H
  | .abs => fun xs H Q => ∃ i, xs = [.int i] ∧ Q (.int (if i < 0 then -i else i)) H
  | .min => fun xs H Q => (∃ i j, xs = [.int i, .int j] ∧ Q (.int (if j < i then j else i)) H) ∨ rMinD K xs H Q
  | .max => fun xs H Q => ∃ i j, xs = [.int i, .int j] ∧ Q (.int (if j > i then j else i)) H
  | .sorted => fun xs H Q => rSortedI K xs H Q ∨ rSortedD K xs H Q
  | .gcd => rGcd
  | .inst t => fun xs H Q => ∃ x, xs = [x] ∧ rIsi K [x, .ty (tyName t)] H Q
theorem vals_chars : ∀ {cs : List Nat} {its : List Value}, its.length = cs.length → (∀ (j : Nat) (v : Value), its[j]? = some v → ∃ c u, cs[j]? = some c ∧ v = .str ⟨#[c]⟩ u) → Vals (cs.map fun c => V.str ⟨#[c]⟩) its
  | [], [], _, _ => .nil
  | c :: cs, v :: its, l, h => by
    obtain ⟨c', u, e, rfl⟩ := h 0 v rfl
    cases e
    exact .cons ⟨u, rfl⟩ (vals_chars (by simpa using l) fun j v e => h (j + 1) v e)
  | [], _ :: _, l, _ => by simp at l
  | _ :: _, [], l, _ => by simp at l
theorem call_list_of2 (hc : X.calm = true) : CallR X (.type "list") (fun xs H Q => (∃ p ys, xs = [.ref p] ∧ (SqL X.K H p ys ∨ SqT X.K H p ys) ∧ ∀ l, H l = none → Q (.ref l) (upd H l (.lst ys))) ∨ ∃ x : Str, xs = [.str x] ∧ x.length ≤ sizeLine ∧ ∀ l, H l = none → Q (.ref l) (upd H l (.lst (x.cps.toList.map fun c => V.str ⟨#[c]⟩)))) := by
  intro pins s σ H xs us Q I r h
  rcases h with h | ⟨x, rfl, hx, q⟩
  · exact call_list_of pins s σ H xs us Q I r h
  · obtain ⟨u, rfl, ru⟩ := vals1 r
    obtain ⟨t, rfl⟩ := (show ∃ t, u = Value.str x t from ru)
    refine call_list_str (I.ok.hd hc) x t (fun h' tk acc' c' kp e items => ?_) hx
    have hv : Vals (x.cps.toList.map fun c => V.str ⟨#[c]⟩) acc'.toList := vals_chars (by simp [items.1]) fun j v hv => by
      obtain ⟨c, u, hc, rfl⟩ := items.2 j v (by simpa using hv)
      exact ⟨c, u, by simpa using hc, rfl⟩
    have e : h'.get? s.heap.objs.size = some { cls := .type "list", dict := none, data := .seq acc'.toList.toArray c', slots := #[] } := by simpa using e
    have hz : (x.cps.toList.map fun c => V.str ⟨#[c]⟩).length ≤ sizeLine := by rw [List.length_map, Array.length_toList]; exact hx
    exact ⟨.ref s.heap.objs.size, _, I.laid (t' := tk) kp (Nat.le_refl _) (show ObjOk X.prog X.w _ h' _ (.lst _) from ⟨hz, _, c', hv, e⟩), rfl, q _ (I.hok.fresh (Nat.le_refl _))⟩
def isInst : Blt → Bool
  | .inst _ => true
  | _ => false
theorem cr_min (hc : X.calm = true) (hu : X.A.units + 65 < cLine) : CallR X (.builtin "min") (rBlt X.K .min) := by
  intro pins s σ H xs us Q I r h
  rcases h with h | ⟨x, y, dx, dy, rfl, px, py, al, dpt, q⟩
  · exact call_min2 hc pins s σ H xs us Q I r h
  · obtain ⟨u, w', rfl, rx, ry⟩ := vals2 r
    obtain ⟨as, r1⟩ := Dp.reads I dx x u px rx
    obtain ⟨bs, r2⟩ := Dp.reads I dy y w' py ry
    refine min_two_data (I.ok.hd hc) r1 r2 al (by omega) fun h' tk k => ⟨_, H, I.kept k, ?_, q⟩
    by_cases c : PySem.W.dataLt dy dx = true
    · rw [if_pos c, if_pos c]; exact ry
    · rw [if_neg c, if_neg c]; exact rx
theorem cr_blt (hc : X.calm = true) (hu : X.A.units + 65 < cLine) (b : Blt) (nb : isInst b = false) : CallR X (bVal b) (rBlt X.K b) := by
  cases b with
  | len => exact call_len
  | sum => exact cr_sum hc
  | all => exact cr_all hc
  | any => exact cr_any hc
  | tuple => exact call_tuple_of
  | list => exact call_list_of2 hc
  | int => exact call_int1
  | abs => exact call_abs
  | min => exact cr_min hc hu
  | max => exact call_max2 hc
  | sorted => exact fun pins s σ H vs us Q I r h => h.elim (cr_sortedI pins s σ H vs us Q I r) (cr_sortedD hu pins s σ H vs us Q I r)
  | gcd => exact cr_gcd
  | inst t => simp [isInst] at nb
theorem Es.one {K : Kx} {H : Hp} {W : Addr → Prop} {d : D} {vs : List V} {bs : List Addr} (h : Es K H W [d] vs bs) : ∃ v, vs = [v] ∧ E K H W d v bs := by
  cases h with
  | cons h t => cases t; exact ⟨_, rfl, by rw [List.append_nil]; exact h⟩
theorem Es.two {K : Kx} {H : Hp} {W : Addr → Prop} {d d2 : D} {vs : List V} {bs : List Addr} (h : Es K H W [d, d2] vs bs) : ∃ v u b1 b2, vs = [v, u] ∧ E K H W d v b1 ∧ E K H W d2 u b2 := by
  cases h with
  | cons h t =>
    cases t with
    | cons h2 t => cases t; exact ⟨_, _, _, _, rfl, h, h2⟩
theorem ty_E {K : Kx} {H : Hp} {W : Addr → Prop} {d : D} {v : V} {bs : List Addr} (h : E K H W d v bs) (nx : noX1 d = true) (t : Ty) : ∃ tv, TyX K.k H v tv ∧ PySem.W.kitOne K.k tv (.type (tyName t)) = some (tyOf d t) := by
  have seqT : ∀ {a : Addr} {vs : List V}, SqT K.k H a vs → TyX K.k H (.ref a) (.type "tuple") := fun {a vs} q => by
    rcases q with (q | ⟨o, q⟩) | ⟨o, its, n, l, k, _⟩
    · exact .base (.tup q)
    · exact .fTuple q
    · exact .kTuple l k
  cases d with
  | dct _ _ _ _ => simp [noX1] at nx
  | obj _ _ _ _ => simp [noX1] at nx
  | non => obtain ⟨rfl, _⟩ := h.n; exact ⟨_, .base .non, by cases t <;> first | exact kit_ty (show _ = some true by decide +kernel) | exact kit_ty (show _ = some false by decide +kernel)⟩
  | bl b => obtain ⟨rfl, _⟩ := h.b; exact ⟨_, .base (.bl b), by cases t <;> first | exact kit_ty (show _ = some true by decide +kernel) | exact kit_ty (show _ = some false by decide +kernel)⟩
  | int b => obtain ⟨rfl, _⟩ := h.i; exact ⟨_, .base (.int b), by cases t <;> first | exact kit_ty (show _ = some true by decide +kernel) | exact kit_ty (show _ = some false by decide +kernel)⟩
  | str b => obtain ⟨rfl, _⟩ := h.s; exact ⟨_, .base (.str b), by cases t <;> first | exact kit_ty (show _ = some true by decide +kernel) | exact kit_ty (show _ = some false by decide +kernel)⟩
  | tup ds =>
    obtain ⟨a, vs, rfl, q, _⟩ := h.t
    exact ⟨_, seqT q, by cases t <;> first | exact kit_ty (show _ = some true by decide +kernel) | exact kit_ty (show _ = some false by decide +kernel)⟩
  | exc => simp [noX1] at nx
  | rg _ _ => simp [noX1] at nx
  | lst o ds =>
    have : ∃ a, v = .ref a ∧ TyX K.k H (.ref a) (.type "list") := by
      cases h with
      | bo hh _ _ => exact ⟨_, rfl, .base (.lst hh)⟩
      | o h =>
        cases h with
        | ow hh _ _ => exact ⟨_, rfl, .base (.lst hh)⟩
        | fz h =>
          cases h with
          | lst hh _ _ _ => exact ⟨_, rfl, .base (.lst hh)⟩
          | lk hh _ _ _ => exact ⟨_, rfl, .base (.frz hh)⟩
          | lkK l c' _ _ _ _ _ => exact ⟨_, rfl, .kList l c'⟩
    obtain ⟨a, rfl, q⟩ := this
    exact ⟨_, q, by cases t <;> first | exact kit_ty (show _ = some true by decide +kernel) | exact kit_ty (show _ = some false by decide +kernel)⟩
theorem Fs.chars {K : Kx} {H : Hp} {W : Addr → Prop} : ∀ {cs : List Nat}, Fs K H W (cs.map fun c => D.str ⟨#[c]⟩) (cs.map fun c => V.str ⟨#[c]⟩)
  | [] => .nil
  | c :: cs => .cons (.str _) Fs.chars
def isTupD : D → Bool
  | .tup _ => true
  | _ => false
theorem blt_ok {b : Blt} {ds : List D} {σ : L2.St} {H H2 : Hp} {Q : VK} {W : Addr → Prop} {vs : List V} {bs : List Addr} (s : Same H H2) (w : Wok H2 W) (hb : ∀ b ∈ bs, ¬ W b)
    (es : Es (kx X xa) H2 (plus W bs) ds vs bs) (h : Aft (evBlt b ds) (OkE (lx X xa ea c) H W Q) (ErE (lx X xa ea c) Wx σ H)) : rBlt X.K b vs H2 Q := by
  unfold evBlt at h
  split at h
  · obtain ⟨v, rfl, ex⟩ := es.one
    obtain ⟨rfl, _⟩ := ex.s
    obtain ⟨m, h⟩ := aft_ok? h
    exact ⟨_, _, rfl, ⟨of_decide_eq_true m, rfl⟩, OkE.f h s (.int _)⟩
  · obtain ⟨v, rfl, ex⟩ := es.one
    obtain ⟨a, us, rfl, q, z, r, _⟩ := ex.t
    exact ⟨_, _, rfl, .inr ⟨us, q, r.length⟩, OkE.f h s (.int _)⟩
  · obtain ⟨v, rfl, ex⟩ := es.one
    obtain ⟨a, us, rfl, q, z, l, _⟩ := E.l hb ex
    exact ⟨_, _, rfl, .inl ⟨us, q, l⟩, OkE.f h s (.int _)⟩
  · rename_i d
    obtain ⟨v, rfl, ex⟩ := es.one
    simp only [aft_bind] at h
    obtain ⟨xs, h1, g1⟩ := aft_lift h
    obtain ⟨ns, h2, g2⟩ := aft_lift g1
    cases d with
    | lst o ds =>
      obtain ⟨p, us, rfl, q, z, kx, r⟩ := lst_F (L := lx X xa ea c) hb ex h1
      rw [ints_of h2] at r
      exact ⟨p, ns, rfl, by rw [← r.ints]; exact q, OkE.f g2 s (.int _)⟩
    | _ => simp [lstOf] at h1
  · rename_i d
    obtain ⟨v, rfl, ex⟩ := es.one
    simp only [aft_bind] at h
    obtain ⟨xs, h1, g1⟩ := aft_lift h
    obtain ⟨ns, h2, g2⟩ := aft_lift g1
    cases d with
    | lst o ds =>
      obtain ⟨p, us, rfl, q, z, kx, r⟩ := lst_F (L := lx X xa ea c) hb ex h1
      rw [bls_of h2] at r
      exact ⟨p, ns, rfl, by rw [← r.bls]; exact q, OkE.f g2 s (.bl _)⟩
    | _ => simp [lstOf] at h1
  · rename_i d
    obtain ⟨v, rfl, ex⟩ := es.one
    simp only [aft_bind] at h
    obtain ⟨xs, h1, g1⟩ := aft_lift h
    obtain ⟨ns, h2, g2⟩ := aft_lift g1
    cases d with
    | lst o ds =>
      obtain ⟨p, us, rfl, q, z, kx, r⟩ := lst_F (L := lx X xa ea c) hb ex h1
      rw [bls_of h2] at r
      exact ⟨p, ns, rfl, by rw [← r.bls]; exact q, OkE.f g2 s (.bl _)⟩
    | _ => simp [lstOf] at h1
  · obtain ⟨v, rfl, ex⟩ := es.one
    simp only [aft_bind] at h
    obtain ⟨xs, h1, g2⟩ := aft_lift h
    obtain ⟨a, us, rfl, z, r, hk⟩ := ex.seq hb h1
    rcases hk with ⟨o, es', rfl, hl, hk⟩ | ⟨es', rfl, rfl, hk⟩
    · exact ⟨a, us, rfl, .inl ⟨hk, fun p np => OkE.newT g2 s w r z np⟩⟩
    · refine ⟨a, us, rfl, .inr ⟨hk, ?_⟩⟩
      obtain ⟨_, _, _, _, _, _, rfl⟩ := ex.t
      exact g2 H2 _ [] s ex (fun _ m => nomatch m) List.nodup_nil
  · obtain ⟨v, rfl, ex⟩ := es.one
    obtain ⟨rfl, _⟩ := ex.s
    obtain ⟨m, h⟩ := aft_ok? h
    have m := of_decide_eq_true m
    exact .inr ⟨_, rfl, m, fun p np => OkE.new h s Fs.chars (by rw [List.length_map, Array.length_toList]; exact m) np⟩
  · obtain ⟨v, rfl, ex⟩ := es.one
    simp only [aft_bind] at h
    obtain ⟨xs, h1, g2⟩ := aft_lift h
    obtain ⟨a, us, rfl, z, r, hk⟩ := ex.seq hb h1
    refine .inl ⟨a, us, rfl, ?_, fun p np => OkE.new g2 s r z np⟩
    rcases hk with ⟨o, es', rfl, hl, hk⟩ | ⟨es', rfl, rfl, hk⟩
    · exact .inl hk
    · exact .inr hk
  · obtain ⟨v, rfl, ex⟩ := es.one
    obtain ⟨rfl, _⟩ := ex.i
    exact .inl ⟨_, rfl, OkE.f h s (.int _)⟩
  · obtain ⟨v, rfl, ex⟩ := es.one
    obtain ⟨rfl, _⟩ := ex.b
    exact .inr ⟨_, rfl, OkE.f h s (.int _)⟩
  · obtain ⟨v, rfl, ex⟩ := es.one
    obtain ⟨rfl, _⟩ := ex.i
    exact ⟨_, rfl, OkE.f h s (.int _)⟩
  · obtain ⟨v, u, b1, b2, rfl, ex, ey⟩ := es.two
    obtain ⟨rfl, _⟩ := ex.i
    obtain ⟨rfl, _⟩ := ey.i
    exact .inl ⟨_, _, rfl, OkE.f h s (.int _)⟩
  · rename_i xs ys
    obtain ⟨v, u, b1, b2, rfl, ex, ey⟩ := es.two
    obtain ⟨c, h⟩ := aft_ok? h
    simp only [Bool.and_eq_true] at c
    obtain ⟨⟨c1, c2⟩, c3⟩ := c
    unfold likeD at c3
    simp only [Bool.and_eq_true] at c3
    obtain ⟨⟨⟨q1, q2⟩, q3⟩, q4⟩ := c3
    have e1 : toPy (.tup xs) ≠ .none := by simp [toPy]
    have e2 : toPy (.tup ys) ≠ .none := by simp [toPy]
    refine .inr ⟨v, u, toPy (.tup xs), toPy (.tup ys), rfl, ex.dp c1, ey.dp c2, ⟨fun a ha b hb => ?_, fun a ha => ?_⟩, ?_, ?_⟩
    · simp only [List.mem_cons, List.not_mem_nil, or_false] at ha hb
      rcases ha with rfl | rfl <;> rcases hb with rfl | rfl <;> assumption
    · simp only [List.mem_cons, List.not_mem_nil, or_false] at ha
      rcases ha with rfl | rfl <;> assumption
    · have a1 := (dep_lay 12 _ c1).2
      have a2 := (dep_lay 12 _ c2).2
      simp only [PyData.depthAll]
      omega
    · have key : ∀ (d : D) (v : V) (b : List Addr), isTupD d = true → E (kx X xa) H2 (plus W bs) d v b → OkE (lx X xa ea c) H W Q d → Q v H2 := fun d v b it e g => by
        cases d with
        | tup zs =>
          obtain ⟨_, _, _, _, _, _, rfl⟩ := e.t
          exact g H2 _ [] s (e.keep (Same.refl H2) fun a q => .inl (q.elim .inl fun m => nomatch m)) (fun _ m => nomatch m) List.nodup_nil
        | _ => cases it
      have h : OkE (lx X xa ea c) H W Q (if PySem.W.dataLt (toPy (.tup ys)) (toPy (.tup xs)) = true then .tup ys else .tup xs) := h
      by_cases cc : PySem.W.dataLt (toPy (.tup ys)) (toPy (.tup xs)) = true
      · rw [if_pos cc] at h ⊢
        exact key _ _ b2 rfl ey h
      · rw [if_neg cc] at h ⊢
        exact key _ _ b1 rfl ex h
  · obtain ⟨v, u, b1, b2, rfl, ex, ey⟩ := es.two
    obtain ⟨rfl, _⟩ := ex.i
    obtain ⟨rfl, _⟩ := ey.i
    exact ⟨_, _, rfl, OkE.f h s (.int _)⟩
  · rename_i d
    obtain ⟨v, rfl, ex⟩ := es.one
    simp only [aft_bind] at h
    obtain ⟨xs, h1, g1⟩ := aft_lift h
    unfold srt1 at g1
    cases d with
    | lst o ds =>
      obtain ⟨p, us, rfl, q, z, kx, r⟩ := lst_F (L := lx X xa ea c) hb ex h1
      split at g1
      · rename_i ns h2
        rw [ints_of h2] at r
        have g3 : OkE (lx X xa ea c) H W Q (.lst .ow ((sortI ns).map .int)) := g1
        refine .inl ⟨p, ns, rfl, by rw [← r.ints]; exact q, fun ns' l pm pw nl => ?_⟩
        have e : ns' = sortI ns := PySem.W.ksm_same (pm.trans (sortI_perm ns).symm) pw (sortI_sorted ns)
        subst e
        refine g3.new s (mk_ints _) ?_ nl
        have := r.ints
        rw [this, List.length_map] at z
        rw [List.length_map, (sortI_perm ns).length_eq]
        exact z
      · split at g1
        · rename_i ok
          obtain ⟨vs', f1, f2, f3⟩ := sorted_ok r ok q
          have g3 : OkE (lx X xa ea c) H W Q (.lst .ow (sortD xs)) := g1
          exact .inr (f3 Q fun l nl => g3.new s f1 (by rw [f2]; exact z) nl)
        · exact g1.elim
    | _ => simp [lstOf] at h1
  · obtain ⟨v, u, b1, b2, rfl, ex, ey⟩ := es.two
    obtain ⟨rfl, _⟩ := ex.i
    obtain ⟨rfl, _⟩ := ey.i
    exact ⟨_, _, rfl, OkE.f h s (.int _)⟩
  · obtain ⟨v, rfl, ex⟩ := es.one
    rename_i t d
    obtain ⟨nx, h⟩ := aft_ok? h
    obtain ⟨tv, ty, k⟩ := ty_E ex nx t
    exact ⟨v, rfl, v, .ty (tyName t), tv, _, _, rfl, .ty _, ty, k, OkE.f h s (.bl _)⟩
  · exact h.elim
theorem bltE {b : Blt} {ss : List S} {σ : L2.St} {H : Hp} {Q : VK} (h : tE (lx X xa ea c) Wx (.blt b ss) σ H Q) : tEs (lx X xa ea c) Wx ss σ H fun vs H1 => rBlt X.K b vs H1 Q := by
  obtain ⟨ρ, as, W, e, w, h⟩ := h
  simp only [ev, aft_bind] at h
  exact tEs_go e w (h.imp (fun ds hd H1 vs bs s1 e1 f1 n1 l1 w1 => blt_ok s1 (w.same s1) (fresh_no w f1) e1 hd) fun _ q => q)
/-- f(e, ..) of a built-in function, a built-in type, an imported function -/
theorem r_bltF {b : Blt} {x : Str} {id : String} {p : Pos} {es : List Expr} {ss : List S} (hc : X.calm = true) (hu : X.A.units + 65 < cLine) (hid : bVal b = .builtin id) (nb : isInst b = false) (hg : Gl X x) (hm : X.mg x = none) (hv : bootBuiltins x = some (.builtin id)) (ha : PA X (e :: es) (tEs (lx X xa ea c) Wx ss))
    (hn : x ≠ "__name__") (hdb : (x == ("__debug__" : Str)) = false) (he : starEach (e :: es) X.env = (false, eval e X.env) :: starEach es X.env) (hpl : (backTo pos (starEach es X.env)).any (·.1) = false) :
    PE X (.Call (.Name x p) (e :: es) [] pos) (tE (lx X xa ea c) Wx (.blt b ss)) := by
  have cr := cr_blt hc hu b nb
  rw [hid] at cr
  exact pe_imp (pe_callB cr hg hm hv ha hn hdb he hpl) fun _ _ _ h => bltE h
theorem r_bltT {b : Blt} {x : Str} {T : String} {p : Pos} {es : List Expr} {ss : List S} (hc : X.calm = true) (hu : X.A.units + 65 < cLine) (hid : bVal b = .type T) (nb : isInst b = false) (hg : Gl X x) (hm : X.mg x = none) (hv : bootBuiltins x = some (.type T)) (ha : PA X (e :: es) (tEs (lx X xa ea c) Wx ss))
    (hn : x ≠ "__name__") (hdb : (x == ("__debug__" : Str)) = false) (he : starEach (e :: es) X.env = (false, eval e X.env) :: starEach es X.env) (hpl : (backTo pos (starEach es X.env)).any (·.1) = false) :
    PE X (.Call (.Name x p) (e :: es) [] pos) (tE (lx X xa ea c) Wx (.blt b ss)) := by
  have cr := cr_blt hc hu b nb
  rw [hid] at cr
  exact pe_imp (pe_callTy cr hg hm hv ha hn hdb he hpl) fun _ _ _ h => bltE h
theorem r_bltI {b : Blt} {x : Str} {id : String} {p : Pos} {es : List Expr} {ss : List S} (hc : X.calm = true) (hu : X.A.units + 65 < cLine) (hid : bVal b = .builtin id) (nb : isInst b = false) (hg : Gl X x) (hm : X.mg x = some (.builtin id)) (ha : PA X (e :: es) (tEs (lx X xa ea c) Wx ss))
    (hdb : (x == ("__debug__" : Str)) = false) (he : starEach (e :: es) X.env = (false, eval e X.env) :: starEach es X.env) (hpl : (backTo pos (starEach es X.env)).any (·.1) = false) :
    PE X (.Call (.Name x p) (e :: es) [] pos) (tE (lx X xa ea c) Wx (.blt b ss)) := by
  have cr := cr_blt hc hu b nb
  rw [hid] at cr
  exact pe_imp (pe_callBfun cr hg hm ha hdb he hpl) fun _ _ _ h => bltE h
/-- len(e), also where an exception is handled -/
theorem r_hlen {p : Pos} {ss : S} (hg : Gl X "len") (hm : X.mg "len" = none) (ha : PE X e (tE (lx X xa ea c) Wx ss)) (he : starEach [e] X.env = (false, eval e X.env) :: starEach [] X.env) :
    PE X (.Call (.Name "len" p) [e] [] pos) (tE (lx X xa ea c) Wx (.hlen ss)) := by
  refine pe_imp (pe_callB (r := rBlt X.K .len) call_len hg hm (by decide +kernel) (pa_cons ha pa_nil he) (by decide +kernel) (by decide +kernel) he rfl) fun σ H Q ⟨ρ, as, W, e, w, h⟩ => ?_
  simp only [ev, aft_bind] at h
  refine tE_go e w (h.imp (fun x hx H1 v1 b1 s1 e1 f1 n1 l1 w1 => ?_) fun _ q => q)
  have es : Es (kx X xa) H1 (plus W b1) [x] [v1] b1 := by
    have := Es.cons e1 (Es.nil (K := kx X xa) (H := H1) (W := plus W b1))
    rw [List.append_nil] at this
    exact this
  exact blt_ok s1 (w.same s1) (fresh_no w f1) es hx
theorem findD_some {y : D} : ∀ {ds : List D} {k j : Nat}, findD y ds k = some j → ∃ i z, j = k + i ∧ ds[i]? = some z ∧ deq z y = true ∧ ∀ m z', m < i → ds[m]? = some z' → deq z' y = false
  | [], k, j, h => by simp [findD] at h
  | d :: ds, k, j, h => by
    rw [findD] at h
    split at h
    · rename_i q
      cases h
      exact ⟨0, d, rfl, rfl, q, fun m _ l => absurd l (Nat.not_lt_zero _)⟩
    · rename_i q
      obtain ⟨i, z, e, h1, h2, h3⟩ := findD_some h
      refine ⟨i + 1, z, by omega, by simpa using h1, h2, fun m z' l hm => ?_⟩
      cases m with
      | zero =>
        have : z' = d := by simpa using hm.symm
        rw [this]; simpa using q
      | succ m => exact h3 m z' (by omega) (by simpa using hm)
theorem toPys_get : ∀ {ds : List D} {i : Nat}, (toPys ds)[i]? = (ds[i]?).map toPy
  | [], i => by simp [toPys]
  | d :: ds, 0 => by simp [toPys]
  | d :: ds, i + 1 => by simp [toPys, toPys_get (ds := ds) (i := i)]
/-- a.index(e) -/
theorem r_pos {e2 : Expr} {apos cpos : Pos} {ss2 : S} (hu : X.A.units + 65 < cLine) (ha : PE X e (tE (lx X xa ea c) Wx sa)) (he : PE X e2 (tE (lx X xa ea c) Wx ss2)) (hbase : attributeBase e "index" X.env (eval e X.env) = eval e X.env)
    (hs : starEach [e2] X.env = (false, eval e2 X.env) :: starEach [] X.env) (hl : (apos.endLine == cpos.line) = true) : PE X (.Call (.Attribute e "index" apos) [e2] [] cpos) (tE (lx X xa ea c) Wx (.pos sa ss2)) := by
  refine pe_imp (pe_bm PySem.F.plainAttrs_list PySem.F.slot_list_index PySem.F.type_list_index (mt_indexD hu) ha (pa_cons he pa_nil hs) hbase (by rw [hs]; rfl) hl hs rfl) fun σ H Q ⟨ρ, as, W, e, w, h⟩ => ?_
  simp only [ev, aft_bind] at h
  refine tE_go e w (h.imp (fun x hx H1 v1 b1 s1 e1 f1 n1 l1 w1 => ?_) fun _ q => q)
  have hb := fresh_no w f1
  split at hx
  · rename_i il
    cases x with
    | lst o ds =>
      obtain ⟨a, vs, rfl, hk, z, lv, _, _⟩ := E.l hb e1
      simp only [aft_bind] at hx
      refine ⟨.inl ⟨rfl, vs, hk⟩, tE_go l1 w1 (hx.imp (fun y hy H2 v2 b2 s2 e2 f2 n2 l2 w2 => ?_) fun _ q => q.after s1)⟩
      unfold evPos at hy
      simp only at hy
      split at hy
      · rename_i m
        simp only [Bool.and_eq_true] at m
        split at hy
        · rename_i j hj
          obtain ⟨i, zz, ej, h1, h2, h3⟩ := findD_some hj
          have ex : E (kx X xa) H2 (plus W b1) (.lst o ds) (.ref a) b1 := e1.keep s2 fun _ q => .inl q
          have dx : Dp X.K H2 (.ref a) (.list (toPys ds)) := ex.dp m.1
          refine ⟨a, v2, toPy y, toPys ds, j, toPy zz, rfl, rfl, dx, e2.dp m.2, dep_shaped (d := .lst o ds) m.1, dep_shaped m.2, ?_, h2, fun m' z' l' hm' => ?_, ?_⟩
          · rw [toPys_get, show j = i by omega, h1]; rfl
          · rw [toPys_get] at hm'
            cases q : ds[m']? with
            | none => rw [q] at hm'; cases hm'
            | some d' =>
              rw [q] at hm'
              have : z' = toPy d' := by simpa using hm'.symm
              rw [this]
              exact h3 m' d' (by omega) q
          · have hy : OkE (lx X xa ea c) H W Q (.int (j : Nat)) := hy
            exact hy H2 (.int (j : Nat)) [] (s1.trans s2) (.o (.fz (.int _))) (fun _ m => nomatch m) List.nodup_nil
        · exact hy.elim
      · exact hy.elim
    | _ => cases il
  · exact hx.elim
/-- isinstance(e, T) -/
theorem r_inst {t : Ty} {x y : Str} {p p2 : Pos} (hx : x = "isinstance") (hy : y = Str.ofString (tyName t)) (hg : Gl X x) (hm : X.mg x = none) (hg2 : Gl X y) (hm2 : X.mg y = none) (ha : PE X e (tE (lx X xa ea c) Wx sa)) (hs : starEach (e :: [.Name y p2]) X.env = (false, eval e X.env) :: starEach [.Name y p2] X.env) :
    PE X (.Call (.Name x p) [e, .Name y p2] [] pos) (tE (lx X xa ea c) Wx (.blt (.inst t) [sa])) := by
  subst hx hy
  have h2 : PE X (.Name (Str.ofString (tyName t)) p2) (tC (.ty (tyName t))) := by
    cases t <;> exact pe_bltn (u := .type _) hg2 hm2 (by decide +kernel) rfl (by decide +kernel) (by decide +kernel)
  refine pe_imp (pe_callB (id := "isinstance") call_isi hg hm (by decide +kernel) (pa_cons ha (pa_cons h2 pa_nil) hs) (by decide +kernel) (by decide +kernel) hs rfl) fun σ H Q h => ?_
  have h := bltE h
  obtain ⟨ρ, as, W, e, w, h⟩ := h
  simp only [evs, aft_bind] at h
  refine tE_go e w (h.imp (fun x hx H1 v1 b1 s1 e1 f1 n1 l1 w1 => ?_) fun _ q => q)
  have hx : rBlt X.K (.inst t) [v1] H1 Q := hx H1 [v1] b1 s1 (by have := Es.cons e1 .nil; rw [List.append_nil] at this; exact this) f1 n1
  obtain ⟨x, ex, hx⟩ := hx
  cases ex
  exact hx
end

/-! ### a def's promise and its call -/
mutual
theorem F.toX {k : PySem.W.Frag} {H : Hp} {W : Addr → Prop} {xa : Xa} : ∀ {d : D} {v : V}, F ⟨k, none⟩ H W d v → F ⟨k, xa⟩ H W d v
  | _, _, .non => .non
  | _, _, .bl b => .bl b
  | _, _, .int i => .int i
  | _, _, .str x => .str x
  | _, _, .tup h n z r => .tup h n z (Fs.toX r)
  | _, _, .tupK l c q z v r => .tupK l c q z v (Fs.toX r)
  | _, _, .lst h n z r => .lst h n z (Fs.toX r)
  | _, _, .lk h n z r => .lk h n z (Fs.toX r)
  | _, _, .lkK l c dn q z v r => .lkK l c dn q z v (Fs.toX r)
  | _, _, .exc h => nomatch h
  | _, _, .rg h n => .rg h n
  | _, _, .dk h n z nd e r => .dk h n z nd e (Fs.toX r)
  | _, _, .dn h n z nd dp e rk r => .dn h n z nd dp e (Fs.toX rk) (Fs.toX r)
  | _, _, .ob h n l r => .ob h n l (Fs.toX r)
theorem Fs.toX {k : PySem.W.Frag} {H : Hp} {W : Addr → Prop} {xa : Xa} : ∀ {ds : List D} {vs : List V}, Fs ⟨k, none⟩ H W ds vs → Fs ⟨k, xa⟩ H W ds vs
  | _, _, .nil => .nil
  | _, _, .cons h t => .cons (F.toX h) (Fs.toX t)
end
mutual
theorem O.toX {k : PySem.W.Frag} {H : Hp} {W : Addr → Prop} {xa : Xa} : ∀ {d : D} {v : V} {as : List Addr}, O ⟨k, none⟩ H W d v as → O ⟨k, xa⟩ H W d v as
  | _, _, _, .fz h => .fz h.toX
  | _, _, _, .ow h z r => .ow h z (Os.toX r)
  | _, _, _, .dk h z nd e r => .dk h z nd e r.toX
  | _, _, _, .dn h z nd dp e rk r => .dn h z nd dp e rk.toX r.toX
  | _, _, _, .ob h l r => .ob h l (Os.toX r)
  | _, _, _, .sb e _ _ _ => nomatch e
theorem Os.toX {k : PySem.W.Frag} {H : Hp} {W : Addr → Prop} {xa : Xa} : ∀ {ds : List D} {vs : List V} {as : List Addr}, Os ⟨k, none⟩ H W ds vs as → Os ⟨k, xa⟩ H W ds vs as
  | _, _, _, .nil => .nil
  | _, _, _, .cons h t => .cons (O.toX h) (Os.toX t)
end
/-- no error's address is held -/
def noE (xa : Xa) : Prop := ∀ a, xa ≠ some (false, a)
mutual
theorem F.unE {k : PySem.W.Frag} {H : Hp} {W : Addr → Prop} {xa : Xa} (ne : noE xa) : ∀ {d : D} {v : V}, F ⟨k, xa⟩ H W d v → F ⟨k, none⟩ H W d v
  | _, _, .non => .non
  | _, _, .bl b => .bl b
  | _, _, .int i => .int i
  | _, _, .str x => .str x
  | _, _, .tup h n z r => .tup h n z (Fs.unE ne r)
  | _, _, .tupK l c q z v r => .tupK l c q z v (Fs.unE ne r)
  | _, _, .lst h n z r => .lst h n z (Fs.unE ne r)
  | _, _, .lk h n z r => .lk h n z (Fs.unE ne r)
  | _, _, .lkK l c dn q z v r => .lkK l c dn q z v (Fs.unE ne r)
  | _, _, .exc h => absurd h (ne _)
  | _, _, .rg h n => .rg h n
  | _, _, .dk h n z nd e r => .dk h n z nd e (Fs.unE ne r)
  | _, _, .dn h n z nd dp e rk r => .dn h n z nd dp e (Fs.unE ne rk) (Fs.unE ne r)
  | _, _, .ob h n l r => .ob h n l (Fs.unE ne r)
theorem Fs.unE {k : PySem.W.Frag} {H : Hp} {W : Addr → Prop} {xa : Xa} (ne : noE xa) : ∀ {ds : List D} {vs : List V}, Fs ⟨k, xa⟩ H W ds vs → Fs ⟨k, none⟩ H W ds vs
  | _, _, .nil => .nil
  | _, _, .cons h t => .cons (F.unE ne h) (Fs.unE ne t)
end
mutual
/-- what is owned, the object whose method runs not among it -/
theorem O.unE {k : PySem.W.Frag} {H : Hp} {W : Addr → Prop} {xa : Xa} (ne : noE xa) : ∀ {d : D} {v : V} {as : List Addr}, (∀ a, xa = some (true, a) → a ∉ as) → O ⟨k, xa⟩ H W d v as → O ⟨k, none⟩ H W d v as
  | _, _, _, _, .fz h => .fz (h.unE ne)
  | _, _, _, na, .ow h z r => .ow h z (Os.unE ne (fun a e m => na a e (List.mem_cons_of_mem _ m)) r)
  | _, _, _, _, .dk h z nd e r => .dk h z nd e (r.unE ne)
  | _, _, _, _, .dn h z nd dp e rk r => .dn h z nd dp e (rk.unE ne) (r.unE ne)
  | _, _, _, na, .ob h l r => .ob h l (Os.unE ne (fun a e m => na a e (List.mem_cons_of_mem _ m)) r)
  | _, _, _, na, .sb e _ _ _ => absurd List.mem_cons_self (na _ e)
theorem Os.unE {k : PySem.W.Frag} {H : Hp} {W : Addr → Prop} {xa : Xa} (ne : noE xa) : ∀ {ds : List D} {vs : List V} {as : List Addr}, (∀ a, xa = some (true, a) → a ∉ as) → Os ⟨k, xa⟩ H W ds vs as → Os ⟨k, none⟩ H W ds vs as
  | _, _, _, _, .nil => .nil
  | _, _, _, na, .cons h t => .cons (O.unE ne (fun a e m => na a e (List.mem_append_left _ m)) h) (Os.unE ne (fun a e m => na a e (List.mem_append_right _ m)) t)
end
/-- the def at x does what g says -/
def spF (K : PySem.W.Frag) (ea : Ec → Addr) (g : List D → Re D) (n : Nat) : Sp := fun vs H Q E => vs.length = n ∧ ∃ ds W, Fs ⟨K, none⟩ H W ds vs ∧ Wok H W ∧
  Aft (g ds) (OkO ⟨⟨K, none⟩, ea, { fs := [] }⟩ H W Q) (fun e => ∀ H', Same H H' → E (.ref (ea e)) none H')
structure Rdy (X : Cx) (ea : Ec → Addr) (x : Str) (n : Nat) (g : List D → Re D) : Prop where
  ok : ∃ f fd ps k, FnOk X.prog X.w X.K X.mg X.base (L2N.CX X.prog X.w) k f fd ps (spF X.K ea g n) ∧ Room k X.A ∧ X.mg x = some (.ref f) ∧ PySem.W.keepIn X.K (.ref f) = true ∧ Binds X.K fd ps []
section
variable {X : Cx} {xa : Xa} {ea : Ec → Addr} {c : Cn} {Wx : WX} {a b e : Expr} {sa sb sc : S} {pos : Pos}
theorem O.ofE {K : Kx} {H : Hp} {W : Addr → Prop} {d : D} {v : V} {bs : List Addr} (h : E K H W d v bs) (n : isBo d = false) : O K H W d v bs := by
  cases h with
  | o h => exact h
  | _ => simp [isBo] at n
theorem Es.args {K : Kx} {H : Hp} {W : Addr → Prop} {as : List Addr} (hb : ∀ b ∈ as, ¬ W b) : ∀ {ds : List D} {vs : List V} {bs : List Addr}, (∀ b ∈ bs, b ∈ as) → ds.any isBo = false → Es K H (plus W as) ds vs bs → Fs K H W (ds.map argD) vs
  | _, _, _, _, _, .nil => .nil
  | _, _, _, hs, nb, .cons h t => by
    simp only [List.any_cons, Bool.or_eq_false_iff] at nb
    refine .cons ?_ (Es.args hb (fun b m => hs b (List.mem_append_right _ m)) nb.2 t)
    have h' := O.ofE h nb.1
    have e : ∀ d : D, isBo d = false → argD d = frz d := fun d n => by
      cases d with
      | lst o ds => cases o <;> first | rfl | (simp [isBo] at n)
      | dct o t ks vs => cases o <;> first | rfl | (simp [isBo] at n)
      | obj o c ns ds => cases o <;> first | rfl | (simp [isBo] at n)
      | _ => rfl
    rw [e _ nb.1]
    exact h'.frz (fun a q => .inl q) fun a m => hb a (hs a (List.mem_append_left _ m))
theorem Es.args0 {K : Kx} {H : Hp} {W : Addr → Prop} : ∀ {ds : List D} {vs : List V} {bs : List Addr}, Es K H W ds vs bs → Fs K H (fun _ => False) (ds.map argD) vs
  | _, _, _, .nil => .nil
  | _, _, _, .cons h t => .cons h.arg0 (Es.args0 t)
theorem Same.after {K : Kx} {H H' : Hp} (s : Same H H') : Same H H' := s
theorem evs_len {ρ : Rho} : ∀ {ss : List S} {ds : List D}, evs c ss ρ = .ok ds → ds.length = ss.length := by
  intro ss
  induction ss with
  | nil => intro ds h; simp only [evs] at h; cases h; rfl
  | cons s ss ih =>
    intro ds h
    simp only [evs] at h
    cases q : ev c s ρ with
    | ok d =>
      rw [q] at h
      cases q2 : evs c ss ρ with
      | ok ds' => rw [q2] at h; cases h; simp [ih q2]
      | er _ => rw [q2] at h; cases h
      | st => rw [q2] at h; cases h
    | er _ => rw [q] at h; cases h
    | st => rw [q] at h; cases h
/-- the arguments stand: the callee's promise -/
theorem call_tail (ne : noE xa) {g : List D → Re D} {n : Nat} {σ : L2.St} {H H1 : Hp} {W : Addr → Prop} {Q : VK} {ds : List D} {vs : List V} {bs : List Addr} (l : ds.length = n) (w : Wok H W) (s1 : Same H H1) (e1 : Es (kx X xa) H1 (plus W bs) ds vs bs) (f1 : Fresh H bs)
    (h : Aft (if ds.any isBo = true then g (ds.map argD) >>= fun d => ok? (clean d) d else g (ds.map argD)) (OkE (lx X xa ea c) H W Q) (ErE (lx X xa ea c) Wx σ H)) : spF X.K ea g n vs H1 Q (WE Wx σ) := by
  refine ⟨by rw [← e1.length, l], ?_⟩
  split at h
  · refine ⟨_, _, e1.args0.unE ne, fun _ q => q.elim, ?_⟩
    rw [aft_bind] at h
    refine h.imp (fun d hd => ?_) fun er q => fun H' s => q H' (s1.trans s)
    obtain ⟨cl, hd⟩ := aft_ok? hd
    intro H' v bs' s' o' f' n'
    refine hd H' v bs' (s1.trans s') (.o (O.toX (o'.clean (W := plus W bs') (fun a q => ?_) cl))) (f'.same s1) n'
    rcases q with q | q
    · exact (w.same (s1.trans s')) a q
    · exact o'.there a q
  · rename_i nb
    refine ⟨_, _, (e1.args (fresh_no w f1) (fun b m => m) (by simpa using nb)).unE ne, w.same s1, h.imp (fun d hd => ?_) fun er q => fun H' s => q H' (s1.trans s)⟩
    intro H' v bs' s' o' f' n'
    exact hd H' v bs' (s1.trans s') (.o (O.toX o')) (f'.same s1) n'
theorem callE (ne : noE xa) {f : Nat} {g : List D → Re D} {n : Nat} {ss : List S} {σ : L2.St} {H : Hp} {Q : VK} (hf : c.fs[f]? = some g) (hn : ss.length = n) (h : tE (lx X xa ea c) Wx (.call f ss) σ H Q) :
    tEs (lx X xa ea c) Wx ss σ H fun vs H1 => spF X.K ea g n vs H1 Q (WE Wx σ) := by
  obtain ⟨ρ, as, W, e, w, h⟩ := h
  simp only [ev, evCall, hf, aft_bind] at h
  cases q : evs c ss ρ with
  | st => rw [q] at h; exact h.elim
  | er er =>
    rw [q] at h
    refine ⟨ρ, as, W, e, w, ?_⟩
    show Aft (evs c ss ρ) _ _
    rw [q]
    exact h
  | ok ds =>
    rw [q] at h
    have l := evs_len q
    refine tEs_go e w ?_
    show Aft (evs c ss ρ) _ _
    rw [q]
    intro H1 vs bs s1 e1 f1 n1 l1 w1
    exact call_tail ne (by rw [l, hn]) w s1 e1 f1 h
theorem r_call (ne : noE xa) {f : Nat} {g : List D → Re D} {n : Nat} {x : Str} {p : Pos} {es : List Expr} {ss : List S} (tk : L2N.Takes X Wx) (R : Rdy X ea x n g) (hf : c.fs[f]? = some g) (hn : ss.length = n) (hg : Gl X x) (ha : PA X (e :: es) (tEs (lx X xa ea c) Wx ss))
    (hdb : (x == ("__debug__" : Str)) = false) (he : starEach (e :: es) X.env = (false, eval e X.env) :: starEach es X.env) (hpl : (backTo pos (starEach es X.env)).any (·.1) = false) :
    PE X (.Call (.Name x p) (e :: es) [] pos) (tE (lx X xa ea c) Wx (.call f ss)) := by
  obtain ⟨fa, fd, ps, k, F, hr, hm, hk, hb⟩ := R.ok
  exact pe_imp (pe_callS F hr hg hm hk hb (fun σ => L2N.passAt tk σ) ha hdb he hpl) fun _ _ _ h => callE ne hf hn h
/-- isinstance(e, C) within the suite that holds e -/
theorem r_isE {ec b : Ec} {x n y : Str} {i : Nat} {a : Addr} {p p2 p3 : Pos} {Y : Cx} {oe : Obj} {pn : List (Addr × Obj)} (hY : X = Y.suite a ((a, oe) :: pn)) (hz : L2N.Zn (.ref (ea ec)) none oe) (hfd : ∃ vs, oe.data = .fields vs)
    (hce : c.ce = some ec) (Cc : ExcC X.K (ea ec)) (hx : x = "isinstance") (hg : Gl X x) (hm : X.mg x = none) (hN : X.N[i]? = some n) (hv : Vis X.env.scope n) (hd : (n == ("__debug__" : Str)) = false) (hcd : (n == ("__classdict__" : Str)) = false)
    (hgy : Gl X y) (hdy : (y == ("__debug__" : Str)) = false) {cv : Value} (hmy : (X.mg y = some cv ∧ ∃ C, cv = .ref C) ∨ (X.mg y = none ∧ bootBuiltins y = some cv ∧ y ≠ "__name__" ∧ ∃ T, cv = .type T)) (hk : PySem.W.kitOne X.K (.ref (ea ec)) cv = some (ec.sub b)) :
    PE X (.Call (.Name x p) [.Name n p2, .Name y p3] [] pos) (tE (lx X (some (false, a)) ea c) Wx (.isE i b)) := by
  subst hY hx
  have h2 : ∃ v, RelV v cv ∧ PE (Y.suite a ((a, oe) :: pn)) (.Name y p3) (tC v) ∧ ∀ u, RelV v u → u = cv := by
    rcases hmy with ⟨hm, C, rfl⟩ | ⟨hm, hb, hn, T, rfl⟩
    · exact ⟨.ref C, rfl, pe_glob hgy hm rfl hdy, fun u h => h⟩
    · exact ⟨.ty T, rfl, pe_bltn hgy hm hb rfl hn hdy, fun u h => h⟩
  obtain ⟨v, rv, h2, hu⟩ := h2
  refine pe_imp (pe_callB (id := "isinstance") (call_isE Cc hz.zc hfd) hg hm (by decide +kernel) (pa_cons (pe_var hN hv hd hcd) (pa_cons h2 pa_nil) rfl) (by decide +kernel) (by decide +kernel) rfl rfl) fun σ H Q h => ?_
  obtain ⟨ρ, as, W, e, w, h⟩ := h
  simp only [ev, hce] at h
  split at h
  · rename_i e' hs he
    cases he
    obtain ⟨u, bs, hu', o, _⟩ := e.get hs
    cases o with
    | fz f =>
      cases f with
      | exc ha =>
        cases ha
        exact ⟨_, hu', v, cv, _, rfl, hu, hk, OkE.f h (Same.refl H) (.bl _)⟩
  · exact h.elim
end
end Ds

namespace Ds
open PySem PySem.Spec PyProof.Rows L2
/-! ## 6b. Instances -/
/-! ### attributes -/
theorem lookup_getF {H : Hp} {x : Str} : ∀ {ns : List Str} {ds : List D} {vs : List V} {d : D}, ds.length = vs.length → getF ns ds x = some d → ∃ j v, (ns.zip vs).lookup x = some v ∧ ds[j]? = some d ∧ vs[j]? = some v ∧ putNs ns x = ns ∧ (∀ (d' : D), putA ns ds x d' = ds.set j d') ∧ ∀ v', putA ns vs x v' = vs.set j v'
  | [], ds, vs, d, _, h => by simp [getF] at h
  | n :: ns, [], vs, d, _, h => by simp [getF] at h
  | n :: ns, e :: ds, [], d, l, h => by simp at l
  | n :: ns, e :: ds, v :: vs, d, l, h => by
    simp only [getF] at h
    by_cases q : n = x
    · rw [if_pos q] at h
      cases h
      refine ⟨0, v, ?_, rfl, rfl, by simp only [putNs]; rw [if_pos q], fun d' => by simp only [putA]; rw [if_pos q]; rfl, fun v' => by simp only [putA]; rw [if_pos q]; rfl⟩
      have hb : (x == n) = true := beq_iff_eq.mpr q.symm
      simp only [List.zip_cons_cons, List.lookup, hb]
    · rw [if_neg q] at h
      obtain ⟨j, v', h1, h2, h3, h4, h5, h6⟩ := lookup_getF (H := H) (by simpa using l) h
      have hb : (x == n) = false := beq_eq_false_iff_ne.mpr fun e => q e.symm
      refine ⟨j + 1, v', by simp only [List.zip_cons_cons, List.lookup, hb]; exact h1, h2, h3, by simp only [putNs]; rw [if_neg q, h4], fun d' => by simp only [putA]; rw [if_neg q, h5]; rfl, fun v' => by simp only [putA]; rw [if_neg q, h6]; rfl⟩
theorem lookup_no {x : Str} : ∀ {ns : List Str} {vs : List V}, ns.contains x = false → (ns.zip vs).lookup x = none
  | [], _, _ => rfl
  | n :: ns, [], _ => rfl
  | n :: ns, v :: vs, h => by
    simp only [List.contains_cons, Bool.or_eq_false_iff] at h
    simp only [List.zip_cons_cons, List.lookup, h.1]
    exact lookup_no h.2
theorem putF_zip {x : Str} {v : V} : ∀ {ns : List Str} {vs : List V}, ns.length = vs.length → putF x v (ns.zip vs) = (putNs ns x).zip (putA ns vs x v) ∧ (putNs ns x).length = (putA ns vs x v).length
  | [], [], _ => ⟨rfl, rfl⟩
  | n :: ns, u :: vs, l => by
    obtain ⟨h, hl⟩ := putF_zip (x := x) (v := v) (ns := ns) (vs := vs) (by simpa using l)
    simp only [List.zip_cons_cons, putF, putNs, putA]
    split
    · exact ⟨rfl, by simpa using l⟩
    · exact ⟨by rw [h]; rfl, by simpa using hl⟩
  | [], _ :: _, l => by simp at l
  | _ :: _, [], l => by simp at l
/-- what the module says of classes and attributes -/
def FldsOk (K : PySem.W.Frag) (fl : List (Nat × Str)) : Prop := ∀ k x, fl.contains (k, x) = true → Cls K (clA K k) ∧ NoAttr K (clA K k) x
section
variable {X : Cx} {xa : Xa} {ea : Ec → Addr} {c : Cn} {Wx : WX} {a b e : Expr} {sa sb sc : S} {pos : Pos}
/-- a.x -/
theorem r_fld {x : Str} (hf : FldsOk X.K c.flds) (ha : PE X a (tE (lx X xa ea c) Wx sa)) (hb : attributeBase a x X.env (eval a X.env) = eval a X.env) : PE X (.Attribute a x pos) (tE (lx X xa ea c) Wx (.fld sa x)) := by
  refine pe_imp (pe_fld ha hb) fun σ H Q ⟨ρ, as, W, e, w, h⟩ => ?_
  simp only [ev, aft_bind] at h
  refine tE_go e w (h.imp (fun d hd H1 v1 b1 s1 e1 f1 n1 l1 w1 => ?_) fun _ q => q)
  unfold evFld at hd
  split at hd
  · rename_i k ns ds
    split at hd
    · rename_i hc
      obtain ⟨d, hg, hd⟩ := aft_lift hd
      cases e1 with
      | o o1 =>
        cases o1 with
        | fz f =>
          cases f with
          | ob h1 n1 l r =>
            obtain ⟨j, v, hl, hj, hv, _⟩ := lookup_getF (H := H1) r.length hg
            obtain ⟨v', hv', fv⟩ := r.get hj
            rw [hv] at hv'
            cases hv'
            exact ⟨_, _, _, _, _, rfl, h1, (hf k x hc).1, (hf k x hc).2, hl, OkE.f hd s1 (fv.keep (fun _ _ q _ => q) fun _ q => .inl (plus_sub q))⟩
    · exact hd.elim
  · rename_i k ns ds
    split at hd
    · rename_i hc
      simp only [aft_bind] at hd
      obtain ⟨d, hg, hd⟩ := aft_lift hd
      have hd : OkE (lx X xa ea c) H W Q (kid d) := hd
      cases e1 with
      | o o1 =>
        cases o1 with
        | fz f => cases f
      | ob h1 l r =>
        obtain ⟨j, v, hl, hj, hv, _⟩ := lookup_getF (H := H1) r.length hg
        obtain ⟨v', bs', hv', ov⟩ := r.get hj
        rw [hv] at hv'
        cases hv'
        refine ⟨_, _, _, _, _, rfl, h1, (hf k x hc).1, (hf k x hc).2, hl, ?_⟩
        have f0 : Fresh H [] := fun _ m => nomatch m
        cases ov with
        | fz f =>
          have : kid d = d := by cases f <;> rfl
          rw [this] at hd
          exact OkE.f hd s1 (f.keep (fun _ _ q _ => q) fun _ q => .inl (plus_sub q))
        | sb ee hh l' r' => exact hd H1 _ [] s1 (.ob hh l' (r'.keep (fun _ _ q _ => q) (fun a q => .inl (plus_sub (plus_nil q))) fun _ _ _ q => q)) f0 List.nodup_nil
        | ob hh l' r' => exact hd H1 _ [] s1 (.ob hh l' (r'.keep (fun _ _ q _ => q) (fun a q => .inl (plus_sub (plus_nil q))) fun _ _ _ q => q)) f0 List.nodup_nil
        | ow hh z r' => exact hd H1 _ [] s1 (.bo hh z (r'.keep (fun _ _ q _ => q) (fun a q => .inl (plus_sub (plus_nil q))) fun _ _ _ q => q)) f0 List.nodup_nil
        | dk hh z nd e r' => exact hd H1 _ [] s1 (.dk hh z nd e (r'.keep (fun _ _ q _ => q) (fun a q => .inl (plus_sub (plus_nil q))))) f0 List.nodup_nil
        | dn hh z nd dp e rk r' => exact hd H1 _ [] s1 (.dn hh z nd dp e (rk.keep (fun _ _ q _ => q) (fun a q => .inl (plus_sub (plus_nil q)))) (r'.keep (fun _ _ q _ => q) (fun a q => .inl (plus_sub (plus_nil q))))) f0 List.nodup_nil
    · exact hd.elim
  · exact hd.elim
/-- an instance, as an expression gives it -/
theorem E.ins {K : Kx} {H : Hp} {W : Addr → Prop} {m : Str} {k : Nat} {d : D} {v : V} {bs : List Addr} (h : E K H W d v bs) (hi : isInsM k m [d] = true) : ∃ a dx fs, v = .ref a ∧ H a = some (.ins (clA K.k k) dx fs) ∧ fs.lookup m = none := by
  unfold isInsM at hi
  split at hi
  · rename_i o k' ns ds _ he
    cases he
    simp only [Bool.and_eq_true, decide_eq_true_eq, Bool.not_eq_true'] at hi
    obtain ⟨rfl, hn⟩ := hi
    cases h with
    | o h =>
      cases h with
      | fz h =>
        cases h with
        | ob h n l r => exact ⟨_, _, _, rfl, h, lookup_no hn⟩
      | ob h l r => exact ⟨_, _, _, rfl, h, lookup_no hn⟩
      | sb e h l r => exact ⟨_, _, _, rfl, h, lookup_no hn⟩
    | ob h l r => exact ⟨_, _, _, rfl, h, lookup_no hn⟩
  · cases hi
/-- a value ahead of others -/
theorem Es.join2 {K : Kx} {H H1 H2 : Hp} {W : Addr → Prop} {x : D} {ys : List D} {v1 : V} {v2 : List V} {b1 b2 : List Addr} (s1 : Same H H1) (s2 : Same H1 H2) (e1 : E K H1 (plus W b1) x v1 b1) (e2 : Es K H2 (plus (plus W b1) b2) ys v2 b2) (f1 : Fresh H b1) (f2 : Fresh H1 b2) :
    Es K H2 (plus W (b1 ++ b2)) (x :: ys) (v1 :: v2) (b1 ++ b2) ∧ Fresh H (b1 ++ b2) := by
  refine ⟨.cons (e1.keep s2 fun a q => ?_) (e2.keep (Same.refl H2) fun a q => .inl ?_), fun b m => ?_⟩
  · rcases q with q | q
    · exact .inl (.inl q)
    · rcases List.mem_append.mp q with q | q
      · exact .inl (.inr q)
      · exact .inr (f2 a q)
  · rcases q with q | q
    · exact .inl (.inl q)
    · rcases List.mem_append.mp q with q | q
      · exact .inl (.inr q)
      · exact .inr q
  · rcases List.mem_append.mp m with m | m
    · exact f1 b m
    · exact s1.free (f2 b m)
theorem rmethE (ne : noE xa) {m : Str} {k f : Nat} {g : List D → Re D} {n : Nat} {ss : List S} {σ : L2.St} {H : Hp} {Q : VK} (hf : c.fs[f]? = some g) (hn : ss.length = n) (h : tE (lx X xa ea c) Wx (.rmeth m k f sa ss) σ H Q) :
    tE (lx X xa ea c) Wx sa σ H fun x H1 => ∃ a dx fs, x = .ref a ∧ H1 a = some (.ins (clA X.K k) dx fs) ∧ fs.lookup m = none ∧ tEs (lx X xa ea c) Wx ss σ H1 fun vs H2 => spF X.K ea g (n + 1) (x :: vs) H2 Q (WE Wx σ) := by
  obtain ⟨ρ, as, W, e, w, h⟩ := h
  simp only [ev, evCall, hf, aft_bind] at h
  refine tE_go e w (h.imp (fun d hd H1 v1 b1 s1 e1 f1 n1 l1 w1 => ?_) fun _ q => q)
  split at hd
  · rename_i hi
    obtain ⟨a, dx, fs, rfl, ha, hl⟩ := e1.ins hi
    refine ⟨a, dx, fs, rfl, ha, hl, ?_⟩
    rw [aft_bind] at hd
    cases q : evs c ss ρ with
    | st => rw [q] at hd; exact hd.elim
    | er er =>
      rw [q] at hd
      refine ⟨ρ, as, _, l1, w1, ?_⟩
      show Aft (evs c ss ρ) _ _
      rw [q]
      exact fun H' s => hd H' (s1.trans s)
    | ok ds =>
      rw [q] at hd
      refine tEs_go l1 w1 ?_
      show Aft (evs c ss ρ) _ _
      rw [q]
      intro H2 vs bs s2 e2 f2 n2 l2 w2
      obtain ⟨e3, f3⟩ := Es.join2 s1 s2 e1 e2 f1 f2
      exact call_tail ne (by rw [List.length_cons, evs_len q, hn]) w (s1.trans s2) e3 f3 hd
  · exact hd.elim
end
/-- the class's method m does what g says -/
structure RdyM (X : Cx) (ea : Ec → Addr) (k0 : Nat) (m : Str) (n : Nat) (g : List D → Re D) : Prop where
  ok : ∃ f fd ps k, FnOk X.prog X.w X.K X.mg X.base (L2N.CX X.prog X.w) k f fd ps (spF X.K ea g n) ∧ Room k X.A ∧ Cls X.K (clA X.K k0) ∧ Meth X.K (clA X.K k0) m f ∧ Binds X.K fd ps []
section
variable {X : Cx} {CX : CXT} {k : Nat} {f C : Addr} {fd : FuncData} {ps : List Str} {sp : Sp} {E : L2.St → XK} {x m : Str} {p pos apos : Pos} {e o : Expr} {es : List Expr} {ta : TE} {t : TA}
/-- o.m(e, ..), what is raised wished for at the slots -/
def tMethS (C : Addr) (m : Str) (sp : Sp) (E : L2.St → XK) (ta : TE) (t : TA) : TE := fun σ H Q => ta σ H fun x H1 => ∃ a dx fs, x = .ref a ∧ H1 a = some (.ins C dx fs) ∧ fs.lookup m = none ∧
  t σ H1 fun vs H2 => sp (x :: vs) H2 Q (E σ)
theorem pe_methS {pl : Sem Bool} (he : PE X o ta) (c : Cls X.K C) (hm : Meth X.K C m f) (F : FnOk X.prog X.w X.K X.mg X.base CX k f fd ps sp) (hr : Room k X.A) (hb : Binds X.K fd ps []) (hx : ∀ σ, PassesAt CX X σ (E σ)) (ha : PA X (e :: es) t)
    (hst : starEach (e :: es) X.env = (false, eval e X.env) :: starEach es X.env) (hpl : (backTo pos (starEach es X.env)).any (·.1) = false)
    (ht : eval (.Call (.Attribute o m apos) (e :: es) [] pos) X.env = (do
      let ov ← eval o X.env
      standAt apos.atName
      let (f, first) ← holding [ov] (getMethod ov m pl)
      callWith pos f first (backTo pos (starEach (e :: es) X.env)) (backToKw pos (keywordEach [] X.env)))) :
    PE X (.Call (.Attribute o m apos) (e :: es) [] pos) (tMethS C m sp E ta t) := by
  refine ⟨fun pins s σ H Q I h => ?_⟩
  refine PySem.W.methodCall_KW (pl := pl) (thn (he.run pins s σ H _ I h) fun u s1 ⟨x, H1, I1, rx, a, dx, fs, ex, ea, l, q⟩ => ?_) ht
  subst ex
  obtain rfl : u = Value.ref a := rx
  refine getmeth_ok I1 ea c hm l ?_
  refine PySem.W.callWith_K (first := [.ref a]) (h₀ := X.base) I.ok.mod.kin hm.kp (thn (ha.run pos pins s1 σ H1 _ I1 q) fun us s2 ⟨vs, H2, I2, r, q2⟩ => ⟨I2.kIn, ?_⟩) hst hpl
  exact run_fnS (us := .ref a :: us) (vs := .ref a :: vs) F hr hb (hx σ) I2 (.cons rfl r) q2
theorem pe_methS0 {pl : Sem Bool} (he : PE X o ta) (c : Cls X.K C) (hm : Meth X.K C m f) (F : FnOk X.prog X.w X.K X.mg X.base CX k f fd ps sp) (hr : Room k X.A) (hb : Binds X.K fd ps []) (hx : ∀ σ, PassesAt CX X σ (E σ))
    (ht : eval (.Call (.Attribute o m apos) [] [] pos) X.env = (do
      let ov ← eval o X.env
      standAt apos.atName
      let (f, first) ← holding [ov] (getMethod ov m pl)
      callWith pos f first (backTo pos (starEach [] X.env)) (backToKw pos (keywordEach [] X.env)))) :
    PE X (.Call (.Attribute o m apos) [] [] pos) (tMethS C m sp E ta tNil) := by
  refine ⟨fun pins s σ H Q I h => ?_⟩
  refine PySem.W.methodCall_KW (pl := pl) (thn (he.run pins s σ H _ I h) fun u s1 ⟨x, H1, I1, rx, a, dx, fs, ex, ea, l, q⟩ => ?_) ht
  subst ex
  obtain rfl : u = Value.ref a := rx
  refine getmeth_ok I1 ea c hm l ?_
  exact PySem.W.callWith_K0 (first := [.ref a]) I1.kIn hm.kp (run_fnS (us := [.ref a]) (vs := [.ref a]) F hr hb (hx σ) I1 (.cons rfl .nil) q)
end

/-! ### the tree of a method's call -/
theorem mcall_name {x m : Str} {p apos pos : Pos} {es : List Expr} {env : PySem.Env} (hl : (apos.endLine == pos.line) = true) (hs : (backTo pos (starEach es env)).all (!·.1) = true) (hn : es.length < 29) :
    eval (.Call (.Attribute (.Name x p) m apos) es [] pos) env = (do
      let ov ← eval (.Name x p) env
      standAt apos.atName
      let (f, first) ← holding [ov] (getMethod ov m (do return (← importBound (.Name x p) env).getD true))
      callWith pos f first (backTo pos (starEach es env)) (backToKw pos (keywordEach [] env))) := by
  rw [arm_eval_Call]
  have hf : methodCallForm (es.length + ([] : List Keyword).length) (backTo pos (starEach es env)) (backToKw pos (keywordEach [] env)) = true := by
    unfold methodCallForm
    rw [hs]
    have : (backToKw pos (keywordEach [] env)) = [] := rfl
    rw [this]
    simp only [List.all_nil, List.isEmpty_nil, List.length_nil, Bool.true_and]
    exact decide_eq_true (by simp; omega)
  unfold methodCall calleeOf methodCallPos
  rw [hf, hl]
  rfl
theorem noStars {env : PySem.Env} {pos : Pos} {es : List Expr} (h : (backTo pos (starEach es env)).any (·.1) = false) : (backTo pos (starEach es env)).all (!·.1) = true := by
  rw [List.any_eq_false] at h
  rw [List.all_eq_true]
  intro x m
  have := h x m
  simpa using this
section
variable {X : Cx} {xa : Xa} {ea : Ec → Addr} {c : Cn} {Wx : WX} {e : Expr} {pos : Pos}
/-- x.m(es), only read -/
theorem r_rmeth (ne : noE xa) {x m : Str} {i k f : Nat} {g : List D → Re D} {n : Nat} {p apos : Pos} {es : List Expr} {ss : List S} {sa : S} (tk : L2N.Takes X Wx) (R : RdyM X ea k m (n + 1) g) (hf : c.fs[f]? = some g) (hn : ss.length = n) (ho : PE X (.Name x p) (tE (lx X xa ea c) Wx sa)) (ha : PA X (e :: es) (tEs (lx X xa ea c) Wx ss))
    (hl : (apos.endLine == pos.line) = true) (hst : starEach (e :: es) X.env = (false, eval e X.env) :: starEach es X.env) (hpl : (backTo pos (starEach es X.env)).any (·.1) = false) (hz : es.length < 28) :
    PE X (.Call (.Attribute (.Name x p) m apos) (e :: es) [] pos) (tE (lx X xa ea c) Wx (.rmeth m k f sa ss)) := by
  obtain ⟨fa, fd, ps, kk, F, hr, hc, hm, hb⟩ := R.ok
  exact pe_imp (pe_methS ho hc hm F hr hb (fun σ => L2N.passAt tk σ) ha hst hpl (mcall_name hl (noStars (by rw [hst]; unfold backTo at hpl ⊢; rw [List.map_cons, List.any_cons]; exact hpl)) (by simp; omega))) fun _ _ _ h => rmethE ne hf hn h
theorem tEs_nil {σ : L2.St} {H : Hp} {Q : List V → Hp → Prop} (h : tEs (lx X xa ea c) Wx [] σ H Q) : Q [] H := by
  obtain ⟨ρ, as, W, e, w, h⟩ := h
  have h : OkEs (lx X xa ea c) H W Q [] := by simp only [evs] at h; exact h
  exact h H [] [] (Same.refl H) .nil (fun _ m => nomatch m) List.nodup_nil
theorem r_rmeth0 (ne : noE xa) {x m : Str} {i k f : Nat} {g : List D → Re D} {p apos : Pos} {sa : S} (tk : L2N.Takes X Wx) (R : RdyM X ea k m 1 g) (hf : c.fs[f]? = some g) (ho : PE X (.Name x p) (tE (lx X xa ea c) Wx sa)) (hl : (apos.endLine == pos.line) = true) :
    PE X (.Call (.Attribute (.Name x p) m apos) [] [] pos) (tE (lx X xa ea c) Wx (.rmeth m k f sa [])) := by
  obtain ⟨fa, fd, ps, kk, F, hr, hc, hm, hb⟩ := R.ok
  refine pe_imp (pe_methS0 ho hc hm F hr hb (fun σ => L2N.passAt tk σ) (mcall_name hl rfl (by simp))) fun σ H Q h => ?_
  obtain ⟨ρ, as, W, e, w, h⟩ := rmethE (n := 0) ne hf rfl h
  refine ⟨ρ, as, W, e, w, h.imp (fun d hd H1 v bs s1 e1 f1 n1 => ?_) fun _ q => q⟩
  obtain ⟨a, dx, fs, h1, h2, h3, h4⟩ := hd H1 v bs s1 e1 f1 n1
  exact ⟨a, dx, fs, h1, h2, h3, tEs_nil h4⟩
end

/-! ### a def that writes into its first argument, and its promise -/
structure Step (H : Hp) (as : List Addr) (H' : Hp) (as' : List Addr) : Prop where
  kp : ∀ a o, H a = some o → a ∉ as → H' a = some o
  sub : ∀ a ∈ as', a ∈ as ∨ H a = none
theorem Step.refl (H : Hp) (as : List Addr) : Step H as H as := ⟨fun _ _ e _ => e, fun a m => .inl m⟩
theorem Step.trans {H H' H2 : Hp} {as as' as2 : List Addr} (s : Step H as H' as') (t : Step H' as' H2 as2) : Step H as H2 as2 where
  kp := fun a o e n => t.kp a o (s.kp a o e n) fun m => (s.sub a m).elim n fun q => by rw [e] at q; cases q
  sub := fun a m => by
    rcases t.sub a m with m | q
    · exact s.sub a m
    · by_cases i : a ∈ as
      · exact .inl i
      · cases e : H a with
        | none => exact .inr rfl
        | some o => rw [s.kp a o e i] at q; cases q
theorem Step.same {H H' : Hp} {as as' : List Addr} (s : Same H H') (h : ∀ a ∈ as', a ∈ as ∨ H a = none) : Step H as H' as' := ⟨fun a o e _ => s a o e, h⟩
def spM (K : PySem.W.Frag) (ea : Ec → Addr) (g : List D → Re D) (n : Nat) : Sp := fun vs H Q E => vs.length = n + 1 ∧ ∃ (a dx : Addr) (k : Nat) (ns : List Str) (ds : List D) (fv : List V) (kids : List Addr) (as : List D) (ws : List V) (W : Addr → Prop),
  vs = .ref a :: ws ∧ H a = some (.ins (clA K k) dx (ns.zip fv)) ∧ ns.length = fv.length ∧ Os ⟨K, none⟩ H (plus W (a :: kids)) ds fv kids ∧ (a :: kids).Nodup ∧ (∀ b ∈ a :: kids, ¬ W b) ∧ Wok H (plus W (a :: kids)) ∧ Fs ⟨K, none⟩ H (plus W (a :: kids)) as ws ∧
  (match g (.obj .lk k ns ds :: as) with
    | .ok (.obj .lk k' ns' ds') => ∀ (H' : Hp) (dx' : Addr) (fv' : List V) (kids' : List Addr), H' a = some (.ins (clA K k') dx' (ns'.zip fv')) → ns'.length = fv'.length → Os ⟨K, none⟩ H' (plus W (a :: kids')) ds' fv' kids' → (a :: kids').Nodup → Step H (a :: kids) H' (a :: kids') → Q .non H'
    | .er e => ∀ H', (∀ b o, H b = some o → b ∉ a :: kids → H' b = some o) → E (.ref (ea e)) none H'
    | _ => False)
/-- C's __init__ is that def -/
structure RdyK (X : Cx) (ea : Ec → Addr) (x : Str) (k0 n : Nat) (g : List D → Re D) : Prop where
  ok : ∃ f fd ps k, FnOk X.prog X.w X.K X.mg X.base (L2N.CX X.prog X.w) k f fd ps (spM X.K ea g n) ∧ Room (k + 1) X.A ∧ X.mg x = some (.ref (clA X.K k0)) ∧ Mk X.K (clA X.K k0) f ∧ Binds X.K fd ps []
/-- the method m is -/
structure RdyMM (X : Cx) (ea : Ec → Addr) (k0 : Nat) (m : Str) (n : Nat) (g : List D → Re D) : Prop where
  ok : ∃ f fd ps k, FnOk X.prog X.w X.K X.mg X.base (L2N.CX X.prog X.w) k f fd ps (spM X.K ea g n) ∧ Room k X.A ∧ Cls X.K (clA X.K k0) ∧ Meth X.K (clA X.K k0) m f ∧ Binds X.K fd ps []
/-- the def x is -/
structure RdyMF (X : Cx) (ea : Ec → Addr) (x : Str) (n : Nat) (g : List D → Re D) : Prop where
  ok : ∃ f fd ps k, FnOk X.prog X.w X.K X.mg X.base (L2N.CX X.prog X.w) k f fd ps (spM X.K ea g n) ∧ Room k X.A ∧ X.mg x = some (.ref f) ∧ PySem.W.keepIn X.K (.ref f) = true ∧ Binds X.K fd ps []
section
variable {X : Cx} {CX : CXT} {k : Nat} {f C : Addr} {fd : FuncData} {ps : List Str} {sp : Sp} {E : L2.St → XK} {x m : Str} {p pos apos : Pos} {e o : Expr} {es : List Expr} {ta : TE} {t : TA}
def tMakeS (C : Addr) (sp : Sp) (E : L2.St → XK) (t : TA) : TE := fun σ H Q => t σ H fun vs H1 => ∀ x dx, H1 x = none → H1 dx = none → dx ≠ x →
  sp (.ref x :: vs) (upd (upd H1 dx (.own x)) x (.ins C dx [])) (fun v H2 => v = .non ∧ Q (.ref x) H2) (E σ)
theorem run_makeS {pins : List (Addr × Obj)} {σ : L2.St} {H : Hp} {s : Shared} {Q : VK} {us : List Value} {vs : List V} (M : Mk X.K C f) (F : FnOk X.prog X.w X.K X.mg X.base CX k f fd ps sp) (hr : Room (k + 1) X.A) (hb : Binds X.K fd ps [])
    (hx : PassesAt CX X σ (E σ)) (I : Inv X pins σ H s) (r : Vals vs us)
    (h : ∀ x dx, H x = none → H dx = none → dx ≠ x → sp (.ref x :: vs) (upd (upd H dx (.own x)) x (.ins C dx [])) (fun v H2 => v = .non ∧ Q (.ref x) H2) (E σ)) :
    wpAny (model X.prog X.w) X.A (call (.ref C) us) (EP X pins σ Q) X.xe s := by
  have hq := h (s.heap.objs.size + 1) s.heap.objs.size (I.hok.fresh (Nat.le_succ _)) (I.hok.fresh (Nat.le_refl _)) (Nat.ne_of_lt (Nat.lt_succ_self _))
  have I2 := Inv.made (C := C) I
  have r2 : Vals (V.ref (s.heap.objs.size + 1) :: vs) (Value.ref (s.heap.objs.size + 1) :: us) := .cons rfl r
  have hl : (Value.ref (s.heap.objs.size + 1) :: us).length = ps.length := by
    have e := r2.length
    rw [F.len _ _ _ _ hq] at e
    exact e.symm
  have b := hb _ (Value.ref (s.heap.objs.size + 1) :: us) I2.kIn (by rw [List.append_nil]; exact hl)
  rw [List.append_nil] at b
  refine wpAny_call (make_map (f := f) I.kIn M.makes M.init (beq_iff_eq.mp M.fn) (codeAny_mono (F.run _ X.stack _ _ ⟨Value.ref (s.heap.objs.size + 1) :: us, []⟩ (Value.ref (s.heap.objs.size + 1) :: us) _ _ (E σ) (hr.make C us [])
    (I2.env0.make C us []) b r2 hq) fun r s' hq' => ?_))
  cases r with
  | error e => exact hx pins _ _ e s' I2 hq'
  | ok fl =>
    cases fl with
    | ret u =>
      obtain ⟨v, H', I3, rv, ev, q3⟩ := I2.after hq'
      subst ev
      exact ⟨rv, ⟨V.ref (s.heap.objs.size + 1), H', I3, rfl, q3⟩⟩
    | next => exact False.elim hq'
    | brk => exact False.elim hq'
    | cont => exact False.elim hq'
theorem pe_makeS (M : Mk X.K C f) (F : FnOk X.prog X.w X.K X.mg X.base CX k f fd ps sp) (hr : Room (k + 1) X.A) (hg : Gl X x) (hm : X.mg x = some (.ref C)) (hb : Binds X.K fd ps []) (hx : ∀ σ, PassesAt CX X σ (E σ))
    (ha : PA X (e :: es) t) (hdb : (x == ("__debug__" : Str)) = false) (he : starEach (e :: es) X.env = (false, eval e X.env) :: starEach es X.env) (hpl : (backTo pos (starEach es X.env)).any (·.1) = false) :
    PE X (.Call (.Name x p) (e :: es) [] pos) (tMakeS C sp E t) := by
  refine ⟨fun pins s σ H Q I h => ?_⟩
  refine wpAny_Call_Name_kw (ld_glob I hg hm ?_ hdb)
  refine PySem.W.callWith_K (h₀ := X.base) I.ok.mod.kin M.kp (thn (ha.run pos pins s σ H _ I h) fun us s1 ⟨vs, H1, I1, r, q⟩ => ⟨I1.kIn, ?_⟩) he hpl
  exact run_makeS M F hr hb (hx σ) I1 r q
end
section
variable {X : Cx} {xa : Xa} {ea : Ec → Addr} {c : Cn} {Wx : WX} {e : Expr} {pos : Pos}
theorem mkE (ne : noE xa) {f k n : Nat} {g : List D → Re D} {ss : List S} {σ : L2.St} {H : Hp} {Q : VK} (hf : c.ms[f]? = some (k, g)) (hn : ss.length = n) (h : tE (lx X xa ea c) Wx (.mk f ss) σ H Q) :
    tMakeS (clA X.K k) (spM X.K ea g n) (WE Wx) (tEs (lx X xa ea c) Wx ss) σ H Q := by
  obtain ⟨ρ, as, W, e, w, h⟩ := h
  simp only [ev, evMk, hf, aft_bind] at h
  cases q : evs c ss ρ with
  | st => rw [q] at h; exact h.elim
  | er er =>
    rw [q] at h
    refine ⟨ρ, as, W, e, w, ?_⟩
    show Aft (evs c ss ρ) _ _
    rw [q]
    exact h
  | ok ds =>
    rw [q] at h
    have l := evs_len q
    refine tEs_go e w ?_
    show Aft (evs c ss ρ) _ _
    rw [q]
    intro H1 vs bs s1 e1 f1 n1 l1 w1 a dx na nd nad
    have h : Aft (g (.obj .lk k [] [] :: ds.map argD)) (fun d => Aft (mkD (ds.any isBo) d) (OkE (lx X xa ea c) H W Q) (ErE (lx X xa ea c) Wx σ H)) (ErE (lx X xa ea c) Wx σ H) := h
    have kp1 : ∀ b o, H1 b = some o → upd (upd H1 dx (.own a)) a (.ins (clA X.K k) dx []) b = some o := fun b o eb => by
      have n1 : b ≠ a := fun q => by rw [q, na] at eb; cases eb
      have n2 : b ≠ dx := fun q => by rw [q, nd] at eb; cases eb
      rw [upd_ne n1, upd_ne n2]
      exact eb
    have w1' := w.same s1
    -- what the arguments may be written at
    have key : ∀ (W' : Addr → Prop), (∀ b, W' b → W b) → Fs ⟨X.K, none⟩ H1 W' (ds.map argD) vs → (∀ (H' : Hp) (k' : Nat) (ns' : List Str) (ds' : List D) (dx' : Addr) (fv' : List V) (kids' : List Addr), Same H1 H' → Wok H' (plus W (a :: kids')) → mkD (ds.any isBo) (.obj .lk k' ns' ds') = .ok (.obj .ow k' ns' ds') → Os ⟨X.K, none⟩ H' (plus W' (a :: kids')) ds' fv' kids' → Os ⟨X.K, none⟩ H' (plus W (a :: kids')) ds' fv' kids') →
        spM X.K ea g n (.ref a :: vs) (upd (upd H1 dx (.own a)) a (.ins (clA X.K k) dx [])) (fun v H2 => v = .non ∧ Q (.ref a) H2) (WE Wx σ) := by
      intro W' sw fa back
      have nW : ¬ W a := fun q => by obtain ⟨o, e, _⟩ := w1' a q; rw [na] at e; cases e
      refine ⟨by rw [List.length_cons, ← e1.length, l, hn], a, dx, k, [], [], [], [], ds.map argD, vs, W', rfl, by rw [upd_same]; rfl, rfl, .nil, List.nodup_cons.mpr ⟨(fun m => nomatch m), List.nodup_nil⟩, fun b m q => ?_, fun b q => ?_, ?_, ?_⟩
      · rw [List.mem_singleton.mp m] at q; exact nW (sw _ q)
      · rcases q with q | q
        · obtain ⟨o, eo, wo⟩ := w1' b (sw _ q)
          exact ⟨o, kp1 b o eo, wo⟩
        · rw [List.mem_singleton.mp q, upd_same]; exact ⟨_, rfl, trivial⟩
      · exact fa.keep (fun b o eb _ => kp1 b o eb) fun b q => q.imp id fun m => by rw [List.mem_singleton.mp m]; exact na
      · cases qg : g (.obj .lk k [] [] :: ds.map argD) with
        | st => rw [qg] at h; exact h.elim
        | er er =>
          rw [qg] at h
          exact fun H' kp => h H' fun b o eb => kp b o (kp1 b o (s1 _ _ eb)) fun m => by
            rw [List.mem_singleton.mp m] at eb
            rw [s1 _ _ eb] at na
            cases na
        | ok d =>
          rw [qg] at h
          have h : Aft (mkD (ds.any isBo) d) (OkE (lx X xa ea c) H W Q) (ErE (lx X xa ea c) Wx σ H) := h
          unfold mkD at h
          split at h
          · rename_i k' ns' ds' _
            obtain ⟨hcl, h⟩ := aft_ok? h
            intro H' dx' fv' kids' ha' hl' ho' nd' st'
            have s2 : Same H1 H' := fun b o eb => st'.kp b o (kp1 b o eb) fun m => by rw [List.mem_singleton.mp m, na] at eb; cases eb
            have fr : Fresh H1 (a :: kids') := fun b m => by
              rcases st'.sub b m with m | q
              · rw [List.mem_singleton.mp m]; exact na
              · cases eb : H1 b with
                | none => rfl
                | some o => rw [kp1 b o eb] at q; cases q
            have wk' : Wok H' (plus W (a :: kids')) := (w1'.same s2).plus fun b m => by
              rcases List.mem_cons.mp m with m | m
              · rw [m]; exact ⟨_, ha', trivial⟩
              · exact ho'.there b m
            have hmk : mkD (ds.any isBo) (.obj .lk k' ns' ds') = .ok (.obj .ow k' ns' ds') := by simp only [mkD, hcl, ok?_true]
            refine ⟨rfl, h H' (.ref a) (a :: kids') (s1.trans s2) (.o (.ob ha' hl' (Os.toX (back H' k' ns' ds' dx' fv' kids' s2 wk' hmk ho')))) (fr.same s1) nd'⟩
          · exact h.elim
    cases nb : ds.any isBo with
    | true =>
      refine key (fun _ => False) (fun _ q => q.elim) (e1.args0.unE ne) fun H' k' ns' ds' dx' fv' kids' s2 wk' hmk ho => ?_
      rw [nb] at hmk
      cases hcl : cleans ds' with
      | true => exact Os.clean wk' ho hcl
      | false =>
        simp only [mkD, hcl] at hmk
        cases hmk
    | false => exact key W (fun _ q => q) ((e1.args (fresh_no w f1) (fun b m => m) nb).unE ne) fun H' k' ns' ds' dx' fv' kids' s2 wk' hmk ho => ho
theorem r_mk (ne : noE xa) {x : Str} {f k n : Nat} {g : List D → Re D} {p : Pos} {es : List Expr} {ss : List S} (tk : L2N.Takes X Wx) (R : RdyK X ea x k n g) (hf : c.ms[f]? = some (k, g)) (hn : ss.length = n) (hg : Gl X x) (ha : PA X (e :: es) (tEs (lx X xa ea c) Wx ss))
    (hdb : (x == ("__debug__" : Str)) = false) (he : starEach (e :: es) X.env = (false, eval e X.env) :: starEach es X.env) (hpl : (backTo pos (starEach es X.env)).any (·.1) = false) :
    PE X (.Call (.Name x p) (e :: es) [] pos) (tE (lx X xa ea c) Wx (.mk f ss)) := by
  obtain ⟨fa, fd, ps, kk, F, hr, hm, M, hb⟩ := R.ok
  exact pe_imp (pe_makeS M F hr hg hm hb (fun σ => L2N.passAt tk σ) ha hdb he hpl) fun _ _ _ h => mkE ne hf hn h
end
end Ds

namespace Ds
open PySem PySem.Spec PyProof.Rows L2
theorem slot_range_contains : Slot "range" "__contains__" "range.__contains__" :=
  .of (owner := "range") (n := "__contains__") (by rw [typeLookup_type, builtinLookup_eq_fast]; kernel_rfl) (by decide +kernel) (by decide +kernel) (by decide +kernel)
    (by first | exact .inl (by decide +kernel) | exact .inr (by decide +kernel)) (by rw [isSubtype_type]; kernel_rfl)
theorem entry_range_contains : entryFor table "range.__contains__" = some Builtin.«range.__contains__» := entryFor_of_tree (by kernel_rfl)
theorem args_range_contains (a b : Value) : argsOk "range.__contains__" ⟨[a, b], []⟩ := by unfold argsOk; kernel_rfl
theorem meets_range_contains (r : Addr) (i a b c : Int) (ti t u v : Tok) :
    Meets (Builtin.«range.__contains__» ⟨[.ref r, .int i ti], []⟩) (fun _ R s => s.heap.get? r = some { cls := .type "range", dict := none, data := .fields #[.int a t, .int b u, .int c v], slots := #[] } ∧ R (.ok (.ret (.bool (Builtin.Range.rangePlace? a b c i).isSome))) s) :=
  .of_wp fun prog w A R s h => by
    obtain ⟨hp, g, d, tk, os⟩ := s
    obtain ⟨hr, h⟩ := h
    wp_walk
    exact ⟨_, rfl, h⟩
theorem place_isSome (j i : Int) : (Builtin.Range.rangePlace? 0 j 1 i).isSome = (decide (0 ≤ i) && decide (i < j)) := by
  unfold Builtin.Range.rangePlace?
  by_cases h : 0 ≤ i <;> by_cases h2 : i < j <;> simp [h, h2]

section
variable {X : Cx} {xa : Xa} {ea : Ec → Addr} {c : Cn} {Wx : WX} {a b e : Expr} {sa sb sc : S} {pos : Pos}
def inOp (g : Bool) : CmpOp := if g then .NotIn else .In
def tInrg (g : Bool) (ta tb : TE) : TE := fun σ H Q => ta σ H fun x H1 => tb σ H1 fun y H2 => ∃ n, y = .int n ∧ ((0 : Int) = 0 ∧ ∃ i, x = .int i ∧ Q (.bl (if g then !(decide (0 ≤ i) && decide (i < n)) else (decide (0 ≤ i) && decide (i < n)))) H2)
theorem pc_inrg {g : Bool} {ta tb : TE} {p pos : Pos} (hg : Gl X "range") (hm : X.mg "range" = none) (ha : PE X a ta) (hb : PE X b tb) (na : starEach [b] X.env = (false, eval b X.env) :: starEach [] X.env) : PC X (inOp g) a (.Call (.Name "range" p) [b] [] pos) (tInrg g ta tb) := by
  refine ⟨fun pins s σ H Q I h => ?_⟩
  refine thn (ha.run pins s σ H _ I h) fun v s1 ⟨x, H1, I1, rx, q1⟩ => thn (prg_1 hg hm hb na pins s1 σ H1 (fun l n H2 => l = 0 ∧ ∃ i, x = .int i ∧ Q (.bl (if g then !(decide (0 ≤ i) && decide (i < n)) else (decide (0 ≤ i) && decide (i < n)))) H2) I1 q1) fun u s2 ⟨r, l, n, t, u', v', H2, eu, hr, I2, el, i, ex, q2⟩ => ?_
  subst eu el ex
  obtain ⟨ti, rfl⟩ := rx
  have hT : s2.TypeIs (.ref r) "range" := ⟨_, hr, rfl⟩
  have core : ∀ {R : Bool → Shared → Prop}, R (decide (0 ≤ i) && decide (i < n)) s2 → wpAny (model X.prog X.w) X.A (contains (.ref r) (.int i ti)) R X.xe s2 := fun hR =>
    wpAny_contains_slot hT slot_range_contains (call_meets slot_range_contains hT entry_range_contains (args_range_contains _ _) (meets_range_contains r i 0 n 1 ti t u' v') ⟨hr, wpAny_truthy_bool (by rw [place_isSome]; exact hR)⟩)
  cases g with
  | true =>
    show wpAny _ _ (do return Value.bool (!(← contains (.ref r) (.int i ti)))) _ _ _
    exact wpAny_bind (core (wpAny_pure ⟨.bl _, H2, I2, rfl, q2⟩))
  | false =>
    show wpAny _ _ (do return Value.bool (← contains (.ref r) (.int i ti))) _ _ _
    exact wpAny_bind (core (wpAny_pure ⟨.bl _, H2, I2, rfl, q2⟩))
theorem inrgE {g : Bool} {σ : L2.St} {H : Hp} {Q : VK} (h : tE (lx X xa ea c) Wx (.inrg g sa sb) σ H Q) : tInrg g (tE (lx X xa ea c) Wx sa) (tE (lx X xa ea c) Wx sb) σ H Q := by
  obtain ⟨ρ, as, W, e, w, h⟩ := h
  simp only [ev] at h
  refine two e w h fun x y H2 vx vy bx b_y s w2 hx hy ex ey _ _ h => ?_
  unfold evInrg at h
  split at h
  · obtain ⟨rfl, _⟩ := ex.i
    obtain ⟨rfl, _⟩ := ey.i
    exact ⟨_, rfl, rfl, _, rfl, OkE.f h s (.bl _)⟩
  · exact h.elim
theorem r_inrg {g : Bool} {p p2 : Pos} (hg : Gl X "range") (hm : X.mg "range" = none) (ha : PE X a (tE (lx X xa ea c) Wx sa)) (hb : PE X b (tE (lx X xa ea c) Wx sb)) (na : starEach [b] X.env = (false, eval b X.env) :: starEach [] X.env) :
    PE X (.Compare a [inOp g] [.Call (.Name "range" p) [b] [] p2] pos) (tE (lx X xa ea c) Wx (.inrg g sa sb)) :=
  pe_imp (pe_cmp (pc_inrg hg hm ha hb na) (by cases g <;> rfl)) fun _ _ _ h => inrgE h
theorem t_inrg {g : Bool} {p p2 : Pos} (hg : Gl X "range") (hm : X.mg "range" = none) (ha : PE X a (tE (lx X xa ea c) Wx sa)) (hb : PE X b (tE (lx X xa ea c) Wx sb)) (na : starEach [b] X.env = (false, eval b X.env) :: starEach [] X.env) :
    PT X (.Compare a [inOp g] [.Call (.Name "range" p) [b] [] p2] pos) (tT (lx X xa ea c) Wx (.inrg g sa sb)) := by
  refine pt_imp (pt_cmp (pc_inrg hg hm ha hb na) (by cases g <;> rfl)) fun σ H Q ⟨ρ, as, W, e, w, h⟩ => ?_
  simp only [evT, ev, aft_bind] at h
  refine tE_go e w (h.imp (fun x hx H1 v1 b1 s1 e1 f1 n1 l1 w1 => ?_) fun _ q => q)
  refine tE_go l1 w1 (hx.imp (fun y hy H2 v2 b2 s2 e2 f2 n2 l2 w2 => ?_) fun _ q => q.after s1)
  unfold evInrg at hy
  split at hy
  · obtain ⟨rfl, _⟩ := (e1.keep s2 fun _ q => .inl q : E _ H2 _ _ _ _).i
    obtain ⟨rfl, _⟩ := e2.i
    exact ⟨_, rfl, rfl, _, rfl, _, rfl, hy H2 (s1.trans s2)⟩
  · exact hy.elim
theorem fs_rg {K : Kx} {H : Hp} {W : Addr → Prop} (i : Int) : ∀ (l : List Nat), Fs K H W (l.map fun (k : Nat) => .int (i + k)) (l.map fun (k : Nat) => V.int (i + k))
  | [] => .nil
  | k :: l => .cons (.int _) (fs_rg i l)
theorem lrgE {g : Bool} {σ : L2.St} {H : Hp} {Q : VK} {ρ : Rho} {as : List Addr} {W : Addr → Prop} {x y : D} {vx vy : V} {H2 : Hp} {bx b_y : List Addr} (s : Same H H2) (w2 : Wok H2 W) (ex : E (kx X xa) H2 (plus W bx) x vx bx) (ey : E (kx X xa) H2 (plus W b_y) y vy b_y)
    (h : Aft (evLrg g x y) (OkE (lx X xa ea c) H W Q) (ErE (lx X xa ea c) Wx σ H)) : ∃ i j, vx = .int i ∧ vy = .int j ∧ RgOk i j ∧ ∀ q, H2 q = none → Q (.ref q) (upd H2 q (if g then .tup (rgV i j) else .lst (rgV i j))) := by
  unfold evLrg at h
  split at h
  · rename_i i j
    obtain ⟨rfl, _⟩ := ex.i
    obtain ⟨rfl, _⟩ := ey.i
    obtain ⟨m, h⟩ := aft_ok? h
    simp only [Bool.and_eq_true, decide_eq_true_eq] at m
    unfold p62 at m
    have ok : RgOk i j := ⟨by omega, by omega, by omega, by omega, by omega⟩
    refine ⟨i, j, rfl, rfl, ok, fun q nq => ?_⟩
    have z : (rgV i j).length ≤ sizeLine := by rw [rgV_length, sizeLine_eq]; have := ok.2.2.2.2; omega
    cases g with
    | true => exact OkE.newT h s w2 (fs_rg i _) z nq
    | false => exact OkE.new h s (fs_rg i _) z nq
  · exact h.elim
theorem lrg1E {g : Bool} {σ : L2.St} {H : Hp} {Q : VK} (h : tE (lx X xa ea c) Wx (.lrg g true (.int 0) sb) σ H Q) : tRg1 (tE (lx X xa ea c) Wx sb) σ H fun a b H1 => RgOk a b ∧ ∀ q, H1 q = none → Q (.ref q) (upd H1 q (if g then .tup (rgV a b) else .lst (rgV a b))) := by
  obtain ⟨ρ, as, W, e, w, h⟩ := h
  simp only [ev, bind_ok, aft_bind] at h
  refine tE_go e w (h.imp (fun y hy H2 v2 b2 s2 e2 f2 n2 l2 w2 => ?_) fun _ q => q)
  obtain ⟨i, j, e1, rfl, q1, q2⟩ := lrgE (ρ := ρ) (as := as) s2 (w.same s2) (E.o (O.fz (F.int 0)) : E (kx X xa) H2 (plus W []) (.int 0) (.int 0) []) e2 hy
  cases e1
  exact ⟨j, rfl, q1, q2⟩
theorem lrg2E {g : Bool} {σ : L2.St} {H : Hp} {Q : VK} (h : tE (lx X xa ea c) Wx (.lrg g false sa sb) σ H Q) : tRg2 (tE (lx X xa ea c) Wx sa) (tE (lx X xa ea c) Wx sb) σ H fun a b H1 => RgOk a b ∧ ∀ q, H1 q = none → Q (.ref q) (upd H1 q (if g then .tup (rgV a b) else .lst (rgV a b))) := by
  obtain ⟨ρ, as, W, e, w, h⟩ := h
  simp only [ev] at h
  refine two e w h fun x y H2 vx vy bx b_y s w2 hx hy ex ey _ _ h => ?_
  exact lrgE (ρ := ρ) (as := as) s w2 ex ey h
theorem r_lrgL1 {p p1 p2 : Pos} (hc : X.calm = true) (hgr : Gl X "range") (hmr : X.mg "range" = none) (hgl : Gl X "list") (hml : X.mg "list" = none) (hb : PE X b (tE (lx X xa ea c) Wx sb)) (nb : starEach [b] X.env = (false, eval b X.env) :: starEach [] X.env) :
    PE X (.Call (.Name "list" p) [.Call (.Name "range" p1) [b] [] p2] [] pos) (tE (lx X xa ea c) Wx (.lrg false true (.int 0) sb)) :=
  pe_imp (pe_listRg hc hgl hml (prg_1 hgr hmr hb nb) rfl) fun _ _ _ h => lrg1E h
theorem r_lrgT1 {p p1 p2 : Pos} (hc : X.calm = true) (hgr : Gl X "range") (hmr : X.mg "range" = none) (hgl : Gl X "tuple") (hml : X.mg "tuple" = none) (hb : PE X b (tE (lx X xa ea c) Wx sb)) (nb : starEach [b] X.env = (false, eval b X.env) :: starEach [] X.env) :
    PE X (.Call (.Name "tuple" p) [.Call (.Name "range" p1) [b] [] p2] [] pos) (tE (lx X xa ea c) Wx (.lrg true true (.int 0) sb)) :=
  pe_imp (pe_tupRg hc hgl hml (prg_1 hgr hmr hb nb) rfl) fun _ _ _ h => lrg1E h
/-- range(b) as a value -/
theorem pe_rgv1 {ta : TE} {p pos : Pos} (hg : Gl X "range") (hm : X.mg "range" = none) (ha : PE X a ta) (na : starEach [a] X.env = (false, eval a X.env) :: starEach [] X.env) :
    PE X (.Call (.Name "range" p) [a] [] pos) (fun σ H Q => ta σ H fun x H1 => ∃ n, x = .int n ∧ ∀ q, H1 q = none → Q (.ref q) (upd H1 q (.rng 0 n))) := by
  refine ⟨fun pins s σ H Q I h => ?_⟩
  refine Call_ (ld_blt I hg hm boot_range (PyProof.Rows.callWith_type1 (one_arg ha I h (fun v s2 x H2 I2 r q => ?_) na) na))
  obtain ⟨n, rfl, q⟩ := q
  obtain ⟨t, rfl⟩ := r
  refine call_range_1 ⟨.ref s2.heap.objs.size, upd H2 s2.heap.objs.size (.rng 0 n), I2.laid (fun b o e => Heap.get?_push_of_some _ e) (Nat.le_refl _) ?_, rfl, q _ (I2.hok.fresh (Nat.le_refl _))⟩
  exact ⟨_, _, _, Heap.get?_push_size _ rfl⟩
theorem r_rgv1 {p pos : Pos} (hg : Gl X "range") (hm : X.mg "range" = none) (hb : PE X b (tE (lx X xa ea c) Wx sb)) (nb : starEach [b] X.env = (false, eval b X.env) :: starEach [] X.env) :
    PE X (.Call (.Name "range" p) [b] [] pos) (tE (lx X xa ea c) Wx (.rgv (.int 0) sb)) := by
  refine pe_imp (pe_rgv1 hg hm hb nb) fun σ H Q ⟨ρ, as, W, e, w, h⟩ => ?_
  simp only [ev, bind_ok, aft_bind] at h
  refine tE_go e w (h.imp (fun y hy H2 v2 b2 s2 e2 f2 n2 l2 w2 => ?_) fun _ q => q)
  unfold evRgv at hy
  split at hy
  · rename_i i j e1
    cases e1
    obtain ⟨rfl, rfl⟩ := e2.i
    obtain ⟨m, g⟩ := aft_ok? hy
    refine ⟨j, rfl, fun q nq => ?_⟩
    have w3 : Wok (upd H2 q (.rng 0 j)) W := (w.same s2).same (same_upd nq)
    refine OkE.f g (s2.trans (same_upd nq)) (.rg upd_same fun k => ?_)
    obtain ⟨o, e, wr⟩ := w3 _ k
    rw [upd_same] at e
    cases e
    exact wr
  · exact hy.elim
end
end Ds

namespace Ds
open PySem PySem.Spec PyProof.Rows L2

/-! ## 7. Targets -/
mutual
def gnames : G → List Nat
  | .nm i => [i]
  | .tup gs => gnamess gs
def gnamess : List G → List Nat
  | [] => []
  | g :: gs => gnames g ++ gnamess gs
end
/-- the slots behind a store into those names -/
def Off (ns : List Nat) (σ σ' : L2.St) : Prop := σ'.length = σ.length ∧ ∀ j, j ∉ ns → σ'[j]? = σ[j]?
theorem Off.trans {ns ms : List Nat} {σ σ' σ2 : L2.St} (a : Off ns σ σ') (b : Off ms σ' σ2) : Off (ns ++ ms) σ σ2 :=
  ⟨b.1.trans a.1, fun j h => (b.2 j fun m => h (List.mem_append_right _ m)).trans (a.2 j fun m => h (List.mem_append_left _ m))⟩
theorem Off.mono {ns ms : List Nat} {σ σ' : L2.St} (a : Off ns σ σ') (h : ∀ j ∈ ns, j ∈ ms) : Off ms σ σ' := ⟨a.1, fun j n => a.2 j fun m => n (h j m)⟩
/-- the owned places behind a store -/
def Sep (as bs as' : List Addr) : Prop := (∀ a ∈ as', a ∈ as ∨ a ∈ bs) ∧ (as.Nodup → bs.Nodup → (∀ a ∈ as, a ∉ bs) → as'.Nodup)
section
variable (K : Kx)
def tG (g : G) : TG := fun v σ H Q => ∃ d ρ as W bs ρ', Sl K H W ρ σ as ∧ O K H W d v bs ∧ setG g d ρ = some ρ' ∧
  ∀ σ' as', Sl K H W ρ' σ' as' → Sep as bs as' → Off (gnames g) σ σ' → Q σ' H
def tGs (gs : List G) : TGs := fun vs σ H Q => ∃ ds ρ as W ρ', Sl K H W ρ σ as ∧ Fs K H W ds vs ∧ setGs gs ds ρ = some ρ' ∧
  ∀ σ' as', Sl K H W ρ' σ' as' → Sep as [] as' → Off (gnamess gs) σ σ' → Q σ' H
end
section
variable {X : Cx} {pos : Pos}
theorem pg_imp {e : Expr} {t t' : TG} (h : PG X e t) (k : ∀ v σ H Q, t' v σ H Q → t v σ H Q) : PG X e t' := ⟨fun pins s σ H v u Q I r q => h.run pins s σ H v u Q I r (k v σ H Q q)⟩
theorem pgs_imp {e : List Expr} {t t' : TGs} (h : PGs X e t) (k : ∀ v σ H Q, t' v σ H Q → t v σ H Q) : PGs X e t' := ⟨fun pins s σ H v u Q I r q => h.run pins s σ H v u Q I r (k v σ H Q q)⟩
theorem pg_or {e : Expr} {t t' : TG} (h : PG X e t) (h' : PG X e t') : PG X e (fun v σ H Q => t v σ H Q ∨ t' v σ H Q) :=
  ⟨fun pins s σ H v u Q I r q => q.elim (h.run pins s σ H v u Q I r) (h'.run pins s σ H v u Q I r)⟩
theorem nodup_mid {as0 asi as1 bs : List Addr} (n : (as0 ++ asi ++ as1).Nodup) (m : bs.Nodup) (d : ∀ a ∈ as0 ++ asi ++ as1, a ∉ bs) : (as0 ++ bs ++ as1).Nodup := by
  have n0 := List.nodup_append.mp n
  have n1 := List.nodup_append.mp n0.1
  refine List.nodup_append.mpr ⟨List.nodup_append.mpr ⟨n1.1, m, fun a ha b hb e => ?_⟩, n0.2.1, fun a ha b hb e => ?_⟩
  · subst e
    exact d a (by simp [ha]) hb
  · subst e
    rcases List.mem_append.mp ha with ha | ha
    · exact n0.2.2 a (by simp [ha]) a hb rfl
    · exact d a (by simp [hb]) ha
theorem set_sl {K : Kx} {H : Hp} {W : Addr → Prop} {ρ : Rho} {σ : L2.St} {as bs : List Addr} {d : D} {v : V} (e : Sl K H W ρ σ as) (o : O K H W d v bs) (i : Nat) :
    ∃ as', Sl K H W (ρ.set i (some d)) (σ.set i (some v)) as' ∧ Sep as bs as' := by
  by_cases h : i < ρ.length
  · obtain ⟨a0, ai, a1, ea, _, q⟩ := e.at h
    obtain ⟨_, q⟩ := q H W (fun _ _ q _ => q) (fun _ q => .inl q) fun _ _ _ q => q
    refine ⟨_, q d v bs o, fun a m => ?_, fun n m dj => ?_⟩
    · rw [ea]
      rcases List.mem_append.mp m with m | m
      · rcases List.mem_append.mp m with m | m
        · exact .inl (by simp [m])
        · exact .inr m
      · exact .inl (by simp [m])
    · rw [ea] at n dj
      exact nodup_mid n m dj
  · refine ⟨as, ?_, fun a m => .inl m, fun n _ _ => n⟩
    rw [List.set_eq_of_length_le (Nat.le_of_not_lt h), List.set_eq_of_length_le (by rw [← e.length]; exact Nat.le_of_not_lt h)]
    exact e
theorem g_nm {i : Nat} {x : Str} (hN : X.N.Nodup) (hi : X.N[i]? = some x) (hx : Loc X.env.scope x) (hf : X.fn x = true ∨ X.env.scope.names.lookup x = some .local) : PG X (.Name x pos) (tG (kx X xa) (.nm i)) := by
  refine pg_imp (pg_name hN hi hx hf) fun v σ H Q ⟨d, ρ, as, W, bs, ρ', e, o, hs, k⟩ => ?_
  simp only [setG, Option.some.injEq] at hs
  subst hs
  obtain ⟨as', e', sp⟩ := set_sl e o i
  refine k _ _ e' sp ⟨by simp, fun j n => ?_⟩
  exact List.getElem?_set_ne (fun q => n (by simp [gnames, q]))
theorem gs_nil : PGs X [] (tGs (kx X xa) []) := by
  refine pgs_imp pgs_nil fun vs σ H Q ⟨ds, ρ, as, W, ρ', e, r, hs, k⟩ => ?_
  cases r with
  | nil =>
    simp only [setGs, Option.some.injEq] at hs
    subst hs
    exact ⟨rfl, k _ _ e ⟨fun a m => .inl m, fun n _ _ => n⟩ ⟨rfl, fun _ _ => rfl⟩⟩
  | cons _ _ => simp [setGs] at hs
theorem gs_cons {e : Expr} {es : List Expr} {g : G} {gs : List G} (h1 : PG X e (tG (kx X xa) g)) (h2 : PGs X es (tGs (kx X xa) gs)) (hs : (assignEach (e :: es) X.env).map (·.2) = assign e X.env :: (assignEach es X.env).map (·.2)) : PGs X (e :: es) (tGs (kx X xa) (g :: gs)) := by
  refine pgs_imp (pgs_cons h1 h2 hs) fun vs σ H Q ⟨ds, ρ, as, W, ρ', e, r, hs, k⟩ => ?_
  cases r with
  | nil => simp [setGs] at hs
  | cons h t =>
    simp only [setGs] at hs
    split at hs
    · rename_i ρ1 h1
      refine ⟨_, _, rfl, _, ρ, as, W, [], ρ1, e, .fz h, h1, fun σ1 as1 e1 sp1 o1 => ?_⟩
      refine ⟨_, ρ1, as1, W, ρ', e1, t, hs, fun σ2 as2 e2 sp2 o2 => k _ _ e2 ⟨fun a m => ?_, fun n m dj => ?_⟩ (by simpa only [gnamess] using o1.trans o2)⟩
      · rcases sp2.1 a m with m | m
        · exact sp1.1 a m
        · exact .inr m
      · exact sp2.2 (sp1.2 n m dj) m fun _ _ q => nomatch q
    · cases hs
theorem g_tup {es : List Expr} {gs : List G} {k : Nat} (hc : X.calm = true) (h : PGs X es (tGs (kx X xa) gs)) (hl : (assignEach es X.env).length = gs.length) (hst : (assignEach es X.env).findIdx? (·.1) = none) : PG X (.Tuple es k pos) (tG (kx X xa) (.tup gs)) := by
  refine pg_imp (pg_or (pg_tup hc h hl hst) (pg_lst hc h hl hst)) fun v σ H Q ⟨d, ρ, as, W, bs, ρ', e, o, hs, k⟩ => ?_
  have len : ∀ (gs : List G) (ds : List D) (ρ ρ' : Rho), setGs gs ds ρ = some ρ' → ds.length = gs.length := by
    intro gs
    induction gs with
    | nil => intro ds ρ ρ' h; cases ds with
      | nil => rfl
      | cons _ _ => simp [setGs] at h
    | cons g gs ih => intro ds ρ ρ' h; cases ds with
      | nil => simp [setGs] at h
      | cons d ds =>
        simp only [setGs] at h
        split at h
        · simp [ih _ _ _ h]
        · cases h
  simp only [setG] at hs
  cases d with
  | tup ds =>
    simp only [unpD] at hs
    cases o with
    | fz f =>
      obtain ⟨a, vs, rfl, q, z, r⟩ := f.t
      exact .inl ⟨a, vs, rfl, q, by rw [← r.length]; exact len _ _ _ _ hs, ds, ρ, as, W, ρ', e, r, hs, fun σ' as' e' sp of => k σ' as' e' sp (by simpa only [gnames] using of)⟩
  | lst ow ds =>
    simp only [unpD] at hs
    split at hs
    · rename_i us hu
      split at hu
      · rename_i f1
        cases hu
        have : ∃ a vs, v = .ref a ∧ SqL X.K H a vs ∧ Fs (kx X xa) H W ds vs := by
          cases o with
          | fz f =>
            cases f with
            | lst h n z r => exact ⟨_, _, rfl, SqL.of h, r⟩
            | lk h n z r => exact ⟨_, _, rfl, .inl (.inr ⟨_, h⟩), r⟩
            | lkK l c' dn q z v r => exact ⟨_, _, rfl, .inr ⟨_, _, _, l, c', dn, q, z, v⟩, r⟩
          | ow h z r => exact ⟨_, _, rfl, SqL.of h, (r.allF f1).1⟩
        obtain ⟨a, vs, rfl, q, r⟩ := this
        exact .inr ⟨a, vs, rfl, q, by rw [← r.length]; exact len _ _ _ _ hs, ds, ρ, as, W, ρ', e, r, hs, fun σ' as' e' sp of => k σ' as' e' ⟨fun a m => (sp.1 a m).elim .inl fun m => (nomatch m), fun n m dj => sp.2 n List.nodup_nil fun _ _ q => nomatch q⟩ (by simpa only [gnames] using of)⟩
      · cases hu
    · cases hs
  | _ => simp [unpD] at hs

/-! ## 8. What is walked -/
/-- all but what may be written stands -/
def Kp (U : Addr → Prop) (H H' : Hp) : Prop := ∀ a o, H a = some o → ¬ U a → H' a = some o
structure WalkD (K : Kx) (J : It) (ds : List D) (W U : Addr → Prop) (H0 : Hp) : Prop where
  goes : ∀ i H, i < ds.length → Kp U H0 H → J.go i H
  stops : ∀ H, Kp U H0 H → J.stop ds.length H
  yields : ∀ i H x H' d, ds[i]? = some d → Kp U H0 H → J.yld i H x H' → Same H H' ∧ ∀ W', Wok H W' → (∀ a, W' a → W a ∨ H0 a = none) → F K H' W' d x
def uOf (st : Bool) (W : Addr → Prop) : Addr → Prop := fun a => st = true ∧ W a
def tI (L : Lx) (Wx : WX) (st : Bool) (s : S) : TI := fun σ H R => ∃ ρ as W, Sl L.K H W ρ σ as ∧ Wok H W ∧
  Aft (evI L.c st s ρ) (fun ds => ∀ H' J, Same H H' → WalkD L.K J ds W (uOf st W) H' → R J H') (ErE L Wx σ H)
variable {ea : Ec → Addr} {c : Cn} {Wx : WX} {a b e tg : Expr} {sa sb sc : S} {st : Bool}
theorem pi_or {t t' : TI} (h : PI X tg e t) (h' : PI X tg e t') : PI X tg e (fun σ H R => t σ H R ∨ t' σ H R) :=
  ⟨fun pins s σ H R I q => q.elim (h.run pins s σ H R I) (h'.run pins s σ H R I)⟩
theorem Kp.sq {K : Kx} {U : Addr → Prop} {H H' : Hp} {a : Addr} {vs : List V} (n : ¬ U a) (k : Kp U H H') (q : SqL K.k H a vs) : SqL K.k H' a vs := by
  rcases q with (q | ⟨o, q⟩) | q
  · exact .inl (.inl (k _ _ q n))
  · exact .inl (.inr ⟨o, k _ _ q n⟩)
  · exact .inr q
theorem Kp.sqT {K : Kx} {U : Addr → Prop} {H H' : Hp} {a : Addr} {vs : List V} (n : ¬ U a) (k : Kp U H H') (q : SqT K.k H a vs) : SqT K.k H' a vs := by
  rcases q with (q | ⟨o, q⟩) | q
  · exact .inl (.inl (k _ _ q n))
  · exact .inl (.inr ⟨o, k _ _ q n⟩)
  · exact .inr q
theorem range_get {n i : Nat} {f : Nat → D} {d : D} (h : ((List.range n).map f)[i]? = some d) : d = f i := by
  rw [List.getElem?_map] at h
  cases q : (List.range n)[i]? with
  | none => rw [q] at h; cases h
  | some k =>
    rw [q] at h
    obtain ⟨h1, h2⟩ := List.getElem?_eq_some_iff.mp q
    have ek : k = i := by simpa using h2.symm
    subst ek
    cases h
    rfl
theorem walk_rng {K : Kx} {W U : Addr → Prop} {H : Hp} (i j : Int) : WalkD K (Itr i (j - i).toNat) (rangeD i j) W U H where
  goes := fun k H' l _ => by
    show k < (j - i).toNat
    simpa only [rangeD, List.length_map, List.length_range] using l
  stops := fun H' _ => by
    show (j - i).toNat ≤ (rangeD i j).length
    simp only [rangeD, List.length_map, List.length_range]
    exact Nat.le_refl _
  yields := fun k H' x H3 d hd _ y => by
    obtain ⟨rfl, rfl⟩ := y
    rw [range_get hd]
    exact ⟨Same.refl _, fun _ _ _ => .int _⟩
theorem i_rng (hg : Gl X "range") (hm : X.mg "range" = none) {p : Pos} (ha : PE X a (tE (lx X xa ea c) Wx sa)) (hb : PE X b (tE (lx X xa ea c) Wx sb)) (hs : starEach [a, b] X.env = (false, eval a X.env) :: starEach [b] X.env) (hs2 : starEach [b] X.env = (false, eval b X.env) :: starEach [] X.env) :
    PI X tg (.Call (.Name "range" p) [a, b] [] pos) (tI (lx X xa ea c) Wx st (.irng sa sb)) := by
  refine pi_imp (pi_range2 hg hm (pa_cons ha (pa_cons hb pa_nil hs2) hs) (hs.trans (by rw [hs2]; rfl)) hs2) fun σ H R ⟨ρ, as, W, e, w, h⟩ => ?_
  simp only [evI, aft_bind] at h
  refine tE_go e w (h.imp (fun x hx H1 v1 b1 s1 e1 f1 n1 l1 w1 => ?_) fun _ q => q)
  refine tE_go l1 w1 (hx.imp (fun y hy H2 v2 b2 s2 e2 f2 n2 l2 w2 => ?_) fun _ q => q.after s1)
  cases x with
  | int i =>
    cases y with
    | int j =>
      obtain ⟨rfl, _⟩ := e1.i
      obtain ⟨rfl, _⟩ := e2.i
      obtain ⟨m, g⟩ := aft_ok? hy
      simp only [Bool.and_eq_true, decide_eq_true_eq] at m
      unfold p62 at m
      exact ⟨i, j, rfl, ⟨by omega, by omega, by omega, by omega⟩, g H2 _ (s1.trans s2) (walk_rng i j)⟩
    | _ => exact hy.elim
  | _ => exact hy.elim
theorem i_rng1 (hg : Gl X "range") (hm : X.mg "range" = none) {p : Pos} (ha : PE X a (tE (lx X xa ea c) Wx sa)) (hs : starEach [a] X.env = (false, eval a X.env) :: starEach [] X.env) :
    PI X tg (.Call (.Name "range" p) [a] [] pos) (tI (lx X xa ea c) Wx st (.irng (.int 0) sa)) := by
  refine pi_imp (pi_range1 hg hm (pa_cons ha pa_nil hs) hs) fun σ H R ⟨ρ, as, W, e, w, h⟩ => ?_
  simp only [evI, ev, bind_ok, aft_bind] at h
  refine tE_go e w (h.imp (fun y hy H2 v2 b2 s2 e2 f2 n2 l2 w2 => ?_) fun _ q => q)
  cases y with
  | int j =>
    obtain ⟨rfl, _⟩ := e2.i
    obtain ⟨m, g⟩ := aft_ok? hy
    simp only [Bool.and_eq_true, decide_eq_true_eq] at m
    unfold p62 at m
    have e0 : j.toNat = (j - 0).toNat := by rw [Int.sub_zero]
    refine ⟨j, rfl, by omega, by omega, ?_⟩
    rw [e0]
    exact g H2 _ s2 (walk_rng 0 j)
  | _ => exact hy.elim
theorem i_rng3 (hg : Gl X "range") (hm : X.mg "range" = none) {p : Pos} {d : Expr} (ha : PE X a (tE (lx X xa ea c) Wx sa)) (hb : PE X b (tE (lx X xa ea c) Wx sb)) (hc : PE X d (tE (lx X xa ea c) Wx sc))
    (hs : starEach [a, b, d] X.env = (false, eval a X.env) :: starEach [b, d] X.env) (hs2 : starEach [b, d] X.env = (false, eval b X.env) :: starEach [d] X.env) (hs3 : starEach [d] X.env = (false, eval d X.env) :: starEach [] X.env) (hpl : (backTo pos (starEach [b, d] X.env)).any (·.1) = false) :
    PI X tg (.Call (.Name "range" p) [a, b, d] [] pos) (tI (lx X xa ea c) Wx st (.irng3 sa sb sc)) := by
  refine pi_imp (pi_range3 hg hm (pa_cons ha (pa_cons hb (pa_cons hc pa_nil hs3) hs2) hs) hs hpl) fun σ H R ⟨ρ, as, W, e, w, h⟩ => ?_
  simp only [evI, aft_bind] at h
  refine tE_go e w (h.imp (fun x hx H1 v1 b1 s1 e1 f1 n1 l1 w1 => ?_) fun _ q => q)
  refine tE_go l1 w1 (hx.imp (fun y hy H2 v2 b2 s2 e2 f2 n2 l2 w2 => ?_) fun _ q => q.after s1)
  refine tE_go l2 w2 (hy.imp (fun z hz H3 v3 b3 s3 e3 f3 n3 l3 w3 => ?_) fun _ q => q.after (s1.trans s2))
  cases x with
  | int i =>
    cases y with
    | int j =>
      cases z with
      | int k =>
        obtain ⟨rfl, _⟩ := e1.i
        obtain ⟨rfl, _⟩ := e2.i
        obtain ⟨rfl, _⟩ := e3.i
        obtain ⟨ds, hd, g⟩ := aft_lift hz
        unfold rng3 at hd
        split at hd
        · rename_i m
          cases hd
          refine ⟨i, j, k, (Builtin.Range.rangeSize i j k).toNat, rfl, ⟨m.1, m.2.1, m.2.2.1, (Int.toNat_of_nonneg m.2.2.2).symm⟩, g H3 _ ((s1.trans s2).trans s3) ⟨fun i' H' l _ => ?_, fun H' _ => ?_, fun i' H' x H3 d hd _ y => ?_⟩⟩
          · show i' < (Builtin.Range.rangeSize i j k).toNat
            simpa only [List.length_map, List.length_range] using l
          · show (Builtin.Range.rangeSize i j k).toNat ≤ _
            simp only [List.length_map, List.length_range]
            exact Nat.le_refl _
          · obtain ⟨rfl, rfl⟩ := y
            rw [range_get hd]
            exact ⟨Same.refl _, fun _ _ _ => .int _⟩
        · cases hd
      | _ => exact hz.elim
    | _ => exact hz.elim
  | _ => exact hz.elim
end
end Ds

/-! enumerate(a tuple), 1 argument -/
namespace Ds
open PySem
theorem newEnumT {q : Value} {ob : Obj} {G : Heap → Prop} (B : Begins q ob G) :
    Meets (Builtin.«enumerate.__new__» ⟨[.type "enumerate", q], []⟩) (fun _ R s => G s.heap ∧
      R (.ok (.ret (.ref (s.heap.push ob).objs.size)))
        { s with heap := (s.heap.push ob).push { cls := .type "enumerate", data := .fields #[.none, .bool false, .ref s.heap.objs.size, rawInt 0, .none, .none] } }) := by
  refine .of_wp fun prog w A R s h => ?_
  obtain ⟨hp, g, d, tk, os⟩ := s
  obtain ⟨hG, h⟩ := h
  have hS := sub_enumerate
  have it1 : ∀ {A2 : Around} {E2 : Value → Shared → Prop} {Q2 : Value → Shared → Prop}, Q2 (.ref hp.objs.size) ⟨hp.push ob, g, d, tk, os⟩ → wpAny (model prog w) A2 (pyIter q) Q2 E2 ⟨hp, g, d, tk, os⟩ :=
    fun z => B.iter prog w _ _ ⟨hp, g, d, tk, os⟩ _ hG z
  wp_walk using it1
  refine wpAny_stack_any fun stk => wpAny_pure ?_
  split
  · rename_i cl _ _ _ _ _
    cases (cl == Value.type "enumerate")
    all_goals
      wp_walk using it1
      exact ⟨_, rfl, h⟩
  · wp_walk using it1
    exact ⟨_, rfl, h⟩
theorem enumB {prog : Program} {w : World} {A : Around} {E : Value → Shared → Prop} {s : Shared} {q : Value} {ob : Obj} {G : Heap → Prop} {Q : Value → Shared → Prop} (B : Begins q ob G) (hG : G s.heap)
    (k : ∀ h2, IsEnum h2 (s.heap.objs.size + 1) s.heap.objs.size 0 .none → h2.get? s.heap.objs.size = some ob → (∀ b u, s.heap.get? b = some u → h2.get? b = some u) → Q (.ref (s.heap.objs.size + 1)) { s with heap := h2 }) :
    wpAny (model prog w) A (call (.type "enumerate") [q]) Q E s := by
  refine callType_new F.called_enumerate (by decide) (F.typeCall_enumerate_1 _) (F.newCall_enumerate_1 _) (fun obj => F.args_object_init_2 obj _) F.entry_enumerate_new (newEnumT B) ⟨hG, ?_⟩
  have sz : (s.heap.push ob).objs.size = s.heap.objs.size + 1 := Heap.size_push ..
  show _ ∧ _
  rw [sz]
  have en : IsEnum ((s.heap.push ob).push { cls := .type "enumerate", data := .fields #[.none, .bool false, .ref s.heap.objs.size, rawInt 0, .none, .none] }) (s.heap.objs.size + 1) s.heap.objs.size 0 .none := by
    have z := Heap.get?_push_size (s.heap.push ob) (o := { cls := .type "enumerate", data := .fields #[.none, .bool false, .ref s.heap.objs.size, rawInt 0, .none, .none] }) rfl
    rw [sz] at z
    exact z
  exact ⟨⟨_, en, rfl⟩, k _ en (Heap.get?_push_of_some _ (Heap.get?_push_size _ B.free)) fun b u z => Heap.get?_push_of_some _ (Heap.get?_push_of_some _ z)⟩
end Ds
namespace Ds
open PySem PySem.Spec PyProof.Rows L2
/-- the tuple at a, each item in a new pair -/
def IteT (K : PySem.W.Frag) (a : Addr) : It :=
  ⟨fun i H => ∃ (xs : List V) (x : V), SqT K H a xs ∧ xs[i]? = some x, fun i H v H' => ∃ T x, v = .ref T ∧ H T = none ∧ H' = upd H T (.tup [.int (i : Nat), x]) ∧ ∀ xs, SqT K H a xs → xs[i]? = some x, fun i H => ∃ xs : List V, SqT K H a xs ∧ xs.length ≤ i⟩
theorem turn_enumT {P : Program} {w : World} {K : PySem.W.Frag} {elts : List Expr} {kk : Nat} {tpos : Pos} (a e it : Addr) :
    Turn P w K (.Tuple elts kk tpos) (IteT K a) [e, it] e (fun i h => (∃ old, IsEnum h e it ((i : Nat) : Int) old) ∧ h.IsTupleIter it a i ∧ e ≠ it ∧ e ≠ a ∧ a ≠ it) where
  mem := by simp
  obj := fun i h tn b hb => by
    obtain ⟨⟨old, he⟩, ⟨o, ho, hc, hd⟩, _⟩ := tn
    rcases (show b = e ∨ b = it by simpa using hb) with z | z
    · subst z; exact ⟨_, he, fun v q => nomatch q⟩
    · subst z; exact ⟨o, ho, fun v q => by rw [hd] at q; cases q⟩
  keep := fun i h h' tn k => let ⟨⟨old, he⟩, hi, hne, ha⟩ := tn; ⟨⟨old, k e (by simp) _ he⟩, hi.at fun o q => k it (by simp) o q, hne, ha⟩
  item := by
    intro X hP hw hK hc i pins s σ H E I hf tn hg
    subst hP hw hK
    obtain ⟨⟨old, he⟩, hit, hne, hea, hai⟩ := tn
    obtain ⟨xs, x, hq, hx⟩ := hg
    obtain ⟨its, rv, p, hz⟩ := I.tuple hq
    obtain ⟨u, hu, ru⟩ := rv.get hx
    have hel : e < s.heap.objs.size := Heap.lt_size he
    have hil : it < s.heap.objs.size := by obtain ⟨_, q, _⟩ := hit; exact Heap.lt_size q
    have hlt : i < its.toArray.size := by
      have := (List.getElem?_eq_some_iff.mp hu).1
      simpa using this
    have hin : X.A.in1.handled = none := I.ok.hd hc
    refine wpAny_pyNext_enum_itemC (c := (i : Int)) (Draws.tuple hin it a hai its.toArray) he ⟨hit, p⟩ hlt hne (by simp [hne, hea]) fun u2 h' tk hP2 ho hst' hT hsz hk => ?_
    have eu : u2 = u := by
      have h2 : its.toArray[i]? = some u2 := hP2
      have h3 : its[i]? = some u2 := by simpa using h2
      rw [hu] at h3
      exact (Option.some.inj h3).symm
    subst eu
    refine ⟨_, rfl, wpAny_letOwnedTupleGo_enum (s := { s with heap := h', toks := tk + 1 }) ho fun h'' he' sb => ?_⟩
    have hT2 : h''.get? s.heap.objs.size = some { cls := .type "tuple", data := .seq #[.int i tk, u2] } := (sb.2 _ (Nat.ne_of_gt hel)).trans hT
    have new : ObjOk X.prog X.w (upd H s.heap.objs.size (.tup [.int (i : Nat), x])) h'' s.heap.objs.size (.tup [.int (i : Nat), x]) :=
      ⟨by show 2 ≤ sizeLine; decide, [.int i tk, u2], .cons ⟨_, rfl⟩ (.cons ru .nil), ⟨_, hT2, rfl, _, rfl⟩⟩
    have I1 : Inv X pins σ (upd H s.heap.objs.size (.tup [.int (i : Nat), x])) { s with heap := h'', toks := tk + 1 } :=
      I.turnedNew (ch := [e, it]) (fun b ob hb q => (sb.2 b (fun z => hb (by simp [z]))).trans (hk b ob (fun z => hb (by simp [z])) (fun z => hb (by simp [z])) q)) hf (Nat.le_refl _) new
    refine ⟨.ref s.heap.objs.size, _, I1, rfl, ⟨_, x, rfl, I.hok.fresh (Nat.le_refl _), rfl, fun ys hy => by rw [I.tuple_inj hy hq]; exact hx⟩, ⟨⟨u2, ?_⟩, hst'.1.at fun o q => (sb.2 it (Ne.symm hne)).trans q, hne, hea, hai⟩, fun b hb => ?_⟩
    · have e1 : ((i + 1 : Nat) : Int) = (i : Int) + 1 := by omega
      rw [e1]; exact he'
    · have hlb : b < s.heap.objs.size := by
        rcases (show b = e ∨ b = it by simpa using hb) with z | z
        · rw [z]; exact hel
        · rw [z]; exact hil
      rw [upd_ne (Nat.ne_of_lt hlb)]
      exact (hf b hb).1
  done := by
    intro X hP hw hK hc i pins s σ H E I hf tn hg
    subst hP hw hK
    obtain ⟨⟨old, he⟩, hit, hne, hea, hai⟩ := tn
    obtain ⟨xs, hq, hx⟩ := hg
    obtain ⟨its, rv, p, hz⟩ := I.tuple hq
    obtain ⟨f0, f1, f2, f3, f4, f5⟩ := hf it (by simp)
    have hl := rv.length
    have hin : X.A.in1.handled = none := I.ok.hd hc
    have D : Draws X.prog X.w X.A.in1 it [it, a] i (fun _ _ => True) (fun j h => j = i ∧ h.IsTupleIter it a i ∧ h.IsTuple a its.toArray) :=
      { live := fun _ _ z => let ⟨_, ⟨o, ho, _⟩, _⟩ := z; ⟨o, ho⟩
        frame := fun _ _ _ z hk => ⟨z.1, z.2.1.at fun o q => hk it (by simp) o q, z.2.2.at fun o q => hk a (by simp) o q⟩
        item := fun j s Q E hj z hQ => absurd z.1 (Nat.ne_of_lt hj)
        done := fun s Q E z hE => wpAny_nextOf_tuple_end hin z.2.1 z.2.2 (by simp; omega) hE }
    exact wpAny_pyNext_enum_endD D he ⟨rfl, hit, p⟩ fun h' eb => ⟨rfl, I.turned (t' := s.toks) (fun b o hb q => eb b o hb q) f0 f1 f3 f4 f5⟩
  self := fun A i s Q E tn h => let ⟨⟨_, he⟩, _⟩ := tn; wpAny_pyIter_enum he h
def iEnumA (K : PySem.W.Frag) (ta : TA) : TI := fun σ H R => ta σ H fun vs H1 => ∃ a xs, vs = [.ref a] ∧ ((SqL K H1 a xs ∧ R (Ite K a) H1) ∨ (SqT K H1 a xs ∧ R (IteT K a) H1))
theorem pi_enumA {X : Cx} {e : Expr} {ta : TA} {p pos tpos : Pos} {elts : List Expr} {kk : Nat} (hg : Gl X "enumerate") (hm : X.mg "enumerate" = none) (ha : PA X [e] ta) (hs : starEach [e] X.env = [(false, eval e X.env)]) :
    PI X (.Tuple elts kk tpos) (.Call (.Name "enumerate" p) [e] [] pos) (iEnumA X.K ta) := by
  refine ⟨fun pins s σ H R I h => ?_⟩
  refine Call_ (ld_blt I hg hm boot_enumerate (PyProof.Rows.callWith_type1 (thn (ha.run pos pins s σ H _ I h) fun us s1 ⟨vs, H1, I1, r1, q1⟩ => ?_) hs rfl))
  obtain ⟨a, xs, ex, q⟩ := q1
  subst ex
  cases r1 with
  | cons r rr =>
    cases rr
    cases r
    have fp : ∀ b ∈ [s1.heap.objs.size + 1, s1.heap.objs.size], s1.heap.objs.size ≤ b := fun b hb => by
      rcases (show b = s1.heap.objs.size + 1 ∨ b = s1.heap.objs.size by simpa using hb) with z | z
      · rw [z]; exact Nat.le_add_right _ _
      · rw [z]; exact Nat.le_refl _
    rcases q with ⟨hq, q⟩ | ⟨hq, q⟩
    · obtain ⟨its, rv, p', hz⟩ := I1.list hq
      refine call_enumerate_list p'.isList fun h' he hit hsz hk => wpAny_pyIter_enum he ?_
      exact ⟨s1.heap.objs.size + 1, [s1.heap.objs.size + 1, s1.heap.objs.size], _, _, H1, rfl, I1.kept (t' := s1.toks) hk, turn_enum a (s1.heap.objs.size + 1) s1.heap.objs.size, ⟨⟨.none, he⟩, hit, Nat.succ_ne_self _⟩, fun b hb => I1.fpOk (fp b hb) (I1.hok.fresh (fp b hb)), q⟩
    · obtain ⟨its, rv, p', hz⟩ := I1.tuple hq
      have al : a < s1.heap.objs.size := p'.lt
      refine enumB (begins_tuple a its.toArray) p' fun h2 he hit hk => wpAny_pyIter_enum he ?_
      exact ⟨s1.heap.objs.size + 1, [s1.heap.objs.size + 1, s1.heap.objs.size], _, _, H1, rfl, I1.kept (t' := s1.toks) hk, turn_enumT a (s1.heap.objs.size + 1) s1.heap.objs.size, ⟨⟨.none, he⟩, ⟨_, hit, rfl, rfl⟩, Nat.succ_ne_self _, Nat.ne_of_gt (Nat.lt_succ_of_lt al), Nat.ne_of_lt al⟩, fun b hb => I1.fpOk (fp b hb) (I1.hok.fresh (fp b hb)), q⟩
end Ds

namespace Ds
open PySem PySem.Spec PyProof.Rows L2
section
variable {X : Cx} {xa : Xa} {ea : Ec → Addr} {c : Cn} {Wx : WX} {a b e tg : Expr} {sa sb sc : S} {pos : Pos} {st : Bool}
/-- what is walked stays, whatever the loop's body writes -/
theorem E.stay {K : Kx} {H : Hp} {W : Addr → Prop} {bs : List Addr} {d : D} {v : V} {xs : List D} (hb : ∀ b ∈ bs, ¬ W b) (h : E K H (plus W bs) d v bs) (n : isW st d = false) (q : seqOf d = some xs) :
    ∃ a vs, v = .ref a ∧ Fs K H W xs vs ∧ ((∃ o ds, d = .lst o ds ∧ lstOf (.lst o ds) = some xs ∧ ∀ H', Kp (uOf st W) H H' → SqL K.k H' a vs) ∨ (d = .tup xs ∧ ∀ H', Kp (uOf st W) H H' → SqT K.k H' a vs)) := by
  cases d with
  | tup ds =>
    simp only [seqOf, Option.some.injEq] at q
    subst q
    cases h with
    | o h =>
      cases h with
      | fz h =>
        cases h with
        | tup hh n' z r => exact ⟨_, _, rfl, r.keep (fun _ _ q _ => q) (fun a q => .inl (.inl q)), .inr ⟨rfl, fun H' k => k.sqT (fun q => n' (.inl q.2)) (.inl hh)⟩⟩
        | tupK l c' q' z' v' r => exact ⟨_, _, rfl, r.keep (fun _ _ q _ => q) (fun a q => .inl (.inl q)), .inr ⟨rfl, fun H' k => .inr ⟨_, _, _, l, c', q', z', v'⟩⟩⟩
  | lst o ds =>
    simp only [seqOf] at q
    by_cases hK : ∃ (a : Addr) (vs : List V) (ob : Obj) (its : Array Value) (n : Nat), o = .lk ∧ v = .ref a ∧ K.k.lookup a = some ob ∧ ob.cls = .type "list" ∧ ob.dict = none ∧ ob.data = .seq its n ∧ its.size ≤ sizeLine ∧ Vals vs its.toList ∧ Fs K H (plus W bs) ds vs
    · obtain ⟨a, vs, ob, its, n, rfl, rfl, k1, k2, k3, k4, k5, k6, k7⟩ := hK
      simp only [lstOf, Option.some.injEq] at q
      subst q
      exact ⟨a, vs, rfl, k7.keep (fun _ _ q _ => q) (fun a q => .inl (.inl q)), .inl ⟨.lk, ds, rfl, rfl, fun H' k => .inr ⟨_, _, _, k1, k2, k3, k4, k5, k6⟩⟩⟩
    obtain ⟨a, vs, rfl, hk, z, _, _, r⟩ := E.l hb h
    refine ⟨a, vs, rfl, r xs q, .inl ⟨o, ds, rfl, q, fun H' k => ?_⟩⟩
    cases h with
    | bo hh _ _ =>
      cases st with
      | true => simp [isW] at n
      | false => exact k.sq (fun q => Bool.noConfusion q.1) hk
    | o h =>
      cases h with
      | ow hh _ _ => exact k.sq (fun q => hb _ List.mem_cons_self q.2) hk
      | fz h =>
        cases h with
        | lst hh n _ _ => exact k.sq (fun q => n (.inl q.2)) hk
        | lk hh n _ _ => exact k.sq (fun q => n (.inl q.2)) hk
        | lkK l c' dn q' z v r => exact absurd ⟨_, _, _, _, _, rfl, rfl, l, c', dn, q', z, v, r⟩ hK
  | _ => simp [seqOf, lstOf] at q
theorem Fs.item {K : Kx} {H H1 H' : Hp} {W U : Addr → Prop} {xs : List D} {vs : List V} {i : Nat} {x : V} {d : D} (r : Fs K H W xs vs) (u : ∀ a, U a → W a) (k : Kp U H H1) (s : Same H1 H') (hx : vs[i]? = some x) (hd : xs[i]? = some d) {W' : Addr → Prop}
    (w : ∀ a, W' a → W a ∨ H a = none) : F K H' W' d x := by
  obtain ⟨d', e', f⟩ := r.get' hx
  rw [hd] at e'
  cases e'
  exact f.keep (fun a o e n => s a o (k a o e fun q => n (u a q))) w
theorem uOf_W {W : Addr → Prop} : ∀ a, uOf st W a → W a := fun _ q => q.2
theorem walk_l {K : Kx} {H : Hp} {W : Addr → Prop} {xs : List D} {vs : List V} {a : Addr} (r : Fs K H W xs vs) (q : ∀ H', Kp (uOf st W) H H' → SqL K.k H' a vs) : WalkD K (Itl K.k a) xs W (uOf st W) H where
  goes := fun i H' l k => ⟨vs, vs[i]'(by rw [← r.length]; exact l), q H' k, by simp⟩
  stops := fun H' k => ⟨vs, q H' k, by rw [r.length]; exact Nat.le_refl _⟩
  yields := fun i H1 x H' d hd k y => by
    obtain ⟨rfl, g⟩ := y
    exact ⟨Same.refl _, fun W' _ w => r.item uOf_W k (Same.refl _) (g vs (q _ k)) hd w⟩
theorem walk_t {K : Kx} {H : Hp} {W : Addr → Prop} {xs : List D} {vs : List V} {a : Addr} (r : Fs K H W xs vs) (q : ∀ H', Kp (uOf st W) H H' → SqT K.k H' a vs) : WalkD K (Itt K.k a) xs W (uOf st W) H where
  goes := fun i H' l k => ⟨vs, vs[i]'(by rw [← r.length]; exact l), q H' k, by simp⟩
  stops := fun H' k => ⟨vs, q H' k, by rw [r.length]; exact Nat.le_refl _⟩
  yields := fun i H1 x H' d hd k y => by
    obtain ⟨rfl, g⟩ := y
    exact ⟨Same.refl _, fun W' _ w => r.item uOf_W k (Same.refl _) (g vs (q _ k)) hd w⟩
/-- a range object, walked -/
def iRngV (tl : TE) : TI := fun σ H R => tl σ H fun x H1 => ∃ a lo hi, x = .ref a ∧ H1 a = some (.rng lo hi) ∧ (-(2 ^ 62) ≤ lo ∧ lo < 2 ^ 62 ∧ -(2 ^ 62) ≤ hi ∧ hi < 2 ^ 62) ∧ R (Itr lo (hi - lo).toNat) H1
theorem pi_rngV {l : Expr} {tl : TE} (hl : PE X l tl) : PI X tg l (iRngV tl) := by
  refine ⟨fun pins s σ H R I h => ?_⟩
  refine thn (hl.run pins s σ H _ I h) fun v s1 ⟨x, H1, I1, r1, q1⟩ => ?_
  obtain ⟨a, lo, hi, e, hq, ⟨h1, h2, h3, h4⟩, q⟩ := q1
  subst e
  cases r1
  obtain ⟨t, u, v, ho⟩ := I1.hok a _ hq
  refine wpAny_pyIter_range (show IsRange s1.heap a lo hi 1 t u v from ho) (small_one h1 h2 h3 h4) ?_
  refine ⟨s1.heap.objs.size, [s1.heap.objs.size], _, _, H1, rfl, I1.kept (t' := s1.toks) fun b o e => Heap.get?_push_of_some _ e, turn_range _ lo (hi - lo).toNat, ?_, fun b hb => ?_, q⟩
  · have e1 : lo + ((0 : Nat) : Int) * 1 = lo := by simp
    have e2 : (((hi - lo).toNat : Nat) : Int) - ((0 : Nat) : Int) = Builtin.Range.rangeSize lo hi 1 := by rw [rangeSize_one]; split <;> omega
    show IsRangeIter _ _ (lo + ((0 : Nat) : Int) * 1) ((((hi - lo).toNat : Nat) : Int) - ((0 : Nat) : Int)) 1
    rw [e1, e2]
    exact Heap.get?_push_size _ rfl
  · have e : b = s1.heap.objs.size := by simpa using hb
    subst e
    exact I1.fpOk (Nat.le_refl _) (I1.hok.fresh (Nat.le_refl _))
theorem E.rg {K : Kx} {H : Hp} {W : Addr → Prop} {i j : Int} {v : V} {bs : List Addr} (h : E K H W (.rg i j) v bs) : ∃ a, v = .ref a ∧ H a = some (.rng i j) ∧ bs = [] := by
  cases h with
  | o h => cases h with
    | fz h => cases h with
      | rg h n => exact ⟨_, rfl, h, rfl⟩
/-- a list, a tuple, a text or a range -/
theorem i_seq (ha : PE X a (tE (lx X xa ea c) Wx sa)) : PI X tg a (tI (lx X xa ea c) Wx st (.iseq sa)) := by
  refine pi_imp (pi_or (pi_list ha) (pi_or (pi_tup ha) (pi_or (pi_str ha) (pi_rngV ha)))) fun σ H R ⟨ρ, as, W, e, w, h⟩ => ?_
  simp only [evI, aft_bind] at h
  have go : ∀ {P : V → Hp → Prop}, (∀ x H1 v1 b1, ev c sa ρ = .ok x → Same H H1 → E (kx X xa) H1 (plus W b1) x v1 b1 → (∀ b ∈ b1, ¬ W b) → P v1 H1) → tE (lx X xa ea c) Wx sa σ H P := fun {P} k => by
    refine tE_go e w ?_
    cases q : ev c sa ρ with
    | st => rw [q] at h; exact h.elim
    | er er => rw [q] at h; exact h
    | ok x => exact fun H1 v1 b1 s1 e1 f1 n1 l1 w1 => k x H1 v1 b1 q s1 e1 (fresh_no w f1)
  have ok : ∀ {x : D}, ev c sa ρ = .ok x → isW st x = false ∧ ∃ ds, strLit x = some ds ∧ ∀ H' J, Same H H' → WalkD (kx X xa) J ds W (uOf st W) H' → R J H' := fun {x} q => by
    rw [q] at h
    have h : Aft (if isW st x = true then Re.st else lift (strLit x)) _ _ := h
    split at h
    · exact h.elim
    · rename_i n
      obtain ⟨ds, hd, g⟩ := aft_lift h
      exact ⟨by simpa using n, ds, hd, g⟩
  cases q : ev c sa ρ with
  | st => rw [q] at h; exact h.elim
  | er er => exact .inl (go fun x _ _ _ q' => by rw [q] at q'; cases q')
  | ok x =>
    obtain ⟨n, ds, hd, g⟩ := ok q
    cases x with
    | lst o es =>
      refine .inl (go fun x H1 v1 b1 q' s1 e1 hb => ?_)
      rw [q] at q'
      cases q'
      obtain ⟨p, vs, rfl, r, hk⟩ := E.stay hb e1 n (show seqOf (.lst o es) = some ds from hd)
      rcases hk with ⟨o', ds', e', hl, hk⟩ | ⟨e', _⟩
      · exact ⟨p, rfl, ⟨vs, hk H1 fun _ _ q _ => q⟩, g H1 _ s1 (walk_l r hk)⟩
      · cases e'
    | tup es =>
      refine .inr (.inl (go fun x H1 v1 b1 q' s1 e1 hb => ?_))
      rw [q] at q'
      cases q'
      obtain ⟨p, vs, rfl, r, hk⟩ := E.stay hb e1 n (show seqOf (.tup es) = some ds from hd)
      rcases hk with ⟨o', ds', e', hl, hk⟩ | ⟨e', hk⟩
      · cases e'
      · exact ⟨p, rfl, ⟨vs, hk H1 fun _ _ q _ => q⟩, g H1 _ s1 (walk_t r hk)⟩
    | str z =>
      refine .inr (.inr (.inl (go fun x H1 v1 b1 q' s1 e1 hb => ?_)))
      rw [q] at q'
      cases q'
      obtain ⟨rfl, _⟩ := e1.s
      simp only [strLit] at hd
      split at hd
      · cases hd
        refine ⟨z, rfl, g H1 _ s1 ⟨fun i H' l k => ?_, fun H' k => ?_, fun i H2 x H' d hd k y => ?_⟩⟩
        · show i < z.cps.size
          simpa [chars] using l
        · show z.cps.size ≤ _
          simp [chars]
        · obtain ⟨rfl, ch, hc, rfl⟩ := y
          unfold chars at hd
          rw [List.getElem?_map] at hd
          have hc' : z.cps.toList[i]? = some ch := by simpa using hc
          rw [hc'] at hd
          cases hd
          exact ⟨Same.refl _, fun _ _ _ => .str _⟩
      · cases hd
    | rg lo hi =>
      refine .inr (.inr (.inr (go fun x H1 v1 b1 q' s1 e1 hb => ?_)))
      rw [q] at q'
      cases q'
      obtain ⟨p, rfl, hp, _⟩ := e1.rg
      simp only [strLit] at hd
      split at hd
      · rename_i m
        cases hd
        simp only [Bool.and_eq_true, decide_eq_true_eq] at m
        unfold p62 at m
        exact ⟨p, lo, hi, rfl, hp, ⟨by omega, by omega, by omega, by omega⟩, g H1 _ s1 (walk_rng lo hi)⟩
      · cases hd
    | _ => simp [strLit, seqOf, lstOf] at hd
theorem pair_F {K : Kx} {H : Hp} {W : Addr → Prop} {T : Addr} {d1 d2 : D} {x y : V} (w : Wok (upd H T (.tup [x, y])) W) (n : H T = none) (f1 : F K (upd H T (.tup [x, y])) W d1 x) (f2 : F K (upd H T (.tup [x, y])) W d2 y) : F K (upd H T (.tup [x, y])) W (.tup [d1, d2]) (.ref T) :=
  .tup (.inl upd_same) (fun q => by obtain ⟨vs, e, wr⟩ := w T q; rw [upd_same] at e; cases e; exact wr) (by show 2 ≤ sizeLine; decide) (.cons f1 (.cons f2 .nil))
theorem enum_get : ∀ (ds : List D) (k i : Nat) (d : D), ((ds.zipIdx k).map fun (d, k) => D.tup [.int (k : Nat), d])[i]? = some d → ∃ x, ds[i]? = some x ∧ d = .tup [.int ((k + i : Nat) : Int), x]
  | [], _, _, _, h => by simp at h
  | x :: xs, k, 0, d, h => by
    simp only [List.zipIdx_cons, List.map_cons, List.getElem?_cons_zero, Option.some.injEq] at h
    exact ⟨x, by simp, h.symm⟩
  | x :: xs, k, i + 1, d, h => by
    simp only [List.zipIdx_cons, List.map_cons, List.getElem?_cons_succ] at h
    obtain ⟨y, h1, h2⟩ := enum_get xs (k + 1) i d h
    exact ⟨y, by simpa using h1, by rw [h2]; congr 3; omega⟩
theorem enum_len (ds : List D) : (enumD ds).length = ds.length := by simp [enumD]
theorem i_enum {elts : List Expr} {kk : Nat} {tpos p : Pos} (hg : Gl X "enumerate") (hm : X.mg "enumerate" = none) (ha : PE X a (tE (lx X xa ea c) Wx sa)) (hs : starEach [a] X.env = (false, eval a X.env) :: starEach [] X.env) :
    PI X (.Tuple elts kk tpos) (.Call (.Name "enumerate" p) [a] [] pos) (tI (lx X xa ea c) Wx st (.ienum sa)) := by
  refine pi_imp (pi_enumA hg hm (pa_cons ha pa_nil hs) hs) fun σ H R ⟨ρ, as, W, e, w, h⟩ => ?_
  simp only [evI, aft_bind] at h
  refine tE_go e w (h.imp (fun x hx H1 v1 b1 s1 e1 f1 n1 l1 w1 => ?_) fun _ q => q)
  split at hx
  · exact hx.elim
  · rename_i n
    rw [aft_bind] at hx
    obtain ⟨ds, hd, g⟩ := aft_lift hx
    obtain ⟨p, vs, rfl, r, hk⟩ := E.stay (fresh_no w f1) e1 (by simpa using n) hd
    have g : ∀ H' J, Same H H' → WalkD (kx X xa) J (enumD ds) W (uOf st W) H' → R J H' := g
    have ylds : ∀ {i : Nat} {H2 x H' d} (T : Addr) (y : V), vs[i]? = some y → (enumD ds)[i]? = some d → Kp (uOf st W) H1 H2 → x = V.ref T → H2 T = none → H' = upd H2 T (.tup [.int (i : Nat), y]) → Same H2 H' ∧ ∀ W', Wok H2 W' → (∀ a, W' a → W a ∨ H1 a = none) → F (kx X xa) H' W' d x := by
      intro i H2 x H' d T y hy hd2 k ex nT eH
      subst ex eH
      obtain ⟨z, hz, rfl⟩ := enum_get ds 0 i d hd2
      have s2 : Same H2 (upd H2 T (.tup [.int (i : Nat), y])) := same_upd nT
      refine ⟨s2, fun W' w' k' => pair_F (w'.same s2) nT ?_ (r.item uOf_W k s2 hy hz k')⟩
      rw [Nat.zero_add]
      exact .int _
    refine ⟨p, vs, rfl, ?_⟩
    rcases hk with ⟨o', ds', e', hl, hk⟩ | ⟨e', hk⟩
    · refine .inl ⟨hk H1 fun _ _ q _ => q, g H1 _ s1 ⟨fun i H' l k => ?_, fun H' k => ?_, fun i H2 x H' d hd k y => ?_⟩⟩
      · rw [enum_len, r.length] at l
        exact ⟨vs, vs[i], hk H' k, by simp⟩
      · exact ⟨vs, hk H' k, by rw [enum_len, r.length]; exact Nat.le_refl _⟩
      · obtain ⟨T, y, rfl, nT, rfl, gy⟩ := y
        exact ylds T y (gy vs (hk H2 k)) hd k rfl nT rfl
    · refine .inr ⟨hk H1 fun _ _ q _ => q, g H1 _ s1 ⟨fun i H' l k => ?_, fun H' k => ?_, fun i H2 x H' d hd k y => ?_⟩⟩
      · rw [enum_len, r.length] at l
        exact ⟨vs, vs[i], hk H' k, by simp⟩
      · exact ⟨vs, hk H' k, by rw [enum_len, r.length]; exact Nat.le_refl _⟩
      · obtain ⟨T, y, rfl, nT, rfl, gy⟩ := y
        exact ylds T y (gy vs (hk H2 k)) hd k rfl nT rfl
theorem i_rev {p : Pos} (hg : Gl X "reversed") (hm : X.mg "reversed" = none) (ha : PE X a (tE (lx X xa ea c) Wx sa)) (hs : starEach [a] X.env = (false, eval a X.env) :: starEach [] X.env) :
    PI X tg (.Call (.Name "reversed" p) [a] [] pos) (tI (lx X xa ea c) Wx st (.irev sa)) := by
  refine pi_imp (RT.pi_revA hg hm ha hs) fun σ H R ⟨ρ, as, W, e, w, h⟩ => ?_
  simp only [evI, aft_bind] at h
  refine tE_go e w (h.imp (fun x hx H1 v1 b1 s1 e1 f1 n1 l1 w1 => ?_) fun _ q => q)
  split at hx
  · exact hx.elim
  · rename_i n
    rw [aft_bind] at hx
    obtain ⟨ds, hd, g⟩ := aft_lift hx
    obtain ⟨p, vs, rfl, r, hk⟩ := E.stay (fresh_no w f1) e1 (by simpa using n) hd
    have g : ∀ H' J, Same H H' → WalkD (kx X xa) J ds.reverse W (uOf st W) H' → R J H' := g
    have rl := r.length
    refine ⟨p, vs, rfl, ?_⟩
    have at_ : ∀ {i : Nat} {d : D}, ds.reverse[i]? = some d → ds[vs.length - 1 - i]? = some d := by
      intro i d hd
      have l : i < ds.length := by
        have := (List.getElem?_eq_some_iff.mp hd).1
        simpa using this
      rw [List.getElem?_reverse l, rl] at hd
      exact hd
    rcases hk with ⟨o', ds', e', hl, hk⟩ | ⟨e', hk⟩
    · refine .inl ⟨hk H1 fun _ _ q _ => q, g H1 _ s1 ⟨fun i H' l k => ?_, fun H' k => ?_, fun i H2 x H' d hd k y => ?_⟩⟩
      · rw [List.length_reverse, rl] at l
        exact ⟨l, vs, vs[vs.length - 1 - i]'(by omega), hk H' k, by simp⟩
      · show vs.length ≤ _
        rw [List.length_reverse, rl]
        exact Nat.le_refl _
      · obtain ⟨rfl, gy⟩ := y
        exact ⟨Same.refl _, fun W' _ w => r.item uOf_W k (Same.refl _) (gy vs (hk _ k)) (at_ hd) w⟩
    · refine .inr ⟨hk H1 fun _ _ q _ => q, g H1 _ s1 ⟨fun i H' l k => ?_, fun H' k => ?_, fun i H2 x H' d hd k y => ?_⟩⟩
      · rw [List.length_reverse, rl] at l
        exact ⟨l, vs, vs[vs.length - 1 - i]'(by omega), hk H' k, by simp⟩
      · show vs.length ≤ _
        rw [List.length_reverse, rl]
        exact Nat.le_refl _
      · obtain ⟨rfl, gy⟩ := y
        exact ⟨Same.refl _, fun W' _ w => r.item uOf_W k (Same.refl _) (gy vs (hk _ k)) (at_ hd) w⟩
theorem zip_get {xs ys : List D} {i : Nat} {d : D} (h : (zipD xs ys)[i]? = some d) : ∃ x y, xs[i]? = some x ∧ ys[i]? = some y ∧ d = .tup [x, y] := by
  unfold zipD at h
  rw [List.getElem?_map] at h
  cases q : (xs.zip ys)[i]? with
  | none => rw [q] at h; cases h
  | some z =>
    rw [q] at h
    obtain ⟨x, y⟩ := z
    cases h
    rw [List.getElem?_zip_eq_some] at q
    exact ⟨x, y, q.1, q.2, rfl⟩
theorem zip_len (xs ys : List D) : (zipD xs ys).length = min xs.length ys.length := by simp [zipD]
theorem i_zip {elts : List Expr} {kk : Nat} {tpos p : Pos} (hg : Gl X "zip") (hm : X.mg "zip" = none) (ha : PE X a (tE (lx X xa ea c) Wx sa)) (hb : PE X b (tE (lx X xa ea c) Wx sb))
    (hs : starEach [a, b] X.env = (false, eval a X.env) :: starEach [b] X.env) (hs2 : starEach [b] X.env = (false, eval b X.env) :: starEach [] X.env) (hpl : (backTo pos (starEach [b] X.env)).any (·.1) = false) :
    PI X (.Tuple elts kk tpos) (.Call (.Name "zip" p) [a, b] [] pos) (tI (lx X xa ea c) Wx st (.izip sa sb)) := by
  refine pi_imp (RZ.pi_zipA hg hm (pa_cons ha (pa_cons hb pa_nil hs2) hs) hs hpl) fun σ H R ⟨ρ, as, W, e, w, h⟩ => ?_
  simp only [evI, aft_bind] at h
  refine tE_go e w (h.imp (fun x hx H1 v1 b1 s1 e1 f1 n1 l1 w1 => ?_) fun _ q => q)
  refine tE_go l1 w1 (hx.imp (fun y hy H2 v2 b2 s2 e2 f2 n2 l2 w2 => ?_) fun _ q => q.after s1)
  split at hy
  · exact hy.elim
  · rename_i n
    simp only [Bool.or_eq_true, not_or, Bool.not_eq_true] at n
    have ex : E (kx X xa) H2 (plus W b1) x v1 b1 := e1.keep s2 fun _ q => .inl q
    have ey : E (kx X xa) H2 (plus W b2) y v2 b2 := e2.keep (Same.refl H2) fun a q => .inl (q.elim (fun q => .inl (.inl q)) .inr)
    have hx' := fresh_no w f1
    have hy' : ∀ b ∈ b2, ¬ W b := fun b m q => fresh_no w1 f2 b m (.inl q)
    have key : ∃ us ws, seqOf x = some us ∧ seqOf y = some ws ∧ (((∃ o ds, x = .lst o ds) ∧ ∃ o ds, y = .lst o ds) ∨ (∃ ds, x = .tup ds) ∧ ∃ ds, y = .tup ds) ∧ ∀ H' J, Same H H' → WalkD (kx X xa) J (zipD us ws) W (uOf st W) H' → R J H' := by
      split at hy
      · exact ⟨_, _, rfl, rfl, .inr ⟨⟨_, rfl⟩, _, rfl⟩, hy⟩
      · simp only [aft_bind] at hy
        obtain ⟨us, hu, g1⟩ := aft_lift hy
        obtain ⟨ws, hw, g2⟩ := aft_lift g1
        exact ⟨us, ws, hu, hw, .inl ⟨⟨_, _, rfl⟩, _, _, rfl⟩, g2⟩
      · exact hy.elim
    obtain ⟨us, ws, hu, hw, hk, g⟩ := key
    obtain ⟨p, vs, rfl, r, qx⟩ := E.stay hx' ex n.1 hu
    obtain ⟨q, ts, rfl, r', qy⟩ := E.stay hy' ey n.2 hw
    have ylds : ∀ {i : Nat} {H3 x H' d} (T : Addr) (y y' : V), vs[i]? = some y → ts[i]? = some y' → (zipD us ws)[i]? = some d → Kp (uOf st W) H2 H3 → x = V.ref T → H3 T = none → H' = upd H3 T (.tup [y, y']) → Same H3 H' ∧ ∀ W', Wok H3 W' → (∀ a, W' a → W a ∨ H2 a = none) → F (kx X xa) H' W' d x := by
      intro i H3 x H' d T y y' hy hy' hd2 k ex nT eH
      subst ex eH
      obtain ⟨z, z', hz, hz', rfl⟩ := zip_get hd2
      have s3 : Same H3 (upd H3 T (.tup [y, y'])) := same_upd nT
      exact ⟨s3, fun W' w' k' => pair_F (w'.same s3) nT (r.item uOf_W k s3 hy hz k') (r'.item uOf_W k s3 hy' hz' k')⟩
    have ln : (zipD us ws).length = min vs.length ts.length := by rw [zip_len, r.length, r'.length]
    refine ⟨p, q, vs, ts, rfl, ?_⟩
    rcases hk with ⟨⟨o, ds, rfl⟩, o2, ds2, rfl⟩ | ⟨⟨ds, rfl⟩, ds2, rfl⟩
    · rcases qx with ⟨_, _, _, _, qx⟩ | ⟨ec, _⟩
      · rcases qy with ⟨_, _, _, _, qy⟩ | ⟨ec, _⟩
        · refine .inl ⟨qx H2 fun _ _ q _ => q, qy H2 fun _ _ q _ => q, g H2 _ (s1.trans s2) ⟨fun i H' l k => ?_, fun H' k => ?_, fun i H3 x H' d hd k y => ?_⟩⟩
          · rw [ln] at l
            exact ⟨vs, ts, vs[i]'(by omega), ts[i]'(by omega), qx H' k, qy H' k, by simp, by simp⟩
          · refine ⟨vs, ts, qx H' k, qy H' k, ?_⟩
            rw [ln]
            omega
          · obtain ⟨T, y, y', rfl, nT, rfl, gy, gy'⟩ := y
            exact ylds T y y' (gy vs (qx H3 k)) (gy' ts (qy H3 k)) hd k rfl nT rfl
        · cases ec
      · cases ec
    · rcases qx with ⟨_, _, ec, _⟩ | ⟨_, qx⟩
      · cases ec
      · rcases qy with ⟨_, _, ec, _⟩ | ⟨_, qy⟩
        · cases ec
        · refine .inr ⟨qx H2 fun _ _ q _ => q, qy H2 fun _ _ q _ => q, g H2 _ (s1.trans s2) ⟨fun i H' l k => ?_, fun H' k => ?_, fun i H3 x H' d hd k y => ?_⟩⟩
          · rw [ln] at l
            exact ⟨vs, ts, vs[i]'(by omega), ts[i]'(by omega), qx H' k, qy H' k, by simp, by simp⟩
          · refine ⟨vs, ts, qx H' k, qy H' k, ?_⟩
            rw [ln]
            omega
          · obtain ⟨T, y, y', rfl, nT, rfl, gy, gy'⟩ := y
            exact ylds T y y' (gy vs (qx H3 k)) (gy' ts (qy H3 k)) hd k rfl nT rfl
end
end Ds

namespace Ds
open PySem PySem.Spec PyProof.Rows L2
/-! ## 9. Comprehensions -/
theorem noEr_ok {α : Type} {r : Re α} {a : α} (h : noEr r = .ok a) : r = .ok a := by
  cases r <;> first | exact h | cases h
theorem mapRe_get {α β : Type} {f : α → Re β} : ∀ {as : List α} {bs : List β}, mapRe f as = .ok bs → bs.length = as.length ∧ ∀ (i : Nat) (a : α), as[i]? = some a → ∃ b, bs[i]? = some b ∧ f a = .ok b
  | [], bs, h => by
    simp only [mapRe] at h
    cases h
    exact ⟨rfl, fun i a e => by simp at e⟩
  | a :: as, bs, h => by
    simp only [mapRe] at h
    cases q : f a with
    | st => rw [q] at h; cases h
    | er _ => rw [q] at h; cases h
    | ok b =>
      rw [q] at h
      cases q2 : mapRe f as with
      | st => rw [q2] at h; cases h
      | er _ => rw [q2] at h; cases h
      | ok bs' =>
        rw [q2] at h
        cases h
        obtain ⟨l, g⟩ := mapRe_get q2
        refine ⟨by simp [l], fun i a' e => ?_⟩
        cases i with
        | zero => simp at e; subst e; exact ⟨b, by simp, q⟩
        | succ i =>
          obtain ⟨b', e', k⟩ := g i a' (by simpa using e)
          exact ⟨b', by simpa using e', k⟩
theorem mapRe_er {α β : Type} {f : α → Re β} {e : Ec} (n : ∀ a, f a ≠ .er e) : ∀ {as : List α}, mapRe f as ≠ .er e
  | [], h => by simp only [mapRe] at h; cases h
  | a :: as, h => by
    simp only [mapRe] at h
    cases q : f a with
    | st => rw [q] at h; cases h
    | er e' =>
      rw [q] at h
      have h : (Re.er e' : Re _) = .er e := h
      cases h
      exact n a q
    | ok b =>
      rw [q] at h
      cases q2 : mapRe f as with
      | st => rw [q2] at h; cases h
      | er e' =>
        rw [q2] at h
        have h : (Re.er e' : Re _) = .er e := h
        cases h
        exact mapRe_er n q2
      | ok bs' => rw [q2] at h; cases h
theorem turn_er {m : Rho → Re (List D)} {t : Rho → Re Bool} {g : G} {ρ : Rho} {d : D} {e : Ec} : compTurn m t g ρ d ≠ .er e := by
  intro h
  have noE : ∀ {α : Type} {r : Re α}, noEr r ≠ .er e := by
    intro α r h
    cases r <;> cases h
  unfold compTurn at h
  cases q : setG g d ρ with
  | none => rw [q] at h; cases h
  | some ρ' =>
    rw [q] at h
    simp only [lift_some, bind_ok] at h
    cases q2 : noEr (t ρ') with
    | st => rw [q2] at h; cases h
    | er e' =>
      rw [q2] at h
      have h : (Re.er e' : Re _) = .er e := h
      cases h
      exact noE q2
    | ok k =>
      rw [q2] at h
      cases k with
      | false => cases h
      | true => exact noE h
theorem turn_out {m : Rho → Re (List D)} {t : Rho → Re Bool} {g : G} {ρ : Rho} {d : D} {xs : List D} (h : compTurn m t g ρ d = .ok xs) :
    ∃ ρ' k, setG g d ρ = some ρ' ∧ t ρ' = .ok k ∧ (k = true → m ρ' = .ok xs) ∧ (k = false → xs = []) := by
  unfold compTurn at h
  cases q : setG g d ρ with
  | none => rw [q] at h; cases h
  | some ρ' =>
    rw [q] at h
    simp only [lift_some, bind_ok] at h
    cases q2 : noEr (t ρ') with
    | st => rw [q2] at h; cases h
    | er e' => rw [q2] at h; cases h
    | ok k =>
      rw [q2] at h
      refine ⟨ρ', k, rfl, noEr_ok q2, fun e => ?_, fun e => ?_⟩
      · subst e; exact noEr_ok h
      · subst e; cases h; rfl
theorem wipe_get (σ : L2.St) (j : Nat) : ∀ vs : List Nat, j < σ.length → (wipe σ vs)[j]? = if j ∈ vs then some none else σ[j]?
  | [], _ => by simp [wipe]
  | v :: vs, l => by
    have ih := wipe_get σ j vs l
    have ln : (wipe σ vs).length = σ.length := wipe_length σ vs
    show ((wipe σ vs).set v none)[j]? = _
    by_cases e : v = j
    · subst e
      rw [List.getElem?_set_self (by rw [ln]; exact l)]
      simp
    · rw [List.getElem?_set_ne e, ih]
      have : (j ∈ v :: vs) = (j ∈ vs) := by
        simp only [List.mem_cons, eq_iff_iff]
        exact ⟨fun h => h.elim (fun q => absurd q.symm e) id, .inr⟩
      simp only [this]
theorem wipe_off {σ σ' : L2.St} {vs ns : List Nat} (h : Off ns (wipe σ vs) σ') (sub : ∀ j ∈ ns, j ∈ vs) : wipe σ' vs = wipe σ vs := by
  have l : σ'.length = σ.length := h.1.trans (wipe_length σ vs)
  refine List.ext_getElem? fun j => ?_
  by_cases q : j < σ.length
  · rw [wipe_get σ' j vs (by rw [l]; exact q), wipe_get σ j vs q]
    split
    · rfl
    · rename_i n
      rw [h.2 j fun m => n (sub j m), wipe_get σ j vs q, if_neg n]
  · rw [List.getElem?_eq_none (by rw [wipe_length, l]; exact Nat.le_of_not_lt q), List.getElem?_eq_none (by rw [wipe_length]; exact Nat.le_of_not_lt q)]
theorem set_none {K : Kx} {H : Hp} {W : Addr → Prop} {ρ : Rho} {σ : L2.St} {as : List Addr} (i : Nat) (e : Sl K H W ρ σ as) : ∃ as', Sl K H W (ρ.set i none) (σ.set i none) as' ∧ (∀ a ∈ as', a ∈ as) ∧ (as.Nodup → as'.Nodup) := by
  have gen : ∀ {ρ : Rho} {σ : L2.St} {as : List Addr} (i : Nat), Sl K H W ρ σ as → ∃ as', Sl K H W (ρ.set i none) (σ.set i none) as' ∧ as'.Sublist as := by
    intro ρ σ as i e
    induction e generalizing i with
    | nil => exact ⟨[], .nil, List.Sublist.refl _⟩
    | em t ih =>
      cases i with
      | zero => exact ⟨_, .em t, List.Sublist.refl _⟩
      | succ i =>
        obtain ⟨as', e', s⟩ := ih i
        exact ⟨as', .em e', s⟩
    | fu h t ih =>
      cases i with
      | zero => exact ⟨_, .em t, List.sublist_append_right _ _⟩
      | succ i =>
        obtain ⟨as', e', s⟩ := ih i
        exact ⟨_, .fu h e', (List.Sublist.refl _).append s⟩
  obtain ⟨as', e', s⟩ := gen i e
  exact ⟨as', e', fun a m => s.subset m, fun n => s.nodup n⟩
theorem wipe_sl {K : Kx} {H : Hp} {W : Addr → Prop} {ρ : Rho} {σ : L2.St} {as : List Addr} (e : Sl K H W ρ σ as) : ∀ vs : List Nat, ∃ as', Sl K H W (wipeR ρ vs) (wipe σ vs) as' ∧ ∀ a ∈ as', a ∈ as
  | [] => ⟨as, e, fun _ m => m⟩
  | v :: vs => by
    obtain ⟨as', e', s⟩ := wipe_sl e vs
    obtain ⟨as2, e2, s2, _⟩ := set_none v e'
    exact ⟨as2, e2, fun a m => s a (s2 a m)⟩
theorem Sl.there {K : Kx} {H : Hp} {W : Addr → Prop} : ∀ {ρ : Rho} {σ : L2.St} {as : List Addr}, Sl K H W ρ σ as → ∀ a ∈ as, ∃ o, H a = some o ∧ Wr o
  | _, _, _, .nil, a, m => by cases m
  | _, _, _, .em t, a, m => Sl.there t a m
  | _, _, _, .fu h t, a, m => by
    rcases List.mem_append.mp m with m | m
    · exact h.there a m
    · exact Sl.there t a m
/-- the list that is made, at p; H1: the heap ahead of it -/
structure Mk2 (K : Kx) (W : Addr → Prop) (H1 : Hp) (p : Addr) (H : Hp) (da : List D) (acc : List V) (bs : List Addr) : Prop where
  at_ : H p = some (.lst acc)
  os : Os K H (plus W (p :: bs)) da acc bs
  nd : (p :: bs).Nodup
  fr : Fresh H1 (p :: bs)
  sm : Same H1 H
section
variable {K : Kx} {W : Addr → Prop} {H1 H H' : Hp} {p : Addr} {da : List D} {acc : List V} {bs : List Addr}
theorem Mk2.start (n : H1 p = none) : Mk2 K W H1 p (upd H1 p (.lst [])) [] [] [] where
  at_ := upd_same
  os := .nil
  nd := by simp
  fr := fun b m => by rw [List.mem_singleton.mp m]; exact n
  sm := same_upd n
theorem Mk2.same (m : Mk2 K W H1 p H da acc bs) (s : Same H H') : Mk2 K W H1 p H' da acc bs where
  at_ := s _ _ m.at_
  os := m.os.keep (fun a o e _ => s a o e) (fun a q => .inl q) fun a _ o e => s a o e
  nd := m.nd
  fr := m.fr
  sm := m.sm.trans s
theorem Os.append {W : Addr → Prop} : ∀ {ds es : List D} {vs us : List V} {as bs : List Addr}, Os K H W ds vs as → Os K H W es us bs → Os K H W (ds ++ es) (vs ++ us) (as ++ bs)
  | _, _, _, _, _, _, .nil, s => s
  | _, _, _, _, _, _, .cons h t, s => by
    rw [List.append_assoc]
    exact .cons h (Os.append t s)
theorem Mk2.wok (w : Wok H1 W) (m : Mk2 K W H1 p H da acc bs) : Wok H (plus W (p :: bs)) :=
  (w.same m.sm).plus fun b q => by
    rcases List.mem_cons.mp q with q | q
    · rw [q]; exact ⟨_, m.at_, trivial⟩
    · exact m.os.there b q
theorem Mk2.push {d : D} {y : V} {cs : List Addr} (w : Wok H1 W) (m : Mk2 K W H1 p H da acc bs) (s : Same H H') (e : O K H' (plus (plus W (p :: bs)) cs) d y cs) (n : cs.Nodup) (f : Fresh H cs) :
    Mk2 K W H1 p (upd H' p (.lst (acc ++ [y]))) (da ++ [d]) (acc ++ [y]) (bs ++ cs) := by
  have f' := fresh_no (m.wok w) f
  have np : ∀ a ∈ bs ++ cs, a ≠ p := fun a h q => by
    subst q
    rcases List.mem_append.mp h with h | h
    · exact (List.nodup_cons.mp m.nd).1 h
    · exact f' a h (.inr List.mem_cons_self)
  have kp : ∀ a o, H a = some o → a ≠ p → upd H' p (.lst (acc ++ [y])) a = some o := fun a o e n => by rw [upd_ne n]; exact s a o e
  refine ⟨upd_same, ?_, ?_, fun b h => ?_, fun b u e => ?_⟩
  · refine Os.append ?_ ?_
    · refine m.os.keep (fun a o e n => kp a o e fun q => n (by rw [q]; exact .inr List.mem_cons_self)) (fun a q => ?_) fun a h o e => kp a o e (np a (List.mem_append_left _ h))
      rcases q with q | q
      · exact .inl (.inl q)
      · rcases List.mem_cons.mp q with q | q
        · exact .inl (.inr (by rw [q]; exact List.mem_cons_self))
        · rcases List.mem_append.mp q with q | q
          · exact .inl (.inr (List.mem_cons_of_mem _ q))
          · exact .inr (f a q)
    · have e' : O K (upd H' p (.lst (acc ++ [y]))) (plus W (p :: (bs ++ cs))) d y cs := e.keep (fun a o e n => by rw [upd_ne fun q => n (by rw [q]; exact .inl (.inr List.mem_cons_self))]; exact e) (fun a q => by
        rcases q with q | q
        · exact .inl (.inl (.inl q))
        · rcases List.mem_cons.mp q with q | q
          · exact .inl (.inl (.inr (by rw [q]; exact List.mem_cons_self)))
          · rcases List.mem_append.mp q with q | q
            · exact .inl (.inl (.inr (List.mem_cons_of_mem _ q)))
            · exact .inl (.inr q)) fun a h o e => by rw [upd_ne (np a (List.mem_append_right _ h))]; exact e
      have := Os.cons e' .nil
      rw [List.append_nil] at this
      exact this
  · refine List.nodup_cons.mpr ⟨fun h => np p h rfl, List.nodup_append.mpr ⟨(List.nodup_cons.mp m.nd).2, n, fun a h b h' q => ?_⟩⟩
    subst q
    exact f' a h' (.inr (List.mem_cons_of_mem _ h))
  · rcases List.mem_cons.mp h with h | h
    · exact m.fr b (by rw [h]; exact List.mem_cons_self)
    · rcases List.mem_append.mp h with h | h
      · exact m.fr b (List.mem_cons_of_mem _ h)
      · exact m.sm.free (f b h)
  · have nb : b ≠ p := fun q => by
      have := m.fr p List.mem_cons_self
      rw [q, this] at e
      cases e
    rw [upd_ne nb]
    exact s b u (m.sm b u e)
end
/-- a loop over what is walked -/
theorem comp_loop {K : Kx} {J : It} {ds : List D} {W U : Addr → Prop} {H1 H0 : Hp} {Qd : Hp → Prop} {body : V → Hp → (Hp → Prop) → Prop} (wk : WalkD K J ds W U H1) (Pv : Nat → Hp → Prop) (hS : ∀ i H, Pv i H → Kp U H1 H) (h0 : Pv 0 H0)
    (turn : ∀ i d x H H', ds[i]? = some d → Pv i H → Same H H' → (∀ W', Wok H W' → (∀ a, W' a → W a ∨ H1 a = none) → F K H' W' d x) → body x H' (Pv (i + 1))) (fin : ∀ H, Pv ds.length H → Qd H) :
    ∃ Wm : Nat → Nat → Hp → Prop, (∃ m, Wm 0 m H0) ∧ ∀ i m H, Wm i m H → (J.stop i H ∧ Qd H) ∨ (J.go i H ∧ ∃ Nx : Hp → Prop, (∀ H', Nx H' → ∃ m', m' < m ∧ Wm (i + 1) m' H') ∧ ∀ x H', J.yld i H x H' → body x H' Nx) := by
  refine ⟨fun i m H => m = ds.length - i ∧ i ≤ ds.length ∧ Pv i H, ⟨_, rfl, Nat.zero_le _, h0⟩, fun i m H ⟨em, l, hp⟩ => ?_⟩
  subst em
  by_cases q : i = ds.length
  · subst q
    exact .inl ⟨wk.stops H (hS _ _ hp), fin H hp⟩
  · have lt : i < ds.length := by omega
    refine .inr ⟨wk.goes i H lt (hS _ _ hp), Pv (i + 1), fun H' h' => ⟨_, ?_, rfl, lt, h'⟩, fun x H' y => ?_⟩
    · omega
    · obtain ⟨d, hd⟩ : ∃ d, ds[i]? = some d := ⟨ds[i], by simp [lt]⟩
      obtain ⟨s, f⟩ := wk.yields i H x H' d hd (hS _ _ hp) y
      exact turn i d x H H' hd hp s f
/-! ### one clause, two clauses -/
abbrev Wf : WX := fun _ _ _ _ => False
section
variable {X : Cx} {xa : Xa} {ea : Ec → Addr} {c : Cn} {Wx : WX} {pos : Pos}
theorem pts_no : PTs X [] (tT (lx X xa ea c) Wx (.bl true)) := ⟨fun pins s σ H Q I ⟨ρ, as, W, e, w, h⟩ => pts_nil.run pins s σ H Q I (by simp only [evT, ev, bind_ok] at h; exact h H (Same.refl H))⟩
theorem pts_if {t : Expr} {st : S} (h : PT X t (tT (lx X xa ea c) Wx st)) : PTs X [t] (tT (lx X xa ea c) Wx st) := pts_one h
/-- an element is put behind the others -/
theorem elem_ok {W : Addr → Prop} {H1 H3 : Hp} {p : Addr} {da : List D} {acc : List V} {bs : List Addr} {ρ2 : Rho} {σ2 : L2.St} {as2 : List Addr} {se : S} {xs : List D} {N : Hp → Prop} (w : Wok H1 W) (m : Mk2 (kx X xa) W H1 p H3 da acc bs)
    (e : Sl (kx X xa) H3 (plus W (p :: bs)) ρ2 σ2 as2) (he : (ev c se ρ2 >>= fun d => compOut d >>= fun d => Re.ok [d]) = .ok xs) (lim : da.length < sizeLine)
    (k : ∀ H' d y cs, xs = [d] → Mk2 (kx X xa) W H1 p H' (da ++ [d]) (acc ++ [y]) (bs ++ cs) → (∀ a o, H3 a = some o → a ≠ p → H' a = some o) → Fresh H3 cs → N H') :
    tE (lx X xa ea c) Wf se σ2 H3 fun y H4 => ∃ acc, H4 p = some (.lst acc) ∧ acc.length < sizeLine ∧ N (upd H4 p (.lst (acc ++ [y]))) := by
  refine tE_go e (m.wok w) ?_
  cases q : ev c se ρ2 with
  | st => rw [q] at he; cases he
  | er _ => rw [q] at he; cases he
  | ok d =>
    rw [q] at he
    simp only [bind_ok] at he
    intro H4 y cs s4 e4 f4 n4 _ _
    unfold compOut at he
    split at he
    · cases he
    · rename_i nb
      cases he
      have o4 := O.ofE e4 (by simpa using nb)
      exact ⟨acc, s4 _ _ m.at_, by rw [← m.os.length]; exact lim, k _ d y cs rfl (m.push w s4 o4 n4 f4) (fun a o e n => by rw [upd_ne n]; exact s4 a o e) f4⟩
theorem lst_res {W : Addr → Prop} {H H1 H2 : Hp} {Q : VK} {p : Addr} {da : List D} {acc : List V} {bs : List Addr} (s1 : Same H H1) (m : Mk2 (kx X xa) W H1 p H2 da acc bs) (z : da.length ≤ sizeLine) (h : OkE (lx X xa ea c) H W Q (.lst .ow da)) : Q (.ref p) H2 :=
  h H2 _ (p :: bs) (s1.trans m.sm) (.o (.ow m.at_ (by rw [← m.os.length]; exact z) m.os)) (m.fr.same s1) m.nd
theorem take_flat {xss : List (List D)} {i : Nat} {xs : List D} (h : xss[i]? = some xs) : (xss.take (i + 1)).flatten = (xss.take i).flatten ++ xs := by
  rw [List.take_add_one, h]
  simp
theorem flat_le {xss : List (List D)} (h : ∀ xs ∈ xss, xs.length ≤ 1) : xss.flatten.length ≤ xss.length := by
  induction xss with
  | nil => simp
  | cons x xs ih =>
    simp only [List.flatten_cons, List.length_append, List.length_cons]
    have := h x List.mem_cons_self
    have := ih fun y m => h y (List.mem_cons_of_mem _ m)
    omega
theorem take_le (xss : List (List D)) (i : Nat) : (xss.take i).flatten.length ≤ xss.flatten.length := by
  have : (xss.take i ++ xss.drop i).flatten.length = xss.flatten.length := by rw [List.take_append_drop]
  rw [List.flatten_append, List.length_append] at this
  omega
theorem elem_len {ρ' : Rho} {se : S} {xs : List D} (h1 : (ev c se ρ' >>= fun d => compOut d >>= fun d => Re.ok [d]) = .ok xs) : xs.length = 1 := by
  cases q1 : ev c se ρ' with
  | st => rw [q1] at h1; cases h1
  | er _ => rw [q1] at h1; cases h1
  | ok d =>
    rw [q1] at h1
    simp only [bind_ok, compOut] at h1
    split at h1
    · cases h1
    · cases h1; rfl
/-- what a comprehension's turns are to do -/
def lcIn (g : TG) (tt : TT) (te : TE) (vs : List Nat) (σ : L2.St) (Q : VK) (J : It) (H1 : Hp) : Prop := ∀ D, H1 D = none → ∃ W : Nat → Nat → Hp → Prop, (∃ m, W 0 m (upd H1 D (.lst []))) ∧ ∀ i m H, W i m H →
  (J.stop i H ∧ Q (.ref D) H) ∨ (J.go i H ∧ ∃ Nx : Hp → Prop, (∀ H', Nx H' → ∃ m', m' < m ∧ W (i + 1) m' H') ∧ ∀ x H', J.yld i H x H' → g x (wipe σ vs) H' fun σ2 H2 => wipe σ2 vs = wipe σ vs ∧ tt σ2 H2 fun b H3 =>
    if b = true then te σ2 H3 fun y H4 => ∃ acc, H4 D = some (.lst acc) ∧ acc.length < sizeLine ∧ Nx (upd H4 D (.lst (acc ++ [y]))) else Nx H3)
theorem comp_tlA {vs : List Nat} {g : G} {se : S} {tc : S} {r : Re (List D)} {σ : L2.St} {H : Hp} {Q : VK} {ρ : Rho} {as : List Addr} {W : Addr → Prop} (hgn : ∀ j ∈ gnames g, j ∈ vs) (e : Sl (kx X xa) H W ρ σ as) (w : Wok H W)
    (h : Aft r (fun ds => Aft (mapRe (compTurn (fun ρ' => ev c se ρ' >>= fun d => compOut d >>= fun d => Re.ok [d]) (fun ρ' => ev c tc ρ' >>= asB) g (wipeR ρ vs)) ds) (fun xss => Aft (ok? (decide (ds.length ≤ sizeLine)) (.lst .ow xss.flatten)) (OkE (lx X xa ea c) H W Q) (ErE (lx X xa ea c) Wx σ H)) (ErE (lx X xa ea c) Wx σ H)) (ErE (lx X xa ea c) Wx σ H)) :
    Aft r (fun ds => ∀ H' J, Same H H' → WalkD (kx X xa) J ds W (uOf false W) H' → lcIn (tG (kx X xa) g) (tT (lx X xa ea c) Wf tc) (tE (lx X xa ea c) Wf se) vs σ Q J H') (ErE (lx X xa ea c) Wx σ H) := by
  refine h.imp (fun ds hd => ?_) fun _ q => q
  intro H1 J s1 wk p np
  have w1 := w.same s1
  cases q : mapRe (compTurn (fun ρ' => ev c se ρ' >>= fun d => compOut d >>= fun d => Re.ok [d]) (fun ρ' => ev c tc ρ' >>= asB) g (wipeR ρ vs)) ds with
  | st => rw [q] at hd; exact hd.elim
  | er er => exact absurd q (mapRe_er fun a => turn_er)
  | ok xss =>
    rw [q] at hd
    obtain ⟨z, hd⟩ := aft_ok? hd
    have hd : OkE (lx X xa ea c) H W Q (.lst .ow xss.flatten) := hd
    have z := of_decide_eq_true z
    obtain ⟨lx', gx⟩ := mapRe_get q
    have le1 : ∀ xs ∈ xss, xs.length ≤ 1 := fun xs m => by
      obtain ⟨i, hi⟩ := List.mem_iff_getElem?.mp m
      have li : i < xss.length := (List.getElem?_eq_some_iff.mp hi).1
      obtain ⟨xs', h1, h2⟩ := gx i ds[i] (by simp [← lx', li])
      rw [hi] at h1
      cases h1
      obtain ⟨ρ', k, _, _, h3, h4⟩ := turn_out h2
      cases k with
      | false => rw [h4 rfl]; exact Nat.zero_le _
      | true =>
        have h3 := h3 rfl
        cases q1 : ev c se ρ' with
        | st => rw [q1] at h3; cases h3
        | er _ => rw [q1] at h3; cases h3
        | ok d =>
          rw [q1] at h3
          simp only [bind_ok, compOut] at h3
          split at h3
          · cases h3
          · cases h3; exact Nat.le_refl _
    have zt : xss.flatten.length ≤ sizeLine := Nat.le_trans (flat_le le1) (by rw [lx']; exact z)
    refine comp_loop wk (fun i H => ∃ acc bs, Mk2 (kx X xa) W H1 p H (xss.take i).flatten acc bs) (fun i H ⟨_, _, m⟩ a o e _ => m.sm a o e) ⟨[], [], Mk2.start np⟩ (body := fun x H' Nx => tG (kx X xa) g x (wipe σ vs) H' fun σ2 H2 => wipe σ2 vs = wipe σ vs ∧ tT (lx X xa ea c) Wf tc σ2 H2 fun b H3 =>
      if b = true then tE (lx X xa ea c) Wf se σ2 H3 fun y H4 => ∃ acc, H4 p = some (.lst acc) ∧ acc.length < sizeLine ∧ Nx (upd H4 p (.lst (acc ++ [y]))) else Nx H3) ?_ ?_
    · rintro i d x H2 H3 hdi ⟨acc, bs, m⟩ s3 fx
      obtain ⟨xs, hxs, hturn⟩ := gx i d hdi
      obtain ⟨ρ2, k, hset, htst, hk1, hk0⟩ := turn_out hturn
      have m3 := m.same s3
      have W3 := m.wok w1
      have e2 : Sl (kx X xa) H3 (plus W (p :: bs)) ρ σ as := (e.same (s1.trans m.sm) fun a q => q.elim .inl fun q => .inr (s1.free (m.fr a q))).same s3 fun _ q => .inl q
      obtain ⟨asw, ew, subw⟩ := wipe_sl e2 vs
      have fxx : F (kx X xa) H3 (plus W (p :: bs)) d x := fx _ W3 fun a q => q.elim .inl fun q => .inr (m.fr a q)
      refine ⟨d, _, asw, _, [], ρ2, ew, .fz fxx, hset, fun σ2 as2 es2 _ off => ⟨wipe_off off hgn, ?_⟩⟩
      refine tT_go es2 (m3.wok w1) ?_
      show Aft (evT c tc ρ2) _ _
      have htst : evT c tc ρ2 = .ok k := htst
      rw [htst]
      intro H4 s4 e4 w4
      have m4 := m3.same s4
      have tk := take_flat hxs
      cases k with
      | true =>
        rw [if_pos rfl]
        refine elem_ok (N := fun H => ∃ acc bs, Mk2 (kx X xa) W H1 p H (xss.take (i + 1)).flatten acc bs) w1 m4 e4 (hk1 rfl) ?_ fun H' d' y cs ex mm _ _ => ?_
        · have h1 := hk1 rfl
          have : xs.length = 1 := by
            cases q1 : ev c se ρ2 with
            | st => rw [q1] at h1; cases h1
            | er _ => rw [q1] at h1; cases h1
            | ok d =>
              rw [q1] at h1
              simp only [bind_ok, compOut] at h1
              split at h1
              · cases h1
              · cases h1; rfl
          have := take_le xss (i + 1)
          rw [tk, List.length_append] at this
          omega
        · subst ex
          exact ⟨_, _, by rw [tk]; exact mm⟩
      | false =>
        rw [if_neg (by decide)]
        have ex := hk0 rfl
        subst ex
        exact ⟨_, _, by rw [tk, List.append_nil]; exact m4⟩
    · rintro H2 ⟨acc, bs, m⟩
      rw [← lx', List.take_length] at m
      exact lst_res s1 m zt hd
theorem comp_tl {vs : List Nat} {g : G} {it se : S} {tc : S} (hgn : ∀ j ∈ gnames g, j ∈ vs) : ∀ σ H Q, tE (lx X xa ea c) Wx (.comp vs g it tc se) σ H Q → tLc (tI (lx X xa ea c) Wx false it) (tG (kx X xa) g) (tT (lx X xa ea c) Wf tc) (tE (lx X xa ea c) Wf se) vs σ H Q := by
  intro σ H Q ⟨ρ, as, W, e, w, h⟩
  simp only [ev, aft_bind] at h
  exact ⟨ρ, as, W, e, w, comp_tlA hgn e w h⟩
/-- a list that is walked -/
def tIL (L : Lx) (Wx : WX) (s : S) : TI := fun σ H R => ∃ ρ as W, Sl L.K H W ρ σ as ∧ Wok H W ∧
  Aft (ev L.c s ρ) (fun x => isLst x = true ∧ Aft (lift (strLit x)) (fun ds => ∀ H' J, Same H H' → WalkD L.K J ds W (uOf false W) H' → R J H') (ErE L Wx σ H)) (ErE L Wx σ H)
theorem i_listQ {sa : S} {a tg : Expr} (ha : PE X a (tE (lx X xa ea c) Wx sa)) : PIQ X tg a (tIL (lx X xa ea c) Wx sa) := by
  refine ⟨fun pins s σ H R I h => (pi_listQ ha).run pins s σ H R I ?_⟩
  obtain ⟨ρ, as, W, e, w, h⟩ := h
  refine tE_go e w (h.imp (fun x hx H1 v1 b1 s1 e1 f1 n1 l1 w1 => ?_) fun _ q => q)
  obtain ⟨il, hx⟩ := hx
  obtain ⟨ds, hd, g⟩ := aft_lift hx
  cases x with
  | lst o es =>
    obtain ⟨p, vs, rfl, r, hk⟩ := E.stay (st := false) (fresh_no w f1) e1 rfl (show seqOf (.lst o es) = some ds from hd)
    rcases hk with ⟨o', ds', e', hl, hk⟩ | ⟨e', _⟩
    · exact ⟨p, rfl, ⟨vs, hk H1 fun _ _ q _ => q⟩, g H1 _ s1 (walk_l r hk)⟩
    · cases e'
  | _ => cases il
/-- a comprehension over a list where an exception is handled -/
theorem r_comph {elt tg iter : Expr} {ifs : List Expr} {scope : Scope} {own : List (Str × Nat)} {g : G} {sa se : S} {tc : S} (hc : L2H.HotC X) (hst : ∀ {b : Addr}, b ∈ frs X.stack → b ≠ X.env.locals → b ∉ X.fs → False) (hN : X.N.Nodup) (ha : PE X iter (tE (lx X xa ea c) Wx sa)) (ok : BlkOk X.N X.env.scope scope own)
    (hg : ∀ (s : Shared) (H : Hp) (C : Addr) (cl : List (Str × Addr)) (fp : List Addr), PG (X.blk s H scope (compEnvC scope cl C X.env) fp) tg (tG (kx X xa) g)) (hgn : ∀ j ∈ gnames g, j ∈ own.map (·.2))
    (ht : ∀ (s : Shared) (H : Hp) (C : Addr) (cl : List (Str × Addr)) (fp : List Addr), PTs (X.blk s H scope (compEnvC scope cl C X.env) fp) ifs (tT (lx X xa ea c) Wf tc))
    (he : ∀ (s : Shared) (H : Hp) (C : Addr) (cl : List (Str × Addr)) (fp : List Addr), PE (X.blk s H scope (compEnvC scope cl C X.env) fp) elt (tE (lx X xa ea c) Wf se)) (hs : ∀ x, foldedSetIterable iter X.env x = pure x) :
    PE X (.ListComp elt [⟨tg, iter, ifs, 0⟩] scope pos) (tE (lx X xa ea c) Wx (.comph (own.map (·.2)) g sa tc se)) := by
  refine pe_imp (pe_lcQ hc hst hN (i_listQ ha) ok hg ht he hs) fun σ H Q ⟨ρ, as, W, e, w, h⟩ => ?_
  simp only [ev, aft_bind] at h
  refine ⟨ρ, as, W, e, w, h.imp (fun x hx => ?_) fun _ q => q⟩
  split at hx
  · rename_i il
    rw [if_neg (show ¬ (isW false x = true) by simp [isW])] at hx
    simp only [aft_bind] at hx
    exact ⟨il, comp_tlA hgn e w hx⟩
  · exact hx.elim
theorem r_comp {elt tg iter : Expr} {ifs : List Expr} {scope : Scope} {own : List (Str × Nat)} {g : G} {it se : S} {tc : S} (hc : X.calm = true) (hN : X.N.Nodup) (hi : PI X tg iter (tI (lx X xa ea c) Wx false it)) (ok : BlkOk X.N X.env.scope scope own)
    (hg : ∀ (s : Shared) (H : Hp) (C : Addr) (cl : List (Str × Addr)) (fp : List Addr), PG (X.blk s H scope (compEnvC scope cl C X.env) fp) tg (tG (kx X xa) g)) (hgn : ∀ j ∈ gnames g, j ∈ own.map (·.2))
    (ht : ∀ (s : Shared) (H : Hp) (C : Addr) (cl : List (Str × Addr)) (fp : List Addr), PTs (X.blk s H scope (compEnvC scope cl C X.env) fp) ifs (tT (lx X xa ea c) Wf tc))
    (he : ∀ (s : Shared) (H : Hp) (C : Addr) (cl : List (Str × Addr)) (fp : List Addr), PE (X.blk s H scope (compEnvC scope cl C X.env) fp) elt (tE (lx X xa ea c) Wf se)) (hs : ∀ x, foldedSetIterable iter X.env x = pure x) :
    PE X (.ListComp elt [⟨tg, iter, ifs, 0⟩] scope pos) (tE (lx X xa ea c) Wx (.comp (own.map (·.2)) g it tc se)) := by
  exact pe_imp (pe_lc hc hN hi ok hg ht he hs) (comp_tl hgn)
theorem comp2_tl {vs vs1 : List Nat} {g g1 : G} {it it1 se : S} {tc tc1 : S} (hv : ∀ i ∈ vs1, i ∈ vs) (hgn : ∀ j ∈ gnames g, j ∈ vs) (hgn1 : ∀ j ∈ gnames g1, j ∈ vs1) : ∀ σ H Q, tE (lx X xa ea c) Wx (.comp2 vs vs1 g it tc g1 it1 tc1 se) σ H Q →
    tLc2 (tI (lx X xa ea c) Wx false it) (tG (kx X xa) g) (tT (lx X xa ea c) Wf tc) (tI (lx X xa ea c) Wf true it1) (tG (kx X xa) g1) (tT (lx X xa ea c) Wf tc1) (tE (lx X xa ea c) Wf se) vs vs1 σ H Q := by
  intro σ H Q ⟨ρ, as, W, e, w, h⟩
  simp only [ev, aft_bind] at h
  refine ⟨ρ, as, W, e, w, h.imp (fun ds hd => ?_) fun _ q => q⟩
  intro H1 J s1 wk p np
  have w1 := w.same s1
  cases q : mapRe (compTurn (fun ρ' => evI c true it1 ρ' >>= fun es => mapRe (compTurn (fun ρ2 => ev c se ρ2 >>= fun d => compOut d >>= fun d => Re.ok [d]) (fun ρ2 => ev c tc1 ρ2 >>= asB) g1 (wipeR ρ' vs1)) es >>= fun xss => Re.ok xss.flatten)
      (fun ρ' => ev c tc ρ' >>= asB) g (wipeR ρ vs)) ds with
  | st => rw [q] at hd; exact hd.elim
  | er er => exact absurd q (mapRe_er fun a => turn_er)
  | ok xss =>
    rw [q] at hd
    obtain ⟨z, hd⟩ := aft_ok? hd
    have hd : OkE (lx X xa ea c) H W Q (.lst .ow xss.flatten) := hd
    have z := of_decide_eq_true z
    obtain ⟨lx', gx⟩ := mapRe_get q
    refine comp_loop wk (fun i H => ∃ acc bs, Mk2 (kx X xa) W H1 p H (xss.take i).flatten acc bs) (fun i H ⟨_, _, m⟩ a o e _ => m.sm a o e) ⟨[], [], Mk2.start np⟩ (body := fun x H' Nx => tG (kx X xa) g x (wipe σ vs) H' fun σ2 H2 => wipe σ2 vs = wipe σ vs ∧ tT (lx X xa ea c) Wf tc σ2 H2 fun b H3 =>
      if b = true then tI (lx X xa ea c) Wf true it1 σ2 H3 fun J1 H4 => ∃ W1 : Nat → Nat → Hp → Prop, (∃ m, W1 0 m H4) ∧ ∀ j k H, W1 j k H →
      (J1.stop j H ∧ Nx H) ∨ (J1.go j H ∧ ∃ Nx1 : Hp → Prop, (∀ H', Nx1 H' → ∃ k', k' < k ∧ W1 (j + 1) k' H') ∧ ∀ x H', J1.yld j H x H' → tG (kx X xa) g1 x (wipe σ2 vs1) H' fun σ3 H5 => wipe σ3 vs1 = wipe σ2 vs1 ∧ tT (lx X xa ea c) Wf tc1 σ3 H5 fun b H6 =>
        if b = true then tE (lx X xa ea c) Wf se σ3 H6 fun y H7 => ∃ acc, H7 p = some (.lst acc) ∧ acc.length < sizeLine ∧ Nx1 (upd H7 p (.lst (acc ++ [y]))) else Nx1 H6)
      else Nx H3) ?_ ?_
    · rintro i d x H2 H3 hdi ⟨acc, bs, m⟩ s3 fx
      obtain ⟨xs, hxs, hturn⟩ := gx i d hdi
      obtain ⟨ρ2, k, hset, htst, hk1, hk0⟩ := turn_out hturn
      have m3 := m.same s3
      have W3 := m.wok w1
      have e2 : Sl (kx X xa) H3 (plus W (p :: bs)) ρ σ as := (e.same (s1.trans m.sm) fun a q => q.elim .inl fun q => .inr (s1.free (m.fr a q))).same s3 fun _ q => .inl q
      obtain ⟨asw, ew, subw⟩ := wipe_sl e2 vs
      have fxx : F (kx X xa) H3 (plus W (p :: bs)) d x := fx _ W3 fun a q => q.elim .inl fun q => .inr (m.fr a q)
      refine ⟨d, _, asw, _, [], ρ2, ew, .fz fxx, hset, fun σ2 as2 es2 sep off => ⟨wipe_off off hgn, ?_⟩⟩
      refine tT_go es2 (m3.wok w1) ?_
      show Aft (evT c tc ρ2) _ _
      have htst : evT c tc ρ2 = .ok k := htst
      rw [htst]
      intro H4 s4 e4 w4
      have m4 := m3.same s4
      have tk := take_flat hxs
      cases k with
      | false =>
        rw [if_neg (by decide)]
        have ex := hk0 rfl
        subst ex
        exact ⟨_, _, by rw [tk, List.append_nil]; exact m4⟩
      | true =>
        rw [if_pos rfl]
        have hin := hk1 rfl
        refine ⟨ρ2, as2, _, e4, m4.wok w1, ?_⟩
        cases qi : evI c true it1 ρ2 with
        | st => rw [qi] at hin; cases hin
        | er _ => rw [qi] at hin; cases hin
        | ok es =>
          rw [qi] at hin
          simp only [bind_ok] at hin
          intro H5 J1 s5 wk1
          cases qm : mapRe (compTurn (fun ρ2 => ev c se ρ2 >>= fun d => compOut d >>= fun d => Re.ok [d]) (fun ρ2 => ev c tc1 ρ2 >>= asB) g1 (wipeR ρ2 vs1)) es with
          | st => rw [qm] at hin; cases hin
          | er _ => rw [qm] at hin; cases hin
          | ok yss =>
            rw [qm] at hin
            cases hin
            obtain ⟨ly, gy⟩ := mapRe_get qm
            have m5 := m4.same s5
            have anp : ∀ a ∈ as2, a ≠ p := fun a ha q => by
              have h1 : a ∈ as := (sep.1 a ha).elim (subw a) fun q => nomatch q
              obtain ⟨vs, h2, _⟩ := e.there a h1
              have h3 := s1 _ _ h2
              rw [q, np] at h3
              cases h3
            refine comp_loop wk1 (fun j H => ∃ acc' cs, Mk2 (kx X xa) W H1 p H ((xss.take i).flatten ++ (yss.take j).flatten) acc' cs ∧ (∀ a ∈ cs, a ∈ bs ∨ H5 a = none) ∧ ∀ a o, H5 a = some o → a ≠ p → H a = some o) (fun j H ⟨_, _, _, _, k⟩ a o e n => k a o e fun q => n ⟨rfl, by rw [q]; exact .inr List.mem_cons_self⟩)
              ⟨acc, bs, by simpa using m5, fun a h => .inl h, fun a o e _ => e⟩ (body := fun x H' Nx1 => tG (kx X xa) g1 x (wipe σ2 vs1) H' fun σ3 H5 => wipe σ3 vs1 = wipe σ2 vs1 ∧ tT (lx X xa ea c) Wf tc1 σ3 H5 fun b H6 =>
                if b = true then tE (lx X xa ea c) Wf se σ3 H6 fun y H7 => ∃ acc, H7 p = some (.lst acc) ∧ acc.length < sizeLine ∧ Nx1 (upd H7 p (.lst (acc ++ [y]))) else Nx1 H6) ?_ ?_
            · rintro j d1 x1 H6 H7 hdj ⟨acc', cs, m6, hcs, kp6⟩ s7 fx1
              obtain ⟨ys, hys, hturn1⟩ := gy j d1 hdj
              obtain ⟨ρ3, k1, hset1, htst1, hk11, hk10⟩ := turn_out hturn1
              have m7 := m6.same s7
              have e7 : Sl (kx X xa) H7 (plus W (p :: cs)) ρ2 σ2 as2 := by
                refine e4.keep (fun a o ho hn => s7 a o (kp6 a o (s5 a o ho) fun q => hn (by rw [q]; exact .inr List.mem_cons_self))) (fun a q => ?_) fun a ha o ho => s7 a o (kp6 a o (s5 a o ho) (anp a ha))
                rcases q with q | q
                · exact .inl (.inl q)
                · rcases List.mem_cons.mp q with q | q
                  · exact .inl (.inr (by rw [q]; exact List.mem_cons_self))
                  · rcases hcs a q with q | q
                    · exact .inl (.inr (List.mem_cons_of_mem _ q))
                    · exact .inr (s5.free q)
              obtain ⟨asw1, ew1, _⟩ := wipe_sl e7 vs1
              have fxx1 : F (kx X xa) H7 (plus W (p :: cs)) d1 x1 := fx1 _ (m6.wok w1) fun a q => by
                rcases q with q | q
                · exact .inl (.inl q)
                · rcases List.mem_cons.mp q with q | q
                  · exact .inl (.inr (by rw [q]; exact List.mem_cons_self))
                  · rcases hcs a q with q | q
                    · exact .inl (.inr (List.mem_cons_of_mem _ q))
                    · exact .inr q
              refine ⟨d1, _, asw1, _, [], ρ3, ew1, .fz fxx1, hset1, fun σ3 as3 es3 _ off1 => ⟨wipe_off off1 hgn1, ?_⟩⟩
              refine tT_go es3 (m7.wok w1) ?_
              show Aft (evT c tc1 ρ3) _ _
              have htst1 : evT c tc1 ρ3 = .ok k1 := htst1
              rw [htst1]
              intro H8 s8 e8 w8
              have m8 := m7.same s8
              have tk1 := take_flat hys
              have kp8 : ∀ a o, H5 a = some o → a ≠ p → H8 a = some o := fun a o h n => s8 a o (s7 a o (kp6 a o h n))
              cases k1 with
              | true =>
                rw [if_pos rfl]
                refine elem_ok (N := fun H => ∃ acc' cs, Mk2 (kx X xa) W H1 p H ((xss.take i).flatten ++ (yss.take (j + 1)).flatten) acc' cs ∧ (∀ a ∈ cs, a ∈ bs ∨ H5 a = none) ∧ ∀ a o, H5 a = some o → a ≠ p → H a = some o) w1 m8 e8 (hk11 rfl) ?_ fun H' d' y cs' ex mm kk ff => ?_
                · have l1 := elem_len (hk11 rfl)
                  have l2 := take_le yss (j + 1)
                  rw [tk1, List.length_append] at l2
                  have l3 := take_le xss (i + 1)
                  rw [tk, List.length_append] at l3
                  rw [List.length_append]
                  omega
                · subst ex
                  refine ⟨_, _, by rw [tk1, ← List.append_assoc]; exact mm, fun a h => ?_, fun a o h n => kk a o (kp8 a o h n) n⟩
                  rcases List.mem_append.mp h with h | h
                  · exact hcs a h
                  · by_cases ep : a = p
                    · rw [ep] at h
                      have := ff p h
                      rw [m8.at_] at this
                      cases this
                    · refine .inr ?_
                      cases q5 : H5 a with
                      | none => rfl
                      | some o =>
                        have := kp8 a o q5 ep
                        rw [ff a h] at this
                        cases this
              | false =>
                rw [if_neg (by decide)]
                have ex := hk10 rfl
                subst ex
                exact ⟨_, _, by rw [tk1, List.append_nil]; exact m8, hcs, kp8⟩
            · rintro H6 ⟨acc', cs, m6, _, _⟩
              rw [← ly, List.take_length] at m6
              exact ⟨_, _, by rw [tk]; exact m6⟩
    · rintro H2 ⟨acc, bs, m⟩
      rw [← lx', List.take_length] at m
      exact lst_res s1 m z hd
theorem r_comp2 {elt tg iter tg1 iter1 : Expr} {ifs ifs1 : List Expr} {scope : Scope} {own : List (Str × Nat)} {vs1 : List Nat} {g g1 : G} {it it1 se : S} {tc tc1 : S} (hc : X.calm = true) (hN : X.N.Nodup) (hi : PI X tg iter (tI (lx X xa ea c) Wx false it)) (ok : BlkOk X.N X.env.scope scope own)
    (hv : ∀ i ∈ vs1, i ∈ own.map (·.2))
    (hg : ∀ (s : Shared) (H : Hp) (C : Addr) (cl : List (Str × Addr)) (fp : List Addr), PG (X.blk s H scope (compEnvC scope cl C X.env) fp) tg (tG (kx X xa) g)) (hgn : ∀ j ∈ gnames g, j ∈ own.map (·.2))
    (ht : ∀ (s : Shared) (H : Hp) (C : Addr) (cl : List (Str × Addr)) (fp : List Addr), PTs (X.blk s H scope (compEnvC scope cl C X.env) fp) ifs (tT (lx X xa ea c) Wf tc))
    (hi1 : ∀ (s : Shared) (H : Hp) (C : Addr) (cl : List (Str × Addr)) (fp : List Addr), PI (X.blk s H scope (compEnvC scope cl C X.env) fp) tg1 iter1 (tI (lx X xa ea c) Wf true it1))
    (hg1 : ∀ (s : Shared) (H : Hp) (C : Addr) (cl : List (Str × Addr)) (fp : List Addr), PG (X.blk s H scope (compEnvC scope cl C X.env) fp) tg1 (tG (kx X xa) g1)) (hgn1 : ∀ j ∈ gnames g1, j ∈ vs1)
    (ht1 : ∀ (s : Shared) (H : Hp) (C : Addr) (cl : List (Str × Addr)) (fp : List Addr), PTs (X.blk s H scope (compEnvC scope cl C X.env) fp) ifs1 (tT (lx X xa ea c) Wf tc1))
    (he : ∀ (s : Shared) (H : Hp) (C : Addr) (cl : List (Str × Addr)) (fp : List Addr), PE (X.blk s H scope (compEnvC scope cl C X.env) fp) elt (tE (lx X xa ea c) Wf se)) (hs : ∀ x, foldedSetIterable iter X.env x = pure x)
    (hs1 : ∀ (env : PySem.Env) (x : Value), foldedSetIterable iter1 env x = pure x) :
    PE X (.ListComp elt [⟨tg, iter, ifs, 0⟩, ⟨tg1, iter1, ifs1, 0⟩] scope pos) (tE (lx X xa ea c) Wx (.comp2 (own.map (·.2)) vs1 g it tc g1 it1 tc1 se)) := by
  exact pe_imp (pe_lc2 hc hN hi ok hv hg ht hi1 hg1 ht1 he hs hs1) (comp2_tl hv hgn hgn1)
end
end Ds

namespace Ds
open PySem PySem.Spec PyProof.Rows L2
/-! ## 10. Statements -/
structure St1 (K : Kx) (Wc : Addr → Prop) (H : Hp) (ρ : Rho) (σ : L2.St) (as : List Addr) : Prop where
  sl : Sl K H (plus Wc as) ρ σ as
  nd : as.Nodup
  dj : ∀ a ∈ as, ¬ Wc a
  wk : Wok H (plus Wc as)
section
variable (K : Kx) (ea : Ec → Addr) (Wx : WX) (D : Ends) (Wc : Addr → Prop)
/-- how a statement's end is handed on -/
def AftO (H : Hp) (as : List Addr) : Out → Prop
  | .nx ρ' => ∀ σ' H' as', St1 K Wc H' ρ' σ' as' → Step H as H' as' → D.nx σ' H'
  | .bk ρ' => ∀ σ' H' as', St1 K Wc H' ρ' σ' as' → Step H as H' as' → D.bk σ' H'
  | .ct ρ' => ∀ σ' H' as', St1 K Wc H' ρ' σ' as' → Step H as H' as' → D.ct σ' H'
  | .er e ρ' => ∀ σ' H' as', St1 K Wc H' ρ' σ' as' → Step H as H' as' → Wx (.ref (ea e)) none σ' H'
  | .rt d => ∀ H' v bs, O K H' (plus Wc bs) d v bs → bs.Nodup → Step H as H' bs → D.rt v H'
  | .rk ρ' => ∀ σ' H' as', St1 K Wc H' ρ' σ' as' → Step H as H' as' → D.rt .non H'
  | .st => False
end
section
variable {K : Kx} {ea : Ec → Addr} {Wx : WX} {D : Ends} {Wc : Addr → Prop} {H H' : Hp} {as as' : List Addr}
theorem AftO.step {o : Out} (h : AftO K ea Wx D Wc H as o) (s : Step H as H' as') : AftO K ea Wx D Wc H' as' o := by
  cases o with
  | nx ρ => exact fun σ' H2 as2 e t => h σ' H2 as2 e (s.trans t)
  | bk ρ => exact fun σ' H2 as2 e t => h σ' H2 as2 e (s.trans t)
  | ct ρ => exact fun σ' H2 as2 e t => h σ' H2 as2 e (s.trans t)
  | er e ρ => exact fun σ' H2 as2 e t => h σ' H2 as2 e (s.trans t)
  | rk ρ => exact fun σ' H2 as2 e t => h σ' H2 as2 e (s.trans t)
  | rt d => exact fun H2 v bs e n t => h H2 v bs e n (s.trans t)
  | st => exact h
end
def tS (K : Kx) (ea : Ec → Addr) (Wx : WX) (f : Rho → Out) : TS := fun D σ H => ∃ ρ as Wc, St1 K Wc H ρ σ as ∧ AftO K ea Wx D Wc H as (f ρ)
section
variable {X : Cx} {xa : Xa} {ea : Ec → Addr} {c : Cn} {Wx : WX} {n : Nat} {pos : Pos} {e : Expr} {se : S}
/-- an expression within a statement -/
theorem St1.same {K : Kx} {Wc : Addr → Prop} {H H' : Hp} {ρ : Rho} {σ : L2.St} {as : List Addr} (h : St1 K Wc H ρ σ as) (s : Same H H') : St1 K Wc H' ρ σ as :=
  ⟨h.sl.same s fun _ q => .inl q, h.nd, h.dj, h.wk.same s⟩
theorem dj_new {Wc : Addr → Prop} {H : Hp} {as as' : List Addr} (w : Wok H (plus Wc as)) (dj : ∀ a ∈ as, ¬ Wc a) (h : ∀ a ∈ as', a ∈ as ∨ H a = none) : ∀ a ∈ as', ¬ Wc a := fun a m q => by
  rcases h a m with h | h
  · exact dj a h q
  · obtain ⟨vs, e, _⟩ := w a (.inl q)
    rw [h] at e
    cases e
theorem wk_new {K : Kx} {Wc : Addr → Prop} {H : Hp} {W : Addr → Prop} {ρ : Rho} {σ : L2.St} {as' : List Addr} (w : Wok H Wc) (e : Sl K H W ρ σ as') : Wok H (plus Wc as') := w.plus e.there
/-- the expression's answer, in a statement -/
theorem tS_e {σ : L2.St} {H : Hp} {De : Ends} {Q : VK} {ρ : Rho} {as : List Addr} {Wc : Addr → Prop} {f : D → Out} (h : St1 (kx X xa) Wc H ρ σ as) (a : AftO (kx X xa) ea Wx De Wc H as (Out.of (ev c se ρ) ρ f))
    (k : ∀ d H1 v bs, ev c se ρ = .ok d → Same H H1 → E (kx X xa) H1 (plus (plus Wc as) bs) d v bs → Fresh H bs → bs.Nodup → Sl (kx X xa) H1 (plus (plus Wc as) bs) ρ σ as → St1 (kx X xa) Wc H1 ρ σ as → AftO (kx X xa) ea Wx De Wc H as (f d) → Q v H1) : tE (lx X xa ea c) Wx se σ H Q := by
  refine tE_go h.sl h.wk ?_
  cases q : ev c se ρ with
  | st => rw [q] at a; exact a.elim
  | er e =>
    rw [q] at a
    exact fun H' s => a σ H' as (h.same s) (Step.same s fun a m => .inl m)
  | ok d =>
    rw [q] at a
    exact fun H1 v bs s1 e1 f1 n1 l1 w1 => k d H1 v bs q s1 e1 f1 n1 l1 (h.same s1) a
theorem tS_t {σ : L2.St} {H : Hp} {D : Ends} {Q : Bool → Hp → Prop} {ρ : Rho} {as : List Addr} {Wc : Addr → Prop} {f : Bool → Out} (h : St1 (kx X xa) Wc H ρ σ as) (a : AftO (kx X xa) ea Wx D Wc H as (Out.of (evT c se ρ) ρ f))
    (k : ∀ b H1, Same H H1 → St1 (kx X xa) Wc H1 ρ σ as → AftO (kx X xa) ea Wx D Wc H as (f b) → Q b H1) : tT (lx X xa ea c) Wx se σ H Q := by
  refine tT_go h.sl h.wk ?_
  show Aft (evT c se ρ) _ _
  cases q : evT c se ρ with
  | st => rw [q] at a; exact a.elim
  | er e =>
    rw [q] at a
    exact fun H' s => a σ H' as (h.same s) (Step.same s fun a m => .inl m)
  | ok b =>
    rw [q] at a
    exact fun H1 s1 l1 w1 => k b H1 s1 (h.same s1) a
theorem aft_lo {K : Kx} {D : Ends} {Wc : Addr → Prop} {H : Hp} {as : List Addr} {α : Type} {o : Option α} {ρ : Rho} {f : α → Out} (a : AftO K ea Wx D Wc H as (Out.of (lift o) ρ f)) : ∃ x, o = some x ∧ AftO K ea Wx D Wc H as (f x) := by
  cases o with
  | none => exact a.elim
  | some x => exact ⟨x, rfl, a⟩

/-! ### blocks, small statements -/
theorem s_nil : PSs X [] (tS (kx X xa) ea Wx (exs c n [])) := by
  refine pss_imp pss_nil fun D σ H ⟨ρ, as, Wc, h, a⟩ => ?_
  simp only [exs] at a
  exact a σ H as h (Step.refl _ _)
theorem s_cons {st : Stmt} {rest : List Stmt} {t : T} {ts : List T} (h1 : PS X st (tS (kx X xa) ea Wx (ex c n t))) (h2 : PSs X rest (tS (kx X xa) ea Wx (exs c n ts))) : PSs X (st :: rest) (tS (kx X xa) ea Wx (exs c n (t :: ts))) := by
  refine pss_imp (pss_cons h1 h2) fun D σ H ⟨ρ, as, Wc, h, a⟩ => ?_
  simp only [exs] at a
  refine ⟨ρ, as, Wc, h, ?_⟩
  cases q : ex c n t ρ with
  | nx ρ' =>
    rw [q] at a
    exact fun σ' H' as' h' s => ⟨ρ', as', Wc, h', AftO.step a s⟩
  | bk ρ' => rw [q] at a; exact a
  | ct ρ' => rw [q] at a; exact a
  | rt d => rw [q] at a; exact a
  | rk ρ' => rw [q] at a; exact a
  | er e ρ' => rw [q] at a; exact a
  | st => rw [q] at a; exact a
theorem s_pass {p} : PS X (.Pass p) (tS (kx X xa) ea Wx (ex c n .pass)) := by
  refine ps_imp ps_pass fun D σ H ⟨ρ, as, Wc, h, a⟩ => ?_
  simp only [ex] at a
  exact a σ H as h (Step.refl _ _)
theorem s_brk {p} : PS X (.Break p) (tS (kx X xa) ea Wx (ex c n .brk)) := by
  refine ps_imp ps_break fun D σ H ⟨ρ, as, Wc, h, a⟩ => ?_
  simp only [ex] at a
  exact a σ H as h (Step.refl _ _)
theorem s_cont {p} : PS X (.Continue p) (tS (kx X xa) ea Wx (ex c n .cont)) := by
  refine ps_imp ps_continue fun D σ H ⟨ρ, as, Wc, h, a⟩ => ?_
  simp only [ex] at a
  exact a σ H as h (Step.refl _ _)
theorem s_expr (he : PE X e (tE (lx X xa ea c) Wx se)) (hs : swapsWith e none pos.line X.env = pure false) : PS X (.Expr e pos) (tS (kx X xa) ea Wx (ex c n (.expr se))) := by
  refine ps_imp (ps_expr he hs) fun D σ H ⟨ρ, as, Wc, h, a⟩ => ?_
  simp only [ex] at a
  exact tS_e h a fun d H1 v bs _ s1 e1 f1 n1 l1 h1 a => a σ H1 as h1 (Step.same s1 fun a m => .inl m)
theorem s_ret (he : PE X e (tE (lx X xa ea c) Wx se)) : PS X (.Return (some e) pos) (tS (kx X xa) ea Wx (ex c n (.ret se))) := by
  refine ps_imp (ps_ret he) fun D σ H ⟨ρ, as, Wc, h, a⟩ => ?_
  simp only [ex] at a
  refine tS_e h a fun d H1 v bs _ s1 e1 f1 n1 l1 h1 a => ?_
  split at a
  · exact a.elim
  · rename_i nb
    exact a H1 v bs ((O.ofE e1 (by simpa using nb)).keep (fun _ _ q _ => q) (fun a q => .inl (q.elim (fun q => .inl (.inl q)) .inr)) fun _ _ _ q => q) n1 (Step.same s1 fun a m => .inr (f1 a m))
theorem s_retN : PS X (.Return none pos) (tS (kx X xa) ea Wx (ex c n .retN)) := by
  refine ps_imp ps_retN fun D σ H ⟨ρ, as, Wc, h, a⟩ => ?_
  simp only [ex] at a
  exact a H .non [] (.fz .non) List.nodup_nil ⟨fun _ _ e _ => e, fun _ m => nomatch m⟩
theorem s_retk : PS X (.Return none pos) (tS (kx X xa) ea Wx (ex c n .retk)) := by
  refine ps_imp ps_retN fun D σ H ⟨ρ, as, Wc, h, a⟩ => ?_
  simp only [ex] at a
  exact a σ H as h (Step.refl _ _)
theorem Sl.get' {K : Kx} {H : Hp} {W : Addr → Prop} : ∀ {ρ : Rho} {σ : L2.St} {as : List Addr} {i : Nat} {d : D}, Sl K H W ρ σ as → ρ[i]? = some (some d) → ∃ v bs, σ[i]? = some (some v) ∧ O K H W d v bs ∧ bs.Sublist as
  | _, _, _, 0, _, .fu h _, e => by simp at e; subst e; exact ⟨_, _, rfl, h, List.sublist_append_left _ _⟩
  | _, _, _, 0, _, .em _, e => by simp at e
  | _, _, _, i + 1, _, .em t, e => by
    obtain ⟨v, bs, e', r, q⟩ := Sl.get' (i := i) t (by simpa using e)
    exact ⟨v, bs, by simpa using e', r, q⟩
  | _, _, _, i + 1, _, .fu _ t, e => by
    obtain ⟨v, bs, e', r, q⟩ := Sl.get' (i := i) t (by simpa using e)
    exact ⟨v, bs, by simpa using e', r, q.trans (List.sublist_append_right _ _)⟩
  | _, _, _, _, _, .nil, e => by simp at e
theorem s_rmv {i : Nat} {x : Str} {p : Pos} (hN : X.N[i]? = some x) (hv : Vis X.env.scope x) (hd : (x == ("__debug__" : Str)) = false) (hcd : (x == ("__classdict__" : Str)) = false) : PS X (.Return (some (.Name x p)) pos) (tS (kx X xa) ea Wx (ex c n (.rmv i))) := by
  refine ps_imp (ps_ret (pe_var hN hv hd hcd)) fun D σ H ⟨ρ, as, Wc, h, a⟩ => ?_
  simp only [ex] at a
  cases q : ρ[i]? with
  | none => rw [q] at a; exact a.elim
  | some o =>
    cases o with
    | none => rw [q] at a; exact a.elim
    | some d =>
      rw [q] at a
      obtain ⟨v, bs, e, o, sb⟩ := h.sl.get' q
      refine ⟨v, e, ?_⟩
      exact a H v bs (o.keep (fun _ _ q _ => q) (fun a q => .inl (q.elim .inl fun m => .inr (sb.subset m))) fun _ _ _ q => q) (sb.nodup h.nd) ⟨fun _ _ e _ => e, fun a m => .inl (sb.subset m)⟩
/-- behind a store -/
theorem St1.store {K : Kx} {Wc : Addr → Prop} {H H1 : Hp} {ρ ρ' : Rho} {σ σ' : L2.St} {as bs as' : List Addr} (h : St1 K Wc H ρ σ as) (s : Same H H1) (f : Fresh H bs) (nb : bs.Nodup) (e : Sl K H1 (plus (plus Wc as) bs) ρ' σ' as') (sp : Sep as bs as') :
    St1 K Wc H1 ρ' σ' as' ∧ Step H as H1 as' := by
  have sb : ∀ a ∈ as', a ∈ as ∨ H a = none := fun a m => (sp.1 a m).imp id fun m => f a m
  have e' : Sl K H1 (plus Wc as') ρ' σ' as' := e.keep (fun _ _ q _ => q) (fun a q => .inl (by
    rcases q with q | q
    · exact .inl (.inl q)
    · exact (sp.1 a q).elim (fun m => .inl (.inr m)) .inr)) fun _ _ _ q => q
  refine ⟨⟨e', sp.2 h.nd nb fun a m m' => ?_, dj_new h.wk h.dj sb, wk_new (fun a q => (h.wk.same s) a (.inl q)) e'⟩, Step.same s sb⟩
  obtain ⟨vs, q, _⟩ := h.wk a (.inr m)
  rw [f a m'] at q
  cases q
theorem s_asg {tg : Expr} {g : G} (he : PE X e (tE (lx X xa ea c) Wx se)) (hg : PG X tg (tG (kx X xa) g)) (hs : swapsWithSole [tg] e pos.line X.env = pure false) (hw : swappedStores [tg] e X.env = pure none) (ht : (assignEach [tg] X.env).map (·.2) = [assign tg X.env]) : PS X (.Assign [tg] e pos) (tS (kx X xa) ea Wx (ex c n (.asg g se))) := by
  refine ps_imp (ps_asg he hg hs hw ht) fun D σ H ⟨ρ, as, Wc, h, a⟩ => ?_
  simp only [ex] at a
  refine tS_e h a fun d H1 v bs _ s1 e1 f1 n1 l1 h1 a => ?_
  split at a
  · exact a.elim
  · rename_i nb
    obtain ⟨ρ', hset, a⟩ := aft_lo a
    refine ⟨d, ρ, as, _, bs, ρ', l1, O.ofE e1 (by simpa using nb), hset, fun σ' as' e' sp _ => ?_⟩
    obtain ⟨h', st⟩ := h.store s1 f1 n1 e' sp
    exact a σ' H1 as' h' st
/-- name = [..], on one line -/
theorem s_setLc {i : Nat} {y : Str} {py : Pos} {elt : Expr} {gs : List Comprehension} {scope : Scope} {cpos : Pos} {tl : TE} (hp : PS X (.Assign [.Name y py] (.ListComp elt gs scope cpos) pos) (tAsg tl (gName i))) (hk : ∀ σ H Q, tE (lx X xa ea c) Wx se σ H Q → tl σ H Q) :
    PS X (.Assign [.Name y py] (.ListComp elt gs scope cpos) pos) (tS (kx X xa) ea Wx (ex c n (.asg (.nm i) se))) := by
  refine ps_imp hp fun D σ H ⟨ρ, as, Wc, h, a⟩ => ?_
  simp only [ex] at a
  refine hk _ _ _ (tS_e h a fun d H1 v bs _ s1 e1 f1 n1 l1 h1 a => ?_)
  split at a
  · exact a.elim
  · rename_i nb
    obtain ⟨ρ', hset, a⟩ := aft_lo a
    simp only [setG, Option.some.injEq] at hset
    subst hset
    obtain ⟨as', e', sp⟩ := set_sl l1 (O.ofE e1 (by simpa using nb)) i
    obtain ⟨h', st⟩ := h.store s1 f1 n1 e' sp
    exact a _ H1 as' h' st
theorem s_if {t : Expr} {b1 b2 : List Stmt} {ts1 ts2 : List T} (ht : PT X t (tT (lx X xa ea c) Wx se)) (h1 : PSs X b1 (tS (kx X xa) ea Wx (exs c n ts1))) (h2 : PSs X b2 (tS (kx X xa) ea Wx (exs c n ts2))) : PS X (.If t b1 b2 pos) (tS (kx X xa) ea Wx (ex c n (.ifs se ts1 ts2))) := by
  refine ps_imp (ps_if ht h1 h2) fun D σ H ⟨ρ, as, Wc, h, a⟩ => ?_
  simp only [ex] at a
  refine tS_t h a fun b H1 s1 h1 a => ?_
  cases b with
  | true => rw [if_pos rfl] at a ⊢; exact ⟨ρ, as, Wc, h1, a.step (Step.same s1 fun a m => .inl m)⟩
  | false => rw [if_neg (by decide)] at a ⊢; exact ⟨ρ, as, Wc, h1, a.step (Step.same s1 fun a m => .inl m)⟩
theorem s_rais {ec : Ec} (hc : X.calm = true) (tk : L2N.Takes X Wx) (he : L2N.PMk X e (fun _ H Q => Q (.ref (ea ec)) none H)) : PS X (.Raise (some e) none pos) (tS (kx X xa) ea Wx (ex c n (.rais ec))) := by
  refine ps_imp (L2N.ps_raise hc tk he) fun D σ H ⟨ρ, as, Wc, h, a⟩ => ?_
  simp only [ex] at a
  exact a σ H as h (Step.refl _ _)

/-! ### loops -/
theorem aft_body {K : Kx} {D D' : Ends} {Wc : Addr → Prop} {H H' : Hp} {as as' : List Addr} {o : Out} (h : AftO K ea Wx D' Wc H as o) (r : ∀ v H, D'.rt v H → D.rt v H) (nx : ∀ σ H, D'.nx σ H → D.nx σ H) (bk : ∀ σ H, D'.bk σ H → D.bk σ H) (ct : ∀ σ H, D'.ct σ H → D.ct σ H) : AftO K ea Wx D Wc H as o := by
  cases o with
  | nx ρ => exact fun σ' H2 as2 e t => nx _ _ (h σ' H2 as2 e t)
  | bk ρ => exact fun σ' H2 as2 e t => bk _ _ (h σ' H2 as2 e t)
  | ct ρ => exact fun σ' H2 as2 e t => ct _ _ (h σ' H2 as2 e t)
  | er e ρ => exact fun σ' H2 as2 e t => h σ' H2 as2 e t
  | rk ρ => exact fun σ' H2 as2 e t => r _ _ (h σ' H2 as2 e t)
  | rt d => exact fun H2 v bs e n t => r _ _ (h H2 v bs e n t)
  | st => exact h
theorem s_while {t : Expr} {body : List Stmt} {ts : List T} (hp : PassesOwn (model X.prog X.w) X.A X.env X.xe) (ht : PT X t (tT (lx X xa ea c) Wx se)) (hb : PSs X body (tS (kx X xa) ea Wx (exs c n ts))) : PS X (.While t body [] pos) (tS (kx X xa) ea Wx (ex c n (.whl se ts))) := by
  refine ps_imp (ps_while hp ht hb) fun D σ H ⟨ρ, as, Wc, h, a⟩ => ?_
  simp only [ex] at a
  refine ⟨fun m σ H => ∃ ρ as, St1 (kx X xa) Wc H ρ σ as ∧ AftO (kx X xa) ea Wx D Wc H as (whlD (evT c se) (exs c n ts) m ρ), ⟨n, ρ, as, h, a⟩, fun m σ H ⟨ρ, as, h, a⟩ => ?_⟩
  cases m with
  | zero => exact a.elim
  | succ m =>
    simp only [whlD] at a
    refine tS_t h a fun b H1 s1 h1 a => ?_
    have a := a.step (Step.same s1 fun a m => .inl m)
    cases b with
    | false =>
      rw [if_neg (by decide)] at a ⊢
      exact a σ H1 as h1 (Step.refl _ _)
    | true =>
      rw [if_pos rfl] at a ⊢
      refine ⟨fun σ' H' => ∃ ρ' as', St1 (kx X xa) Wc H' ρ' σ' as' ∧ AftO (kx X xa) ea Wx D Wc H' as' (whlD (evT c se) (exs c n ts) m ρ'), fun σ' H' ⟨ρ', as', h', a'⟩ => ⟨m, Nat.lt_succ_self m, ρ', as', h', a'⟩, ρ, as, Wc, h1, ?_⟩
      cases q : exs c n ts ρ with
      | nx ρ' => rw [q] at a; exact fun σ' H' as' h' st => ⟨ρ', as', h', AftO.step a st⟩
      | ct ρ' => rw [q] at a; exact fun σ' H' as' h' st => ⟨ρ', as', h', AftO.step a st⟩
      | bk ρ' => rw [q] at a; exact a
      | rt d => rw [q] at a; exact a
      | rk ρ' => rw [q] at a; exact a
      | er e ρ' => rw [q] at a; exact a
      | st => rw [q] at a; exact a
theorem s_for {tg iter : Expr} {body : List Stmt} {g : G} {it : S} {ts : List T} (hp : PassesOwn (model X.prog X.w) X.A X.env X.xe) (hc : X.calm = true) (hi : PI X tg iter (tI (lx X xa ea c) Wx true it)) (hg : PG X tg (tG (kx X xa) g)) (hb : PSs X body (tS (kx X xa) ea Wx (exs c n ts)))
    (hs : ∀ x, foldedSetIterable iter X.env x = pure x) : PS X (.For tg iter body [] pos) (tS (kx X xa) ea Wx (ex c n (.for g it ts))) := by
  refine ps_imp (ps_for hp hc hi hg hb hs) fun D σ H ⟨ρ, as, Wc, h, a⟩ => ?_
  simp only [ex] at a
  refine ⟨ρ, as, _, h.sl, h.wk, ?_⟩
  show Aft (evI c true it ρ) _ _
  cases q : evI c true it ρ with
  | st => rw [q] at a; exact a.elim
  | er e =>
    rw [q] at a
    exact fun H' s => a σ H' as (h.same s) (Step.same s fun a m => .inl m)
  | ok ds =>
    rw [q] at a
    have a : AftO (kx X xa) ea Wx D Wc H as (forD (fun d ρ => Out.of (lift (setG g d ρ)) ρ fun ρ' => exs c n ts ρ') ds ρ) := a
    intro H1 J s1 wk
    refine ⟨fun i m σ H2 => m = ds.length - i ∧ i ≤ ds.length ∧ ∃ ρ as2, St1 (kx X xa) Wc H2 ρ σ as2 ∧ Step H1 as H2 as2 ∧ AftO (kx X xa) ea Wx D Wc H2 as2 (forD (fun d ρ => Out.of (lift (setG g d ρ)) ρ fun ρ' => exs c n ts ρ') (ds.drop i) ρ),
      ⟨_, rfl, Nat.zero_le _, ρ, as, h.same s1, Step.refl _ _, a.step (Step.same s1 fun a m => .inl m)⟩, fun i m σ H2 ⟨em, l, ρ, as2, h2, st2, a2⟩ => ?_⟩
    subst em
    have kp : Kp (uOf true (plus Wc as)) H1 H2 := fun a o e nu => st2.kp a o e fun m => nu ⟨rfl, .inr m⟩
    by_cases q : i = ds.length
    · subst q
      refine .inl ⟨wk.stops H2 kp, ?_⟩
      rw [List.drop_length] at a2
      exact a2 σ H2 as2 h2 (Step.refl _ _)
    · have lt : i < ds.length := by omega
      refine .inr ⟨wk.goes i H2 lt kp, fun σ' H' => ∃ ρ' as', St1 (kx X xa) Wc H' ρ' σ' as' ∧ Step H1 as H' as' ∧ AftO (kx X xa) ea Wx D Wc H' as' (forD (fun d ρ => Out.of (lift (setG g d ρ)) ρ fun ρ' => exs c n ts ρ') (ds.drop (i + 1)) ρ'), fun σ' H' h' => ⟨_, ?_, rfl, lt, h'⟩, fun x H3 y => ?_⟩
      · omega
      · have hd : ds[i]? = some ds[i] := by simp [lt]
        obtain ⟨s3, fx⟩ := wk.yields i H2 x H3 ds[i] hd kp y
        rw [List.drop_eq_getElem_cons lt] at a2
        simp only [forD] at a2
        have a2 := a2.step (Step.same s3 fun a m => .inl m)
        cases qs : setG g ds[i] ρ with
        | none => rw [qs] at a2; exact a2.elim
        | some ρ' =>
          rw [qs] at a2
          simp only [lift_some, of_ok] at a2
          have fd : F (kx X xa) H3 (plus Wc as2) ds[i] x := fx _ h2.wk fun a q => by
            rcases q with q | q
            · exact .inl (.inl q)
            · exact (st2.sub a q).imp .inr id
          refine ⟨_, ρ, as2, _, [], ρ', (h2.same s3).sl, .fz fd, qs, fun σ4 as4 e4 sp _ => ?_⟩
          have h3 := h2.same s3
          have f0 : Fresh H3 [] := fun _ m => nomatch m
          obtain ⟨h4, st4⟩ := h3.store (Same.refl _) f0 List.nodup_nil (e4.keep (fun _ _ q _ => q) (fun a q => .inl (plus_nil q)) fun _ _ _ q => q) sp
          have st14 : Step H1 as H3 as4 := (st2.trans (Step.same s3 fun a m => .inl m)).trans st4
          have a4 := a2.step st4
          refine ⟨ρ', as4, Wc, h4, ?_⟩
          cases qb : exs c n ts ρ' with
          | nx ρ5 => rw [qb] at a4; exact fun σ' H' as' h' st => ⟨ρ5, as', h', st14.trans st, AftO.step a4 st⟩
          | ct ρ5 => rw [qb] at a4; exact fun σ' H' as' h' st => ⟨ρ5, as', h', st14.trans st, AftO.step a4 st⟩
          | bk ρ5 => rw [qb] at a4; exact a4
          | rt d => rw [qb] at a4; exact a4
          | rk ρ5 => rw [qb] at a4; exact a4
          | er e ρ5 => rw [qb] at a4; exact a4
          | st => rw [qb] at a4; exact a4
end
end Ds

namespace Ds
open PySem PySem.Spec PyProof.Rows L2
/-! ## 11. Stores into owned lists -/
section
variable {K : Kx} {H H' : Hp} {W W' : Addr → Prop}
theorem Os.set : ∀ {ds : List D} {vs : List V} {as : List Addr} {j : Nat}, Os K H W ds vs as → j < ds.length → ∃ k0 kj k1, as = k0 ++ kj ++ k1 ∧ (∃ dj vj, ds[j]? = some dj ∧ vs[j]? = some vj ∧ O K H W dj vj kj) ∧
    ∀ (H' : Hp) (W' : Addr → Prop), (∀ a o, H a = some o → ¬ W a → H' a = some o) → (∀ a, W' a → W a ∨ H a = none) → (∀ a ∈ k0 ++ k1, ∀ o, H a = some o → H' a = some o) → ∀ d v b, O K H' W' d v b → Os K H' W' (ds.set j d) (vs.set j v) (k0 ++ b ++ k1)
  | _, _, _, j, .nil, h => by simp at h
  | _, _, _, 0, .cons (as := as1) (bs := bs1) h t, _ => by
    refine ⟨[], as1, bs1, by simp, ⟨_, _, rfl, rfl, h⟩, fun H' W' k w ka d v b o => ?_⟩
    exact .cons o (t.keep k w fun a m => ka a (by simpa using m))
  | _, _, _, j + 1, .cons (as := as1) (bs := bs1) h t, l => by
    obtain ⟨k0, kj, k1, e, ⟨dj, vj, e1, e2, o⟩, q⟩ := Os.set (j := j) t (by simpa using l)
    refine ⟨as1 ++ k0, kj, k1, by rw [e]; simp, ⟨dj, vj, by simpa using e1, by simpa using e2, o⟩, fun H' W' k w ka d v b o => ?_⟩
    have q' := q H' W' k w (fun a m => ka a (by simp only [List.append_assoc]; exact List.mem_append_right _ m)) d v b o
    have hh := h.keep k w fun a m => ka a (by simp only [List.append_assoc]; exact List.mem_append_left _ m)
    have := Os.cons hh q'
    simpa only [List.append_assoc, List.set_cons_succ] using this
theorem set_same {α : Type} {l : List α} {i : Nat} {y : α} (h : l[i]? = some y) : l.set i y = l := by
  obtain ⟨h1, h2⟩ := List.getElem?_eq_some_iff.mp h
  rw [← h2]
  exact List.set_getElem_self h1
/-- slot x holds an owned list: it is written -/
theorem write_slot {Wc : Addr → Prop} {ρ : Rho} {σ : L2.St} {as : List Addr} {x : Nat} {xs : List D} (h : St1 K Wc H ρ σ as) (hx : ρ[x]? = some (some (.lst .ow xs))) :
    ∃ p vs kids a0 a1, as = a0 ++ (p :: kids) ++ a1 ∧ σ[x]? = some (some (.ref p)) ∧ H p = some (.lst vs) ∧ vs.length ≤ sizeLine ∧ Os K H (plus Wc as) xs vs kids ∧
      ∀ (H1 : Hp) (bs : List Addr) (xs' : List D) (vs' : List V) (kids' : List Addr), Same H H1 → Fresh H bs → Os K H1 (plus (plus Wc as) bs) xs' vs' kids' → vs'.length ≤ sizeLine → (p :: kids').Nodup → (∀ a ∈ kids', a ∈ kids ∨ a ∈ bs) →
        ∃ as', St1 K Wc (upd H1 p (.lst vs')) (ρ.set x (some (.lst .ow xs'))) σ as' ∧ Step H as (upd H1 p (.lst vs')) as' := by
  have lx : x < ρ.length := (List.getElem?_eq_some_iff.mp hx).1
  obtain ⟨a0, ax, a1, ea, g, q⟩ := h.sl.at lx
  obtain ⟨v, ev, o⟩ := g _ hx
  cases o with
  | fz f => cases f
  | ow hp z r =>
    rename_i p vs kids
    refine ⟨p, vs, kids, a0, a1, ea, ev, hp, z, r, fun H1 bs xs' vs' kids' s f r' z' nd' sub => ?_⟩
    have nd := h.nd
    rw [ea] at nd
    have n0 := List.nodup_append.mp nd
    have n1 := List.nodup_append.mp n0.1
    have hpa : p ∈ as := by rw [ea]; simp
    have p0 : ∀ a ∈ a0, a ≠ p := fun a m e => n1.2.2 a m p (by simp) e
    have p1 : ∀ a ∈ a1, a ≠ p := fun a m e => n0.2.2 p (by simp) a m e.symm
    have kp : ∀ a o, H a = some o → a ≠ p → upd H1 p (.lst vs') a = some o := fun a o e n => by rw [upd_ne n]; exact s a o e
    have subA : ∀ a ∈ a0 ++ (p :: kids') ++ a1, a ∈ as ∨ a ∈ bs := fun a m => by
      rw [ea]
      rcases List.mem_append.mp m with m | m
      · rcases List.mem_append.mp m with m | m
        · exact .inl (by simp [m])
        · rcases List.mem_cons.mp m with m | m
          · exact .inl (by simp [m])
          · rcases sub a m with m | m
            · exact .inl (by simp [m])
            · exact .inr m
      · exact .inl (by simp [m])
    obtain ⟨_, q⟩ := q (upd H1 p (.lst vs')) (plus Wc (a0 ++ (p :: kids') ++ a1)) (fun a o e n => kp a o e fun q => n (by rw [q]; exact .inr hpa)) (fun a m => by
      rcases m with m | m
      · exact .inl (.inl m)
      · exact (subA a m).elim (fun m => .inl (.inr m)) fun m => .inr (f a m)) fun a m o e => kp a o e (by
        rcases List.mem_append.mp m with m | m
        · exact p0 a m
        · exact p1 a m)
    have kn : ∀ a ∈ kids', a ≠ p := fun a m e => (List.nodup_cons.mp nd').1 (e ▸ m)
    have newO : O K (upd H1 p (.lst vs')) (plus Wc (a0 ++ (p :: kids') ++ a1)) (.lst .ow xs') (.ref p) (p :: kids') := by
      refine .ow upd_same z' (r'.keep (fun a o e n => ?_) (fun a m => ?_) fun a m o e => ?_)
      · rw [upd_ne fun q => n (by rw [q]; exact .inl (.inr hpa))]; exact e
      · rcases m with m | m
        · exact .inl (.inl (.inl m))
        · exact (subA a m).elim (fun m => .inl (.inl (.inr m))) fun m => .inl (.inr m)
      · rw [upd_ne (kn a m)]; exact e
    have sl' := q _ _ _ newO
    rw [set_same ev] at sl'
    have tr : ∀ a ∈ as, H a ≠ none := fun a m q => by
      obtain ⟨vs, e, _⟩ := h.wk a (.inr m)
      rw [q] at e
      cases e
    have nd2 : (a0 ++ (p :: kids') ++ a1).Nodup := by
      refine List.nodup_append.mpr ⟨List.nodup_append.mpr ⟨n1.1, nd', fun a m b m' e => ?_⟩, n0.2.1, fun a m b m' e => ?_⟩
      · subst e
        rcases List.mem_cons.mp m' with m' | m'
        · exact p0 a m m'
        · rcases sub a m' with m' | m'
          · exact n1.2.2 a m a (List.mem_cons_of_mem _ m') rfl
          · exact tr a (by rw [ea]; simp [m]) (f a m')
      · subst e
        rcases List.mem_append.mp m with m | m
        · exact n0.2.2 a (by simp [m]) a m' rfl
        · rcases List.mem_cons.mp m with m | m
          · exact p1 a m' m
          · rcases sub a m with m | m
            · exact n0.2.2 a (by simp [m]) a m' rfl
            · exact tr a (by rw [ea]; simp [m']) (f a m)
    have sb : ∀ a ∈ a0 ++ (p :: kids') ++ a1, a ∈ as ∨ H a = none := fun a m => (subA a m).imp id fun m => f a m
    refine ⟨_, ⟨sl', nd2, dj_new h.wk h.dj sb, wk_new (fun a m => ?_) sl'⟩, ⟨fun a o e n => kp a o e fun q => n (by rw [q]; exact hpa), sb⟩⟩
    obtain ⟨vs, e, wz⟩ := h.wk a (.inl m)
    exact ⟨vs, kp a _ e fun q => h.dj p hpa (q ▸ m), wz⟩
end
section
variable {X : Cx} {xa : Xa} {ea : Ec → Addr} {c : Cn} {Wx : WX} {n : Nat} {pos : Pos} {e i : Expr} {se si sj : S}
theorem fresh_as {K : Kx} {Wc : Addr → Prop} {H : Hp} {ρ : Rho} {σ : L2.St} {as bs : List Addr} (h : St1 K Wc H ρ σ as) (f : Fresh H bs) : ∀ a ∈ as, a ∉ bs := fun a m m' => by
  obtain ⟨vs, q, _⟩ := h.wk a (.inr m)
  rw [f a m'] at q
  cases q
theorem own_kids {K : Kx} {Wc : Addr → Prop} {H : Hp} {ρ : Rho} {σ : L2.St} {as a0 a1 kids : List Addr} {p : Addr} (h : St1 K Wc H ρ σ as) (e : as = a0 ++ (p :: kids) ++ a1) : (p :: kids).Nodup ∧ ∀ a ∈ p :: kids, a ∈ as := by
  refine ⟨?_, fun a m => by rw [e]; exact List.mem_append_left _ (List.mem_append_right _ m)⟩
  have := h.nd
  rw [e] at this
  exact (List.nodup_append.mp (List.nodup_append.mp this).1).2.1
theorem Os.later {K : Kx} {H H1 : Hp} {W : Addr → Prop} {ds : List D} {vs : List V} {as bs : List Addr} (r : Os K H W ds vs as) (s : Same H H1) (f : Fresh H bs) : Os K H1 (plus W bs) ds vs as :=
  r.keep (fun a o e _ => s a o e) (fun a q => q.elim .inl fun m => .inr (f a m)) fun a _ o e => s a o e
/-- x.append(e) -/
theorem s_app {x : Nat} {nm : Str} {p apos cpos ep : Pos} (hN : X.N[x]? = some nm) (hv : Vis X.env.scope nm) (hd : (nm == ("__debug__" : Str)) = false) (hcd : (nm == ("__classdict__" : Str)) = false) (he : PE X e (tE (lx X xa ea c) Wx se))
    (hs : starEach [e] X.env = (false, eval e X.env) :: starEach [] X.env) (hl : (apos.endLine == cpos.line) = true) :
    PS X (.Expr (.Call (.Attribute (.Name nm p) "append" apos) [e] [] cpos) ep) (tS (kx X xa) ea Wx (ex c n (.app x se))) := by
  refine ps_imp (ps_expr (pe_bm PySem.F.plainAttrs_list PySem.F.slot_list_append PySem.F.type_list_append mt_append (pe_var hN hv hd hcd) (pa_cons he pa_nil hs) rfl (by rw [hs]; rfl) hl hs rfl) rfl) fun D σ H ⟨ρ, as, Wc, h, a⟩ => ?_
  simp only [ex] at a
  split at a
  · rename_i xs hx
    obtain ⟨p, vs, kids, a0, a1, ea', e1, hp, z, r, wr⟩ := write_slot h hx
    refine ⟨_, e1, .inl ⟨rfl, vs, SqL.of hp⟩, tS_e h a fun d H1 v bs _ s1 e2 f1 n1 l1 h1 a => ?_⟩
    split at a
    · exact a.elim
    · rename_i nb
      split at a
      · rename_i lim
        have od := O.ofE e2 (by simpa using nb)
        have on : Os (kx X xa) H1 (plus (plus Wc as) bs) [d] [v] bs := by
          have := Os.cons od .nil
          rw [List.append_nil] at this
          exact this
        have lv : xs.length = vs.length := r.length
        obtain ⟨ndk, kin⟩ := own_kids h ea'
        obtain ⟨as', h', st⟩ := wr H1 bs (xs ++ [d]) (vs ++ [v]) (kids ++ bs) s1 f1 (Os.append (r.later s1 f1) on) (by rw [List.length_append, ← lv]; exact lim)
          (List.nodup_append.mpr ⟨ndk, n1, fun a m b m' q => fresh_as h f1 a (kin a m) (q ▸ m')⟩) (fun a m => List.mem_append.mp m)
        exact ⟨p, vs, v, rfl, rfl, s1 _ _ hp, by rw [← lv]; exact lim, a σ _ as' h' st⟩
      · exact a.elim
  · exact a.elim
/-- a list's item is replaced -/
theorem set_os {K : Kx} {H H1 : Hp} {W : Addr → Prop} {xs : List D} {vs : List V} {kids bs : List Addr} {p : Addr} {j : Nat} {d : D} {v : V} (r : Os K H W xs vs kids) (nd : (p :: kids).Nodup) (dj : ∀ a ∈ p :: kids, a ∉ bs) (s : Same H H1) (f : Fresh H bs) (nb : bs.Nodup) (o : O K H1 (plus W bs) d v bs) (l : j < xs.length) :
    ∃ kids', Os K H1 (plus W bs) (xs.set j d) (vs.set j v) kids' ∧ (p :: kids').Nodup ∧ ∀ a ∈ kids', a ∈ kids ∨ a ∈ bs := by
  obtain ⟨k0, kj, k1, e, _, q⟩ := r.set l
  have q := q H1 (plus W bs) (fun a o e _ => s a o e) (fun a q => q.elim .inl fun m => .inr (f a m)) (fun a _ o e => s a o e) d v bs o
  subst e
  refine ⟨_, q, ?_, fun a m => ?_⟩
  · have n1 := List.nodup_cons.mp nd
    refine List.nodup_cons.mpr ⟨fun m => ?_, nodup_mid n1.2 nb fun a m => dj a (List.mem_cons_of_mem _ m)⟩
    rcases List.mem_append.mp m with m | m
    · rcases List.mem_append.mp m with m | m
      · exact n1.1 (by simp [m])
      · exact dj p List.mem_cons_self m
    · exact n1.1 (by simp [m])
  · rcases List.mem_append.mp m with m | m
    · rcases List.mem_append.mp m with m | m
      · exact .inl (by simp [m])
      · exact .inr m
    · exact .inl (by simp [m])
theorem setI_out {xs ys : List D} {i d : D} (h : setI xs i d = some ys) : ∃ k j, i = .int k ∧ ixN xs.length k = some j ∧ ys = xs.set j d ∧ j < xs.length := by
  cases i with
  | int k =>
    simp only [setI, Option.map_eq_some_iff] at h
    obtain ⟨j, h, rfl⟩ := h
    exact ⟨k, j, rfl, h, rfl, (ixN_seq h).2.1⟩
  | _ => simp [setI] at h
theorem plain_sub {o i : Expr} {spos : Pos} {env : PySem.Env} (hi : ∀ l u s q, i ≠ .Slice l u s q) : ∀ v, assign (.Subscript o i spos) env v = (do
      let ov ← holding [v] (eval o env)
      let iv ← holding [v, ov] (eval i env)
      standAt spos
      holding [v, ov, iv] (setItem ov iv v)
      release [v, ov, iv] []) := by
  intro v
  cases i <;> first | rfl | exact absurd rfl (hi _ _ _ _)
/-- x[i] = e -/
theorem s_seti {x : Nat} {nm : Str} {p spos : Pos} (hN : X.N[x]? = some nm) (hv : Vis X.env.scope nm) (hd : (nm == ("__debug__" : Str)) = false) (hcd : (nm == ("__classdict__" : Str)) = false) (he : PE X e (tE (lx X xa ea c) Wx se)) (hi : PE X i (tE (lx X xa ea c) Wx si))
    (hs : swapsWithSole [.Subscript (.Name nm p) i spos] e pos.line X.env = pure false) (hw : swappedStores [.Subscript (.Name nm p) i spos] e X.env = pure none) (hsl : ∀ l u s q, i ≠ .Slice l u s q) :
    PS X (.Assign [.Subscript (.Name nm p) i spos] e pos) (tS (kx X xa) ea Wx (ex c n (.seti x si se))) := by
  refine ps_imp (ps_asg he (pg_sub (pe_var hN hv hd hcd) hi set_list (plain_sub hsl)) hs hw rfl) fun D σ H ⟨ρ, as, Wc, h, a⟩ => ?_
  simp only [ex] at a
  refine tS_e h a fun d H1 v bs _ s1 e1 f1 n1 l1 h1 a => ?_
  split at a
  · exact a.elim
  · rename_i nb
    split at a
    · rename_i xs hx
      obtain ⟨p, vs, kids, a0, a1, ea', e2, hp, z, r, wr⟩ := write_slot h hx
      refine ⟨_, e2, ?_⟩
      refine tE_go l1 (h1.wk.plus e1.there) ?_
      cases q : ev c si ρ with
      | st => rw [q] at a; exact a.elim
      | er er => rw [q] at a; exact fun H' s => a σ H' as (h.same (s1.trans s)) (Step.same (s1.trans s) fun a m => .inl m)
      | ok k =>
        rw [q] at a
        intro H2 vk bk s2 ek _ _ _ _
        obtain ⟨ys, hys, a⟩ := aft_lo a
        obtain ⟨kk, j, rfl, hj, rfl, lj⟩ := setI_out hys
        obtain ⟨rfl, _⟩ := ek.i
        obtain ⟨ndk, kin⟩ := own_kids h ea'
        have s12 := s1.trans s2
        have od : O (kx X xa) H2 (plus (plus Wc as) bs) d v bs := (O.ofE e1 (by simpa using nb)).keep (fun a o e _ => s2 a o e) (fun a q => .inl q) fun a _ o e => s2 a o e
        obtain ⟨kids', r', nd', sub'⟩ := set_os r ndk (fun a m => fresh_as h f1 a (kin a m)) s12 f1 n1 od lj
        obtain ⟨as', h', st⟩ := wr H2 bs _ (vs.set j v) kids' s12 f1 r' (by rw [List.length_set]; exact z) nd' sub'
        exact ⟨p, vs, kk, j, rfl, rfl, s12 _ _ hp, by rw [← r.length]; exact hj, a σ _ as' h' st⟩
    · exact a.elim
/-- op= of ints, by values -/
def rAug (op : Bop) : V → V → Hp → VK → Prop :=
  match op with
  | .add => rI0 fun i j => .int (i + j)
  | .sub => rI0 fun i j => .int (i - j)
  | .mul => rI CMul fun i j => .int (i * j)
  | .mod => rI (fun _ j => 0 < j) fun i j => .int (i % j)
  | .div => rI CDiv fun i j => .int (i / j)
  | .pow => fun _ _ _ _ => False
theorem ip_aug (op : Bop) : PIp X (opOf op) (rAug op) := by
  cases op with
  | add => exact iop_add
  | sub => exact iop_sub
  | mul => exact iop_mul
  | mod => exact iop_mod
  | div => exact iop_fdiv
  | pow => exact fun _ _ _ _ _ _ _ _ _ _ _ _ h => h.elim
theorem aug_out {op : Bop} {a b : Int} {ρ : Rho} {f : D → Out} {K : Kx} {De : Ends} {Wc : Addr → Prop} {H : Hp} {as : List Addr} (h : AftO K ea Wx De Wc H as (Out.of (evAug op a b) ρ f)) :
    ∃ k, AftO K ea Wx De Wc H as (f (.int k)) ∧ ∀ (H : Hp) (Q : VK), Q (.int k) H → rAug op (.int a) (.int b) H Q := by
  cases op with
  | add => exact ⟨_, h, fun H Q q => ⟨_, _, rfl, rfl, q⟩⟩
  | sub => exact ⟨_, h, fun H Q q => ⟨_, _, rfl, rfl, q⟩⟩
  | mul =>
    simp only [evAug, ok?] at h
    split at h
    · rename_i m
      simp only [Bool.or_eq_true, Bool.and_eq_true, decide_eq_true_eq] at m
      exact ⟨_, h, fun H Q q => ⟨_, _, rfl, rfl, m, q⟩⟩
    · exact h.elim
  | mod =>
    simp only [evAug, ok?] at h
    split at h
    · rename_i m
      exact ⟨_, h, fun H Q q => ⟨_, _, rfl, rfl, of_decide_eq_true m, q⟩⟩
    · exact h.elim
  | div =>
    simp only [evAug, ok?] at h
    split at h
    · rename_i m
      simp only [Bool.and_eq_true, decide_eq_true_eq] at m
      exact ⟨_, h, fun H Q q => ⟨_, _, rfl, rfl, m, q⟩⟩
    · exact h.elim
  | pow => exact h.elim
theorem s_aug {x : Nat} {nm : Str} {op : Bop} {p : Pos} (hN : X.N.Nodup) (hi : X.N[x]? = some nm) (hx : Loc X.env.scope nm) (hf : X.fn nm = true ∨ X.env.scope.names.lookup nm = some .local) (he : PE X e (tE (lx X xa ea c) Wx se)) :
    PS X (.AugAssign (.Name nm p) (opOf op) e pos) (tS (kx X xa) ea Wx (ex c n (.aug x op se))) := by
  refine ps_imp (ps_aug hN hi hx he (ip_aug op) hf) fun D σ H ⟨ρ, as, Wc, h, a⟩ => ?_
  simp only [ex] at a
  split at a
  · rename_i i hx
    obtain ⟨v, bs, e1, o, _⟩ := h.sl.get' hx
    cases o with
    | fz f =>
      cases f
      refine ⟨_, e1, tS_e h a fun d H1 v bs _ s1 e2 f1 n1 l1 h1 a => ?_⟩
      split at a
      · obtain ⟨rfl, _⟩ := e2.i
        obtain ⟨k, a, g⟩ := aug_out a
        refine g _ _ ?_
        obtain ⟨as', e', sp⟩ := set_sl h1.sl (O.fz (F.int k)) x
        have f0 : Fresh H1 [] := fun _ m => nomatch m
        obtain ⟨h', st⟩ := h1.store (Same.refl _) f0 List.nodup_nil (e'.keep (fun _ _ q _ => q) (fun a q => .inl (plus_nil q)) fun _ _ _ q => q) sp
        exact a _ H1 as' h' ((Step.same s1 fun a m => .inl m).trans st)
      · exact a.elim
  · exact a.elim
/-- x[i] of a list, by values -/
def rGetL (K : PySem.W.Frag) : V → V → Hp → VK → Prop := fun x y H Q => ∃ p xs i v, x = .ref p ∧ y = .int i ∧ 0 ≤ i ∧ i < 2 ^ 63 ∧ SqL K H p xs ∧ xs[i.toNat]? = some v ∧ Q v H
theorem get_list : PGet X (rGetL X.K) := by
  intro pins s σ H x y ov iv Q I rx ry h
  obtain ⟨p, xs, i, v, rfl, rfl, h0, h1, hq, hv, q⟩ := h
  cases rx
  obtain ⟨t, rfl⟩ := ry
  obtain ⟨its, r, pl, hz⟩ := I.list hq
  obtain ⟨u, hu, ru⟩ := r.get hv
  exact wpAny_getItem_list pl.isList h0 h1 (by simpa using hu) ⟨v, H, I, ru, q⟩
theorem plain_aug {i : Expr} (hi : ∀ l u s q, i ≠ .Slice l u s q) : ∀ ov iv new, augStore i ov iv new = (do holding [new, ov, iv] (setItem ov iv new); release [new, ov, iv] []; pure .next) := by
  intro ov iv new
  cases i <;> first | rfl | exact absurd rfl (hi _ _ _ _)
theorem atII_out {xs : List D} {i d : D} (h : atII xs i = some d) : ∃ k, i = .int k ∧ 0 ≤ k ∧ k < 2 ^ 63 ∧ xs[k.toNat]? = some d ∧ k.toNat < xs.length := by
  cases i with
  | int k =>
    simp only [atII] at h
    split at h
    · rename_i m
      unfold p63 at m
      unfold atI ixN at h
      rw [if_pos m.1] at h
      split at h
      · exact ⟨k, rfl, m.1, by omega, h, by omega⟩
      · cases h
    · cases h
  | _ => simp [atII] at h
/-- x[i] op= e -/
theorem s_augi {x : Nat} {nm : Str} {op : Bop} {p spos : Pos} (hN : X.N[x]? = some nm) (hv : Vis X.env.scope nm) (hd : (nm == ("__debug__" : Str)) = false) (hcd : (nm == ("__classdict__" : Str)) = false) (he : PE X e (tE (lx X xa ea c) Wx se)) (hi : PE X i (tE (lx X xa ea c) Wx si))
    (hsl : ∀ l u s q, i ≠ .Slice l u s q) : PS X (.AugAssign (.Subscript (.Name nm p) i spos) (opOf op) e pos) (tS (kx X xa) ea Wx (ex c n (.augi x si op se))) := by
  refine ps_imp (ps_augS (pe_var hN hv hd hcd) hi get_list he (ip_aug op) set_list (plain_aug hsl)) fun D σ H ⟨ρ, as, Wc, h, a⟩ => ?_
  simp only [ex] at a
  split at a
  · rename_i xs hx
    obtain ⟨p, vs, kids, a0, a1, ea', e2, hp, z, r, wr⟩ := write_slot h hx
    refine ⟨_, e2, tS_e h a fun k H1 vk bk _ s1 ek fk nk lk h1 a => ?_⟩
    split at a
    · rename_i m hm
      obtain ⟨kk, rfl, k0, k1, hk, lk'⟩ := atII_out hm
      obtain ⟨rfl, rfl⟩ := ek.i
      obtain ⟨vm, bm, hvm, om⟩ := (r.later s1 (fun _ m => nomatch m : Fresh H [])).get hk
      have evm : vm = .int m := by
        cases om with
        | fz f => cases f; rfl
      subst evm
      refine ⟨p, vs, kk, _, rfl, rfl, k0, k1, SqL.of (s1 _ _ hp), hvm, ?_⟩
      refine tE_go h1.sl h1.wk ?_
      cases q : ev c se ρ with
      | st => rw [q] at a; exact a.elim
      | er er => rw [q] at a; exact fun H' s => a σ H' as (h.same (s1.trans s)) (Step.same (s1.trans s) fun a m => .inl m)
      | ok d =>
        rw [q] at a
        simp only [of_ok] at a
        intro H2 vd bd s2 ed _ _ _ _
        split at a
        · obtain ⟨rfl, _⟩ := ed.i
          obtain ⟨k2, a, g⟩ := aug_out a
          refine g _ _ ?_
          obtain ⟨ys, hys, a⟩ := aft_lo a
          obtain ⟨kk2, j, ek2, hj, rfl, lj⟩ := setI_out hys
          cases ek2
          obtain ⟨ndk, kin⟩ := own_kids h ea'
          have s12 := s1.trans s2
          have f0 : Fresh H [] := fun _ m => nomatch m
          obtain ⟨kids', r', nd', sub'⟩ := set_os (bs := []) r ndk (fun a m q => nomatch q) s12 f0 List.nodup_nil (O.fz (F.int k2)) lj
          obtain ⟨as', h', st⟩ := wr H2 [] _ (vs.set j (.int k2)) kids' s12 f0 r' (by rw [List.length_set]; exact z) nd' sub'
          exact ⟨p, vs, _, j, rfl, rfl, s12 _ _ hp, by rw [← r.length]; exact hj, a σ _ as' h' st⟩
        · exact a.elim
    · exact a.elim
  · exact a.elim
end
end Ds

namespace Ds
open PySem PySem.Spec PyProof.Rows L2
/-! ## 12. Freezing, several targets, try -/
section
variable {X : Cx} {xa : Xa} {ea : Ec → Addr} {c : Cn} {Wx : WX} {n : Nat} {pos : Pos} {e i : Expr} {se si sj : S}
theorem frz1 {K : Kx} {Wc : Addr → Prop} {H : Hp} {ρ : Rho} {σ : L2.St} {as : List Addr} {x : Nat} {d : D} (h : St1 K Wc H ρ σ as) (hx : ρ[x]? = some (some d)) : ∃ as', St1 K Wc H (ρ.set x (some (frz d))) σ as' ∧ ∀ a ∈ as', a ∈ as := by
  have lx : x < ρ.length := (List.getElem?_eq_some_iff.mp hx).1
  obtain ⟨a0, ax, a1, ea, g, q⟩ := h.sl.at lx
  obtain ⟨v, ev, o⟩ := g _ hx
  have nd := h.nd
  rw [ea] at nd
  have n0 := List.nodup_append.mp nd
  have n1 := List.nodup_append.mp n0.1
  have sub : ∀ a ∈ a0 ++ a1, a ∈ as := fun a m => by
    rw [ea]
    rcases List.mem_append.mp m with m | m <;> simp [m]
  have wsub : ∀ a, plus Wc (a0 ++ a1) a → plus Wc as a := fun a m => m.imp id (sub a)
  have f : F K H (plus Wc (a0 ++ a1)) (frz d) v := o.frz wsub fun a m q => by
    rcases q with q | q
    · exact h.dj a (by rw [ea]; simp [m]) q
    · rcases List.mem_append.mp q with q | q
      · exact n1.2.2 a q a m rfl
      · exact n0.2.2 a (by simp [m]) a q rfl
  obtain ⟨_, q⟩ := q H (plus Wc (a0 ++ a1)) (fun _ _ q _ => q) (fun a m => .inl (wsub a m)) fun _ _ _ q => q
  have sl := q _ _ [] (.fz f)
  rw [set_same ev, List.append_nil] at sl
  refine ⟨_, ⟨sl, ?_, fun a m => h.dj a (sub a m), fun a m => h.wk a (wsub a m)⟩, sub⟩
  refine List.nodup_append.mpr ⟨n1.1, n0.2.1, fun a m b m' q => ?_⟩
  exact n0.2.2 a (by simp [m]) b m' q
theorem frzR_st {K : Kx} {Wc : Addr → Prop} {H : Hp} {ρ : Rho} {σ : L2.St} {as : List Addr} (h : St1 K Wc H ρ σ as) : ∀ xs : List Nat, ∃ as', St1 K Wc H (frzR ρ xs) σ as' ∧ ∀ a ∈ as', a ∈ as
  | [] => ⟨as, h, fun _ m => m⟩
  | x :: xs => by
    obtain ⟨as', h', s⟩ := frzR_st h xs
    simp only [frzR]
    split
    · rename_i d hx
      obtain ⟨as2, h2, s2⟩ := frz1 h' hx
      exact ⟨as2, h2, fun a m => s a (s2 a m)⟩
    · exact ⟨as', h', s⟩
theorem s_fz {st : List Stmt} {xs : List Nat} {ts : List T} (h : PSs X st (tS (kx X xa) ea Wx (exs c n ts))) : PSs X st (tS (kx X xa) ea Wx (exs c n (.fz xs :: ts))) := by
  refine pss_imp h fun D σ H ⟨ρ, as, Wc, h, a⟩ => ?_
  simp only [exs, ex, seq_nx] at a
  obtain ⟨as', h', s⟩ := frzR_st h xs
  exact ⟨_, as', Wc, h', a.step ⟨fun _ _ e _ => e, fun a m => .inl (s a m)⟩⟩

/-! ### a, b = e1, e2 -/
def setV : List Nat → List V → L2.St → L2.St
  | i :: is, v :: vs, σ => setV is vs (σ.set i (some v))
  | _, _, σ => σ
theorem setAll_sl {K : Kx} {H : Hp} {W : Addr → Prop} : ∀ {is : List Nat} {ds : List D} {vs : List V} {bs as : List Addr} {ρ ρ' : Rho} {σ : L2.St}, Sl K H W ρ σ as → Es K H W ds vs bs → setAll is ds ρ = some ρ' → as.Nodup → bs.Nodup → (∀ a ∈ as, a ∉ bs) →
    ds.length = is.length ∧ ∃ as', Sl K H W ρ' (setV is vs σ) as' ∧ as'.Nodup ∧ ∀ a ∈ as', a ∈ as ∨ a ∈ bs
  | [], _, _, _, as, ρ, ρ', σ, e, .nil, h, n, _, _ => by
    simp only [setAll, Option.some.injEq] at h
    subst h
    exact ⟨rfl, as, e, n, fun a m => .inl m⟩
  | [], _, _, _, _, _, _, _, _, .cons _ _, h, _, _, _ => by simp [setAll] at h
  | _ :: _, _, _, _, _, _, _, _, _, .nil, h, _, _, _ => by simp [setAll] at h
  | i :: is, _, _, _, as, ρ, ρ', σ, e, .cons hd tl, h, n, nb, dj => by
    simp only [setAll] at h
    split at h
    · cases h
    · rename_i nbo
      obtain ⟨as1, e1, sp⟩ := set_sl e (O.ofE hd (by simpa using nbo)) i
      have nn := List.nodup_append.mp nb
      have n1 := sp.2 n nn.1 fun a m m' => dj a m (List.mem_append_left _ m')
      obtain ⟨l, as2, e2, n2, s2⟩ := setAll_sl e1 tl h n1 nn.2.1 fun a m m' => by
        rcases sp.1 a m with m | m
        · exact dj a m (List.mem_append_right _ m')
        · exact nn.2.2 a m a m' rfl
      refine ⟨by simp [l], as2, e2, n2, fun a m => ?_⟩
      rcases s2 a m with m | m
      · exact (sp.1 a m).imp id fun m => List.mem_append_left _ m
      · exact .inr (List.mem_append_right _ m)
/-- the three roads of such a statement -/
theorem s_par {tgt val : Expr} {is : List Nat} {ss : List S} {tr : TS} (hp : PS X (.Assign [tgt] val pos) tr) (hk : ∀ D σ H, (tEs (lx X xa ea c) Wx ss σ H fun vs H1 => vs.length = is.length ∧ vs.length ≤ sizeLine ∧ ∀ H2, Same H1 H2 → D.nx (setV is vs σ) H2) → tr D σ H) (hl : ss.length ≤ 16) :
    PS X (.Assign [tgt] val pos) (tS (kx X xa) ea Wx (ex c n (.par is ss))) := by
  refine ps_imp hp fun D σ H ⟨ρ, as, Wc, h, a⟩ => hk D σ H ?_
  simp only [ex] at a
  refine tEs_go h.sl h.wk ?_
  show Aft (evs c ss ρ) _ _
  cases q : evs c ss ρ with
  | st => rw [q] at a; exact a.elim
  | er e =>
    rw [q] at a
    exact fun H' s => a σ H' as (h.same s) (Step.same s fun a m => .inl m)
  | ok ds =>
    rw [q] at a
    intro H1 vs bs s1 e1 f1 n1 l1 w1
    obtain ⟨ρ', hset, a⟩ := aft_lo a
    obtain ⟨l, as', e', n', sub⟩ := setAll_sl l1 e1 hset h.nd n1 (fresh_as h f1)
    have len : ∀ {ss : List S} {ds : List Ds.D}, evs c ss ρ = .ok ds → ds.length = ss.length := by
      intro ss
      induction ss with
      | nil => intro ds h; simp only [evs] at h; cases h; rfl
      | cons s ss ih =>
        intro ds h
        simp only [evs] at h
        cases q : ev c s ρ with
        | ok d =>
          rw [q] at h
          cases q2 : evs c ss ρ with
          | ok ds' => rw [q2] at h; cases h; simp [ih q2]
          | er _ => rw [q2] at h; cases h
          | st => rw [q2] at h; cases h
        | er _ => rw [q] at h; cases h
        | st => rw [q] at h; cases h
    have lv : vs.length = ss.length := by rw [← e1.length]; exact len q
    refine ⟨by rw [← e1.length]; exact l, Nat.le_trans (by rw [lv]; exact hl) (by decide), fun H2 s2 => ?_⟩
    have s12 := s1.trans s2
    have sb : ∀ a ∈ as', a ∈ as ∨ H a = none := fun a m => (sub a m).imp id fun m => f1 a m
    have sl2 : Sl (kx X xa) H2 (plus Wc as') ρ' (setV is vs σ) as' := e'.keep (fun a o e _ => s2 a o e) (fun a q => .inl (by
      rcases q with q | q
      · exact .inl (.inl q)
      · exact (sub a q).elim (fun m => .inl (.inr m)) .inr)) fun a _ o e => s2 a o e
    exact a _ H2 as' ⟨sl2, n', dj_new h.wk h.dj sb, wk_new (fun a q => (h.wk.same s12) a (.inl q)) sl2⟩ (Step.same s12 sb)
def gNms : List Nat → TGs
  | [] => gNil
  | i :: is => gCons (gName i) (gNms is)
theorem gNms_ok : ∀ {is : List Nat} {vs : List V} {σ : L2.St} {H : Hp} {Q : L2.St → Hp → Prop}, vs.length = is.length → Q (setV is vs σ) H → gNms is vs σ H Q
  | [], [], _, _, _, _, q => ⟨rfl, q⟩
  | [], _ :: _, _, _, _, l, _ => by simp at l
  | _ :: _, [], _, _, _, l, _ => by simp at l
  | i :: is, v :: vs, σ, H, Q, l, q => ⟨v, vs, rfl, gNms_ok (by simpa using l) q⟩
theorem par_tup {is : List Nat} {ss : List S} {ts es : List Expr} {k1 k2 : Nat} {p1 p2 : Pos} (hc : X.calm = true) (ha : PA X es (tEs (lx X xa ea c) Wx ss)) (hg : PGs X ts (gNms is)) (hl : (assignEach ts X.env).length = is.length) (hst : (assignEach ts X.env).findIdx? (·.1) = none)
    (hw : swappedStores [.Tuple ts k1 p1] (.Tuple es k2 p2) X.env = pure none) (h16 : ss.length ≤ 16) : PS X (.Assign [.Tuple ts k1 p1] (.Tuple es k2 p2) pos) (tS (kx X xa) ea Wx (ex c n (.par is ss))) := by
  refine s_par (ps_asg (pe_tup ha) (pg_tup hc hg hl hst) rfl hw rfl) (fun D σ H h => ?_) h16
  obtain ⟨ρ, as, W, e, w, h⟩ := h
  refine ⟨ρ, as, W, e, w, h.imp (fun ds hd H1 vs bs s1 e1 f1 n1 => ?_) fun _ q => q⟩
  obtain ⟨l, z, k⟩ := hd H1 vs bs s1 e1 f1 n1
  exact ⟨z, fun p np => ⟨p, vs, rfl, SqT.of upd_same, l, gNms_ok l (k _ (same_upd np))⟩⟩
theorem par_two {i j : Nat} {ss : List S} {x y : Str} {a b : Expr} {px py pt : Pos} {kt k2 pt2} (hc : X.calm = true) (hN : X.N.Nodup) (hi : X.N[i]? = some x) (hj : X.N[j]? = some y) (hij : i ≠ j) (hx : X.env.scope.names.lookup x = some .local) (hy : X.env.scope.names.lookup y = some .local)
    (ha : PA X [a, b] (tEs (lx X xa ea c) Wx ss)) (hw : swappedStores [.Tuple [.Name x px, .Name y py] kt pt] (.Tuple [a, b] k2 pt2) X.env = pure (some [x, y])) (h16 : ss.length ≤ 16) :
    PS X (.Assign [.Tuple [.Name x px, .Name y py] kt pt] (.Tuple [a, b] k2 pt2) pos) (tS (kx X xa) ea Wx (ex c n (.par [i, j] ss))) := by
  refine s_par (ps_par hc hN hi hj hij hx hy ha hw rfl) (fun D σ H h => ?_) h16
  obtain ⟨ρ, as, W, e, w, h⟩ := h
  refine ⟨ρ, as, W, e, w, h.imp (fun ds hd H1 vs bs s1 e1 f1 n1 => ?_) fun _ q => q⟩
  obtain ⟨l, z, k⟩ := hd H1 vs bs s1 e1 f1 n1
  match vs, l with
  | [u, v], _ => exact ⟨u, v, rfl, k H1 (Same.refl _)⟩
theorem par_three {i j l : Nat} {ss : List S} {x y z : Str} {a b d : Expr} {px py pz pt : Pos} {kt k2 pt2} (hc : X.calm = true) (hN : X.N.Nodup) (hi : X.N[i]? = some x) (hj : X.N[j]? = some y) (hl : X.N[l]? = some z) (hij : i ≠ j) (hil : i ≠ l) (hjl : j ≠ l)
    (hx : X.env.scope.names.lookup x = some .local) (hy : X.env.scope.names.lookup y = some .local) (hz : X.env.scope.names.lookup z = some .local)
    (ha : PA X [a, b, d] (tEs (lx X xa ea c) Wx ss)) (hw : swappedStores [.Tuple [.Name x px, .Name y py, .Name z pz] kt pt] (.Tuple [a, b, d] k2 pt2) X.env = pure (some [x, y, z])) (h16 : ss.length ≤ 16) :
    PS X (.Assign [.Tuple [.Name x px, .Name y py, .Name z pz] kt pt] (.Tuple [a, b, d] k2 pt2) pos) (tS (kx X xa) ea Wx (ex c n (.par [i, j, l] ss))) := by
  refine s_par (ps_par3 hc hN hi hj hl hij hil hjl hx hy hz ha hw rfl) (fun D σ H h => ?_) h16
  obtain ⟨ρ, as, W, e, w, h⟩ := h
  refine ⟨ρ, as, W, e, w, h.imp (fun ds hd H1 vs bs s1 e1 f1 n1 => ?_) fun _ q => q⟩
  obtain ⟨l, z, k⟩ := hd H1 vs bs s1 e1 f1 n1
  match vs, l with
  | [u, v, t], _ => exact ⟨u, v, t, rfl, k H1 (Same.refl _)⟩

/-! ### try -/
theorem Sl.toX {k : PySem.W.Frag} {H : Hp} {W : Addr → Prop} {xa : Xa} : ∀ {ρ : Rho} {σ : L2.St} {as : List Addr}, Sl ⟨k, none⟩ H W ρ σ as → Sl ⟨k, xa⟩ H W ρ σ as
  | _, _, _, .nil => .nil
  | _, _, _, .em t => .em (Sl.toX t)
  | _, _, _, .fu h t => .fu h.toX (Sl.toX t)
mutual
theorem F.unX {k : PySem.W.Frag} {H : Hp} {W : Addr → Prop} {xa : Xa} : ∀ {d : D} {v : V}, F ⟨k, xa⟩ H W d v → noX d = true → F ⟨k, none⟩ H W d v
  | _, _, .non, _ => .non
  | _, _, .bl b, _ => .bl b
  | _, _, .int i, _ => .int i
  | _, _, .str x, _ => .str x
  | _, _, .tup h n z r, q => .tup h n z (Fs.unX r (by simpa only [noX] using q))
  | _, _, .tupK l c p z v r, q => .tupK l c p z v (Fs.unX r (by simpa only [noX] using q))
  | _, _, .lst h n z r, q => .lst h n z (Fs.unX r (by simpa only [noX] using q))
  | _, _, .lk h n z r, q => .lk h n z (Fs.unX r (by simpa only [noX] using q))
  | _, _, .lkK l c dn p z v r, q => .lkK l c dn p z v (Fs.unX r (by simpa only [noX] using q))
  | _, _, .exc h, q => by simp only [noX] at q; cases q
  | _, _, .rg h n, _ => .rg h n
  | _, _, .dk h n z nd e r, q => .dk h n z nd e (Fs.unX r (by simp only [noX, Bool.and_eq_true] at q; exact q.2))
  | _, _, .dn h n z nd dp e rk r, q => .dn h n z nd dp e (Fs.unX rk (by simp only [noX, Bool.and_eq_true] at q; exact q.1)) (Fs.unX r (by simp only [noX, Bool.and_eq_true] at q; exact q.2))
  | _, _, .ob h n l r, q => .ob h n l (Fs.unX r (by simpa only [noX] using q))
theorem Fs.unX {k : PySem.W.Frag} {H : Hp} {W : Addr → Prop} {xa : Xa} : ∀ {ds : List D} {vs : List V}, Fs ⟨k, xa⟩ H W ds vs → noXs ds = true → Fs ⟨k, none⟩ H W ds vs
  | _, _, .nil, _ => .nil
  | _, _, .cons h t, q => by
    simp only [noXs, Bool.and_eq_true] at q
    exact .cons (F.unX h q.1) (Fs.unX t q.2)
end
mutual
theorem O.unX {k : PySem.W.Frag} {H : Hp} {W : Addr → Prop} {a0 : Addr} : ∀ {d : D} {v : V} {as : List Addr}, O ⟨k, some (false, a0)⟩ H W d v as → noX d = true → O ⟨k, none⟩ H W d v as
  | _, _, _, .fz h, q => .fz (h.unX q)
  | _, _, _, .ow h z r, q => .ow h z (Os.unX r (by simpa only [noX] using q))
  | _, _, _, .dk h z nd e r, q => .dk h z nd e (r.unX (by simp only [noX, Bool.and_eq_true] at q; exact q.2))
  | _, _, _, .dn h z nd dp e rk r, q => .dn h z nd dp e (rk.unX (by simp only [noX, Bool.and_eq_true] at q; exact q.1)) (r.unX (by simp only [noX, Bool.and_eq_true] at q; exact q.2))
  | _, _, _, .ob h l r, q => .ob h l (Os.unX r (by simpa only [noX] using q))
  | _, _, _, .sb e _ _ _, _ => nomatch e
theorem Os.unX {k : PySem.W.Frag} {H : Hp} {W : Addr → Prop} {a0 : Addr} : ∀ {ds : List D} {vs : List V} {as : List Addr}, Os ⟨k, some (false, a0)⟩ H W ds vs as → noXs ds = true → Os ⟨k, none⟩ H W ds vs as
  | _, _, _, .nil, _ => .nil
  | _, _, _, .cons h t, q => by
    simp only [noXs, Bool.and_eq_true] at q
    exact .cons (O.unX h q.1) (Os.unX t q.2)
end
theorem Sl.unX {k : PySem.W.Frag} {H : Hp} {W : Addr → Prop} {a0 : Addr} : ∀ {ρ : Rho} {σ : L2.St} {as : List Addr}, Sl ⟨k, some (false, a0)⟩ H W ρ σ as → ∃ as', Sl ⟨k, none⟩ H W (Ds.unX ρ) σ as' ∧ as'.Sublist as
  | _, _, _, .nil => ⟨[], .nil, List.Sublist.refl _⟩
  | _, _, _, .em t => by
    obtain ⟨as', e, s⟩ := Sl.unX t
    exact ⟨as', .em e, s⟩
  | _, _, _, .fu (d := d) h t => by
    obtain ⟨as', e, s⟩ := Sl.unX t
    unfold Ds.unX
    simp only [List.map_cons]
    by_cases q : noX d = true
    · rw [if_pos q]
      exact ⟨_, .fu (h.unX q) e, (List.Sublist.refl _).append s⟩
    · rw [if_neg q]
      exact ⟨as', .em e, s.trans (List.sublist_append_right _ _)⟩
theorem St1.toX {k : PySem.W.Frag} {Wc : Addr → Prop} {H : Hp} {xa : Xa} {ρ : Rho} {σ : L2.St} {as : List Addr} (h : St1 ⟨k, none⟩ Wc H ρ σ as) : St1 ⟨k, xa⟩ Wc H ρ σ as := ⟨h.sl.toX, h.nd, h.dj, h.wk⟩
theorem St1.less {K : Kx} {K' : Kx} {Wc : Addr → Prop} {H : Hp} {ρ ρ' : Rho} {σ σ' : L2.St} {as as' : List Addr} (h : St1 K Wc H ρ σ as) (e : Sl K' H (plus Wc as) ρ' σ' as') (n : as'.Nodup) (s : ∀ a ∈ as', a ∈ as) : St1 K' Wc H ρ' σ' as' :=
  ⟨e.keep (fun _ _ q _ => q) (fun a q => .inl (q.imp id (s a))) fun _ _ _ q => q, n, fun a m => h.dj a (s a m), fun a q => h.wk a (q.imp id (s a))⟩
theorem pss_ex {X : Cx} {α : Type} {st : List Stmt} {t : α → TS} {P : α → Prop} (h : ∀ x, P x → PSs X st (t x)) : PSs X st (fun D σ H => ∃ x, P x ∧ t x D σ H) := ⟨fun pins s σ H D I ⟨x, p, q⟩ => (h x p).run pins s σ H D I q⟩
theorem s_try {x nm : Str} {cv : Value} {i : Nat} {b : Ec} {body suite : List Stmt} {b₀ : Stmt} {np pos' : Pos} {tb ts : List T} (hs : X.stack = X.env :: X.outer) (hf : X.env.frame = some X.env.locals) (hN : X.N.Nodup) (hi : X.N[i]? = some nm) (hln : X.env.kindOf nm = some .local) (hc : Names X x cv) (tk : L2N.Takes X Wx)
    (hex : ∀ e, c.ecs.contains e = true → PySem.W.exmOne X.K (.ref (ea e)) cv = some (e.sub b))
    (hb : ∀ (W : WX) (pn : List (Addr × Obj)) (xe : Value → Shared → Prop), L2N.Takes (X.tr pn xe) W → PassesOwn (model X.prog X.w) X.A X.env xe → PSs (X.tr pn xe) body (tS (kx X none) ea W (exs c n tb)))
    (hsu : ∀ (a : Addr) (oe : Obj) (e : Ec) (pn : List (Addr × Obj)), c.ecs.contains e = true → L2N.Zn (.ref (ea e)) none oe → (∃ vs, oe.data = .fields vs) → PSs (X.suite a ((a, oe) :: pn)) (b₀ :: suite) (tS (kx X (some (false, a))) ea Wf (exs { c with ce := some e } n ts))) :
    PS X (.Try body [.ExceptHandler (some (.Name x np)) (some nm) (b₀ :: suite) pos'] [] [] pos) (tS (kx X none) ea Wx (ex c n (.tr tb [(b, some i, ts)]))) := by
  refine ps_imp (L2N.ps_try_as (ts := fun a cls d D σ H => ∃ e, (c.ecs.contains e = true ∧ cls = .ref (ea e) ∧ d = none) ∧ tS (kx X (some (false, a))) ea Wf (exs { c with ce := some e } n ts) D σ H) hs hf hN hi hln hc tk hb fun a oe cls d pn hz hfd => pss_ex fun e ⟨q1, q2, q3⟩ => by subst q2 q3; exact hsu a oe e pn q1 hz hfd) fun D σ H ⟨ρ, as, Wc, h, a⟩ => ?_
  simp only [ex] at a
  refine ⟨ρ, as, Wc, h, ?_⟩
  cases q : exs c n tb ρ with
  | nx ρ' => rw [q] at a; exact a
  | bk ρ' => rw [q] at a; exact a
  | ct ρ' => rw [q] at a; exact a
  | rt d => rw [q] at a; exact a
  | rk ρ' => rw [q] at a; exact a
  | st => rw [q] at a; exact a
  | er e ρ' =>
    rw [q] at a
    simp only [exh] at a
    intro σ' H' as' h' st
    split at a
    · rename_i ine
      refine ⟨e.sub b, hex e ine, fun hb' x hx => ?_, fun hb' => ?_⟩
      · rw [if_pos hb'] at a
        refine ⟨e, ⟨ine, rfl, rfl⟩, ?_⟩
        have hX : St1 (kx X (some (false, x))) Wc H' ρ' σ' as' := h'.toX
        obtain ⟨as2, e2, sp2⟩ := set_sl hX.sl (O.fz (F.exc (K := kx X (some (false, x))) rfl)) i
        have f0 : Fresh H' [] := fun _ m => nomatch m
        obtain ⟨h2, st2⟩ := hX.store (Same.refl _) f0 List.nodup_nil (e2.keep (fun _ _ q _ => q) (fun a q => .inl (plus_nil q)) fun _ _ _ q => q) sp2
        refine ⟨_, as2, Wc, h2, ?_⟩
        have st12 := st.trans st2
        cases q2 : exs { c with ce := some e } n ts (ρ'.set i (some .exc)) with
        | nx ρ3 =>
          rw [q2] at a
          intro σ3 H3 as3 h3 st3
          obtain ⟨as4, e4, s4⟩ := h3.sl.unX
          obtain ⟨as5, e5, s5, n5⟩ := set_none i e4
          have sub : ∀ a ∈ as5, a ∈ as3 := fun a m => s4.subset (s5 a m)
          exact a _ H3 as5 (h3.less e5 (n5 (s4.nodup h3.nd)) sub) ((st12.trans st3).trans ⟨fun _ _ e _ => e, fun a m => .inl (sub a m)⟩)
        | rt d =>
          rw [q2] at a
          simp only at a
          split at a
          · rename_i nx
            exact fun H3 v bs o n3 st3 => a H3 v bs (o.unX nx) n3 (st12.trans st3)
          · exact a.elim
        | bk ρ3 => rw [q2] at a; exact a.elim
        | ct ρ3 => rw [q2] at a; exact a.elim
        | er e3 ρ3 => rw [q2] at a; exact a.elim
        | rk ρ3 => rw [q2] at a; exact a.elim
        | st => rw [q2] at a; exact a.elim
      · rw [if_neg (by rw [hb']; decide)] at a
        exact a σ' H' as' h' st
    · exact a.elim
theorem ps_try_onlyN {X : Cx} {x : Str} {cv : Value} {body suite : List Stmt} {b₀ : Stmt} {np pos pos' : Pos} {tb : WX → TS} {ts : Addr → Value → Option Addr → TS} {Wout : WX} (hs : X.stack = X.env :: X.outer) (hf : X.env.frame = some X.env.locals) (hc : Names X x cv) (tk : L2N.Takes X Wout)
    (hb : ∀ (W : WX) (pn : List (Addr × Obj)) (xe : Value → Shared → Prop), L2N.Takes (X.tr pn xe) W → PassesOwn (model X.prog X.w) X.A X.env xe → PSs (X.tr pn xe) body (tb W))
    (hsu : ∀ (a : Addr) (oe : Obj) (cls : Value) (d : Option Addr) (pn : List (Addr × Obj)), L2N.Zn cls d oe → (∃ vs, oe.data = .fields vs) → PSs (X.suite a ((a, oe) :: pn)) (b₀ :: suite) (ts a cls d)) :
    PS X (.Try body [.ExceptHandler (some (.Name x np)) none (b₀ :: suite) pos'] [] [] pos) (fun D σ H => tb (wOnly X.K cv ts Wout D) D σ H) :=
  L2N.ps_try_many (l := [(cv, ts)]) hs hf tk hb (.cons hc hsu .nil)
theorem s_try0 {x : Str} {cv : Value} {b : Ec} {body suite : List Stmt} {b₀ : Stmt} {np pos' : Pos} {tb ts : List T} (hs : X.stack = X.env :: X.outer) (hf : X.env.frame = some X.env.locals) (hc : Names X x cv) (tk : L2N.Takes X Wx)
    (hex : ∀ e, c.ecs.contains e = true → PySem.W.exmOne X.K (.ref (ea e)) cv = some (e.sub b))
    (hb : ∀ (W : WX) (pn : List (Addr × Obj)) (xe : Value → Shared → Prop), L2N.Takes (X.tr pn xe) W → PassesOwn (model X.prog X.w) X.A X.env xe → PSs (X.tr pn xe) body (tS (kx X none) ea W (exs c n tb)))
    (hsu : ∀ (a : Addr) (oe : Obj) (pn : List (Addr × Obj)), PSs (X.suite a ((a, oe) :: pn)) (b₀ :: suite) (tS (kx X none) ea Wf (exs c n ts))) :
    PS X (.Try body [.ExceptHandler (some (.Name x np)) none (b₀ :: suite) pos'] [] [] pos) (tS (kx X none) ea Wx (ex c n (.tr tb [(b, none, ts)]))) := by
  refine ps_imp (ps_try_onlyN (ts := fun a cls d D σ H => tS (kx X none) ea Wf (exs c n ts) D σ H) hs hf hc tk hb fun a oe cls d pn hz hfd => hsu a oe pn) fun D σ H ⟨ρ, as, Wc, h, a⟩ => ?_
  simp only [ex] at a
  refine ⟨ρ, as, Wc, h, ?_⟩
  cases q : exs c n tb ρ with
  | nx ρ' => rw [q] at a; exact a
  | bk ρ' => rw [q] at a; exact a
  | ct ρ' => rw [q] at a; exact a
  | rt d => rw [q] at a; exact a
  | rk ρ' => rw [q] at a; exact a
  | st => rw [q] at a; exact a
  | er e ρ' =>
    rw [q] at a
    simp only [exh] at a
    intro σ' H' as' h' st
    split at a
    · rename_i ine
      refine ⟨e.sub b, hex e ine, fun hb' x hx => ?_, fun hb' => ?_⟩
      · rw [if_pos hb'] at a
        refine ⟨_, as', Wc, h', ?_⟩
        cases q2 : exs c n ts ρ' with
        | nx ρ3 => rw [q2] at a; exact AftO.step (o := .nx ρ3) a st
        | rt d => rw [q2] at a; exact AftO.step (o := .rt d) a st
        | bk ρ3 => rw [q2] at a; exact a.elim
        | ct ρ3 => rw [q2] at a; exact a.elim
        | er e3 ρ3 => rw [q2] at a; exact a.elim
        | rk ρ3 => rw [q2] at a; exact a.elim
        | st => rw [q2] at a; exact a.elim
      · rw [if_neg (by rw [hb']; decide)] at a
        exact a σ' H' as' h' st
    · exact a.elim
end

/-! ## 13c. Dicts whose keys are tuples -/
mutual
/-- no text within -/
def tl : NestedKey → Bool
  | .none => true | .num _ => true | .text _ => false | .tup ks => tls ks
def tls : List NestedKey → Bool
  | [] => true
  | k :: ks => tl k && tls ks
end
mutual
theorem hash_w (w w' : World) : ∀ {k : NestedKey}, tl k = true → k.hash w = k.hash w'
  | .none, _ => by simp only [NestedKey.hash]
  | .num _, _ => by simp only [NestedKey.hash]
  | .text _, h => by simp [tl] at h
  | .tup ks, h => by
    simp only [NestedKey.hash]
    rw [hashes_w w w' (by simpa only [tl] using h)]
theorem hashes_w (w w' : World) : ∀ {ks : List NestedKey}, tls ks = true → NestedKey.hashes w ks = NestedKey.hashes w' ks
  | [], _ => by simp only [NestedKey.hashes]
  | k :: ks, h => by
    simp only [tls, Bool.and_eq_true] at h
    simp only [NestedKey.hashes, hash_w w w' h.1, hashes_w w w' h.2]
end
mutual
theorem toN_tl : ∀ {d : D} {k : NestedKey}, toN d = some k → tl k = true
  | .int i, k, h => by simp only [toN, Option.some.injEq] at h; subst h; simp only [tl]
  | .tup ds, k, h => by
    simp only [toN, Option.map_eq_some_iff] at h
    obtain ⟨ks, h1, rfl⟩ := h
    simp only [tl]; exact toNs_tl h1
  | .non, _, h => by simp [toN] at h
  | .bl _, _, h => by simp [toN] at h
  | .str _, _, h => by simp [toN] at h
  | .lst _ _, _, h => by simp [toN] at h
  | .exc, _, h => by simp [toN] at h
  | .dct _ _ _ _, _, h => by simp [toN] at h
theorem toNs_tl : ∀ {ds : List D} {ks : List NestedKey}, toNs ds = some ks → tls ks = true
  | [], ks, h => by simp only [toNs, Option.some.injEq] at h; subst h; simp only [tls]
  | d :: ds, ks, h => by
    simp only [toNs] at h
    split at h
    · rename_i k ks' h1 h2
      cases h
      simp only [tls, toN_tl h1, toNs_tl h2, Bool.and_self]
    · cases h
end
mutual
theorem F.nest {P : Program} {w : World} {K : Kx} {H : Hp} {W : Addr → Prop} {h : Heap} (ok : HOk P w H h) (kin : K.k.In h) : ∀ {d : D} {v : V} {u : Value} {k : NestedKey}, F K H W d v → toN d = some k → RelV v u → NestedIs h k u
  | .int i, _, u, k, .int _, e, r => by
    simp only [toN, Option.some.injEq] at e
    subst e
    obtain ⟨t, rfl⟩ := r
    exact .int i t
  | .tup ds, _, u, k, .tup (a := a) hh n z q, e, r => by
    simp only [toN, Option.map_eq_some_iff] at e
    obtain ⟨ks, e, rfl⟩ := e
    obtain rfl : u = .ref a := r
    obtain ⟨_, its, rr, o, h1, h2, n, h3⟩ := (hh.ok ok : ObjOk P w H h a (.tup _))
    exact .tup h1 h2 h3 (by rw [List.toList_toArray]; exact Fs.nest ok kin q e rr)
  | .tup ds, _, u, k, .tupK (a := a) l c q z v r0, e, r => by
    simp only [toN, Option.map_eq_some_iff] at e
    obtain ⟨ks, e, rfl⟩ := e
    obtain rfl : u = .ref a := r
    exact .tup (kin _ _ l) c q (Fs.nest ok kin r0 e v)
  | .non, _, _, _, _, e, _ => by simp [toN] at e
  | .bl _, _, _, _, _, e, _ => by simp [toN] at e
  | .str _, _, _, _, _, e, _ => by simp [toN] at e
  | .lst _ _, _, _, _, _, e, _ => by simp [toN] at e
  | .exc, _, _, _, _, e, _ => by simp [toN] at e
  | .dct _ _ _ _, _, _, _, _, e, _ => by simp [toN] at e
theorem Fs.nest {P : Program} {w : World} {K : Kx} {H : Hp} {W : Addr → Prop} {h : Heap} (ok : HOk P w H h) (kin : K.k.In h) : ∀ {ds : List D} {vs : List V} {us : List Value} {ks : List NestedKey}, Fs K H W ds vs → toNs ds = some ks → Vals vs us → NestedAll h ks us
  | [], _, us, ks, .nil, e, r => by
    simp only [toNs, Option.some.injEq] at e
    subst e
    cases r
    exact .nil
  | d :: ds, _, us, ks, .cons q t, e, r => by
    simp only [toNs] at e
    split at e
    · rename_i k ks' h1 h2
      cases e
      cases r with
      | cons r1 r2 => exact .cons (F.nest ok kin q h1 r1) (Fs.nest ok kin t h2 r2)
    · cases e
end
abbrev XN := List (NestedKey × Addr × V)
abbrev KN : XN → List (NestedKey × Addr × Value) → Prop := Paired fun p q => p.1 = q.1 ∧ p.2.1 = q.2.1 ∧ RelV p.2.2 q.2.2
/-- a dict of that kind at a -/
structure Nd (K : Kx) (H : Hp) (a : Addr) (xs : XN) : Prop where
  h : H a = some (dnO a xs)
  z : xs.length ≤ sizeLine
  nd : (xs.map (·.1)).Nodup
  dp : ∀ x ∈ xs, x.1.depth ≤ 8
  key : ∃ ks W, toNs ks = some (xs.map (·.1)) ∧ Fs K H W ks (xs.map fun x => V.ref x.2.1)
def NKey (K : Kx) (H : Hp) (y : V) (k : NestedKey) (b : Addr) : Prop := y = .ref b ∧ k.depth ≤ 8 ∧ ∃ d W, F K H W d y ∧ toN d = some k
def findN (xs : XN) (k : NestedKey) : Option V := (xs.find? fun x => decide (x.1 = k)).map (·.2.2)
def putN (xs : XN) (k : NestedKey) (b : Addr) (v : V) : XN := if (findN xs k).isSome then xs.map (fun x => if x.1 = k then (x.1, x.2.1, v) else x) else xs ++ [(k, b, v)]
theorem KN.val {xs : XN} {ys : List (NestedKey × Addr × Value)} (r : KN xs ys) (k : NestedKey) : RelO (findN xs k) ((atKey ys k).map (·.2)) := by
  induction r with
  | nil => exact True.intro
  | @cons p q ps qs h t ih =>
    obtain ⟨h1, _, h2⟩ := h
    by_cases e : p.1 = k
    · have e' : q.1 = k := h1.symm.trans e
      have a : findN (p :: ps) k = some p.2.2 := by simp [findN, List.find?_cons, e]
      have b : atKey (q :: qs) k = some q.2 := by simp [atKey, List.find?_cons, e']
      rw [a, b]; exact h2
    · have e' : ¬ q.1 = k := fun z => e (h1.trans z)
      have a : findN (p :: ps) k = findN ps k := by simp [findN, List.find?_cons, e]
      have b : atKey (q :: qs) k = atKey qs k := by simp [atKey, List.find?_cons, e']
      rw [a, b]; exact ih
theorem KN.repl {xs : XN} {ys : List (NestedKey × Addr × Value)} (r : KN xs ys) (k : NestedKey) {y : V} {u : Value} (ry : RelV y u) : KN (xs.map fun x => if x.1 = k then (x.1, x.2.1, y) else x) (ys.map (putAt k u)) := by
  induction r with
  | nil => exact .nil
  | @cons p q ps qs h t ih =>
    rw [List.map_cons, List.map_cons]
    refine .cons ?_ ih
    obtain ⟨h1, h2, h3⟩ := h
    unfold putAt
    by_cases e : p.1 = k
    · rw [if_pos e, if_pos (h1.symm.trans e)]; exact ⟨h1, h2, ry⟩
    · rw [if_neg e, if_neg (fun z => e (h1.trans z))]; exact ⟨h1, h2, h3⟩
theorem KN.put {xs : XN} {ys : List (NestedKey × Addr × Value)} (r : KN xs ys) (k : NestedKey) (b : Addr) {y : V} {u : Value} (ry : RelV y u) : KN (putN xs k b y) (storedH ys k b u) := by
  have e : (findN xs k).isSome = (atKey ys k).isSome := by rw [(r.val k).isSome_eq, Option.isSome_map]
  unfold putN storedH
  rw [e]
  by_cases q : (atKey ys k).isSome = true
  · rw [if_pos q, if_pos q]; exact r.repl k ry
  · rw [if_neg q, if_neg q]; exact Paired.snoc r ⟨rfl, rfl, ry⟩
theorem KN.keys {xs : XN} {ys : List (NestedKey × Addr × Value)} (r : KN xs ys) : ys.map (·.1) = xs.map (·.1) := by
  induction r with
  | nil => rfl
  | cons h t ih => rw [List.map_cons, List.map_cons, ih, h.1]
theorem KN.nest {P : Program} {w : World} {K : Kx} {H : Hp} {W : Addr → Prop} {h : Heap} (ok : HOk P w H h) (kin : K.k.In h) {xs : XN} {ys : List (NestedKey × Addr × Value)} (r : KN xs ys) : ∀ {ks : List D}, toNs ks = some (xs.map (·.1)) → Fs K H W ks (xs.map fun x => V.ref x.2.1) → ∀ y ∈ ys, NestedIs h y.1 (.ref y.2.1) := by
  induction r with
  | nil => intro ks _ _ y m; cases m
  | @cons p q ps qs hp t ih =>
    intro ks e f y m
    rw [List.map_cons] at e f
    cases f with
    | cons f1 f2 =>
      simp only [toNs] at e
      split at e
      · rename_i k ks' h1 h2
        cases e
        rcases List.mem_cons.mp m with m | m
        · subst m
          rw [← hp.1, ← hp.2.1]
          exact F.nest ok kin f1 h1 rfl
        · exact ih h2 f2 y m
      · cases e
section
variable {X : Cx} {xa : Xa} {pins : List (Addr × Obj)} {σ : L2.St} {H : Hp} {s : Shared} {a b : Addr} {y v : V} {u r : Value} {o : Option V} {A : Around} {E : Value → Shared → Prop} {xs : XN} {k : NestedKey}
theorem Nd.of (n : Nd (kx X xa) H a xs) (I : Inv X pins σ H s) : (a == sysModules) = false ∧ ∃ ys, KN xs ys ∧ s.heap.DictOfH (nestedKind X.prog X.w) a ys := by
  obtain ⟨⟨hd, ys, rel, o, es, ep, h1, h2, h3, h4⟩, _⟩ := I.hok a _ n.h
  obtain ⟨ks, W, e, f⟩ := n.key
  refine ⟨hd, ys, rel, o, es, ep, h1, h2, h3, h4 X.w, fun q m => ⟨KN.nest I.hok I.kIn rel e f q m, ?_⟩, by rw [KN.keys rel]; exact n.nd⟩
  have : q.1 ∈ ys.map (·.1) := List.mem_map.mpr ⟨q, m, rfl⟩
  rw [KN.keys rel] at this
  obtain ⟨x, mx, ex⟩ := List.mem_map.mp this
  rw [← ex]
  exact n.dp x mx
theorem NKey.is (q : NKey (kx X xa) H y k b) (I : Inv X pins σ H s) : (nestedKind X.prog X.w).is s.heap k b := by
  obtain ⟨rfl, dp, d, W, f, e⟩ := q
  exact ⟨F.nest I.hok I.kIn f e rfl, dp⟩
theorem nd_room (hu : A.units + 65 < cLine) : (nestedKind X.prog X.w).room A.in1 := by
  show A.in1.units + 8 < cLine
  have : A.in1.units = A.units + 1 := rfl
  omega
theorem nd_typeIs (n : Nd (kx X xa) H a xs) (I : Inv X pins σ H s) : s.TypeIs (.ref a) "dict" := by
  obtain ⟨_, ys, _, dd⟩ := n.of I
  exact dd.typeIs
theorem nd_getItem {Q : Value → Shared → Prop} (hu : A.units + 65 < cLine) (I : Inv X pins σ H s) (n : Nd (kx X xa) H a xs) (q : NKey (kx X xa) H y k b) (ry : RelV y u) (hv : findN xs k = some v) (h : ∀ w' s', Inv X pins σ H s' → RelV v w' → Q w' s') :
    wpAny (model X.prog X.w) A (getItem (.ref a) u) Q E s := by
  obtain rfl : u = .ref b := by have := q.1; subst this; exact ry
  obtain ⟨_, ys, rel, dd⟩ := n.of I
  obtain ⟨w', hw, rw'⟩ := RelO.some_of (v := v) (o := (atKey ys k).map (·.2)) (by rw [← hv]; exact rel.val k)
  obtain ⟨p, hp, hp2⟩ := Option.map_eq_some_iff.mp hw
  refine wpAny_getItem_heap (nd_room hu) (q.is I) dd hp ?_
  rw [hp2]
  exact h w' _ (I.tok _) rw'
theorem nd_in {Q : Value → Shared → Prop} (hu : A.units + 65 < cLine) (I : Inv X pins σ H s) (n : Nd (kx X xa) H a xs) (q : NKey (kx X xa) H y k b) (ry : RelV y u) (h : ∀ s', Inv X pins σ H s' → Q (.bool (findN xs k).isSome) s') :
    wpAny (model X.prog X.w) A (compareOp .In u (.ref a)) Q E s := by
  obtain rfl : u = .ref b := by have := q.1; subst this; exact ry
  obtain ⟨hd, ys, rel, dd⟩ := n.of I
  refine wpAny_in_heap (nd_room hu) (q.is I) hd dd ?_
  have e : (atKey ys k).isSome = (findN xs k).isSome := by rw [(rel.val k).isSome_eq, Option.isSome_map]
  rw [e]
  exact h _ (I.tok _)
theorem nd_notIn {Q : Value → Shared → Prop} (hu : A.units + 65 < cLine) (I : Inv X pins σ H s) (n : Nd (kx X xa) H a xs) (q : NKey (kx X xa) H y k b) (ry : RelV y u) (h : ∀ s', Inv X pins σ H s' → Q (.bool (!(findN xs k).isSome)) s') :
    wpAny (model X.prog X.w) A (compareOp .NotIn u (.ref a)) Q E s := by
  obtain rfl : u = .ref b := by have := q.1; subst this; exact ry
  obtain ⟨hd, ys, rel, dd⟩ := n.of I
  refine notIn_keyed (knd := nestedKind X.prog X.w) (nd_room hu) (q.is I) hd ⟨_, dd, rfl⟩ ?_
  rw [valueAt_pairsH, Option.isSome_map]
  have e : (atKey ys k).isSome = (findN xs k).isSome := by rw [(rel.val k).isSome_eq, Option.isSome_map]
  rw [e]
  exact h _ (I.tok _)
/-- what stands at the new object -/
theorem dn_new {P : Program} {w : World} {H' : Hp} {h' : Heap} {ys : List (NestedKey × Addr × Value)} (hd : (a == sysModules) = false) (rel : KN xs ys) (tlx : tls (xs.map (·.1)) = true) (dd : h'.DictOfH (nestedKind P w) a ys) : ObjOk P w H' h' a (dnO a xs) := by
  obtain ⟨o, es, ep, h1, h2, h3, h4, _, _⟩ := dd
  refine ⟨⟨hd, ys, rel, o, es, ep, h1, h2, h3, fun w' => ?_⟩, ⟨o, h1⟩, ?_⟩
  · rw [h4]
    have tly : tls (ys.map (·.1)) = true := by rw [KN.keys rel]; exact tlx
    have : ∀ {ys : List (NestedKey × Addr × Value)}, tls (ys.map (·.1)) = true → ys.map (entryOfKey (nestedKind P w)) = ys.map fun y => (⟨y.1.hash w', .ref y.2.1, y.2.2⟩ : DictEntry) := by
      intro ys
      induction ys with
      | nil => intro _; rfl
      | cons q qs ih =>
        intro t
        simp only [List.map_cons, tls, Bool.and_eq_true] at t
        rw [List.map_cons, List.map_cons, ih t.2]
        congr 1
        show (⟨q.1.hash w, .ref q.2.1, q.2.2⟩ : DictEntry) = _
        rw [hash_w w w' t.1]
    exact this tly
  · rintro g1 g2 ⟨hd, ys, rel, o, es, ep, h1, h2, h3, h4⟩ k
    exact ⟨hd, ys, rel, o, es, ep, k o h1, h2, h3, h4⟩
theorem tls_put {b : Addr} {v : V} (tx : tls (xs.map (·.1)) = true) (tk : tl k = true) : tls ((putN xs k b v).map (·.1)) = true := by
  unfold putN
  split
  · have : (xs.map fun x => if x.1 = k then (x.1, x.2.1, v) else x).map (·.1) = xs.map (·.1) := by
      rw [List.map_map]
      refine List.map_congr_left fun q _ => ?_
      show (if q.1 = k then (q.1, q.2.1, v) else q).1 = q.1
      split <;> rfl
    rw [this]; exact tx
  · have app : ∀ {a b : List NestedKey}, tls (a ++ b) = (tls a && tls b) := by
      intro a b
      induction a with
      | nil => simp [tls]
      | cons x a ih => simp [tls, ih, Bool.and_assoc]
    rw [List.map_append, app, tx]
    simp [tls, tk]
theorem nd_setItem {Q : Unit → Shared → Prop} (hu : A.units + 65 < cLine) (I : Inv X pins σ H s) (n : Nd (kx X xa) H a xs) (q : NKey (kx X xa) H y k b) (ry : RelV y u) (rv : RelV v r) (lim : xs.length < sizeLine) (h : ∀ s', Inv X pins σ (upd H a (dnO a (putN xs k b v))) s' → Q () s') :
    wpAny (model X.prog X.w) A (setItem (.ref a) u r) Q E s := by
  obtain rfl : u = .ref b := by have := q.1; subst this; exact ry
  obtain ⟨hd, ys, rel, dd⟩ := n.of I
  have hz : ys.length ≤ sizeLine := by rw [← Paired.length rel]; omega
  refine wpAny_setItem_heap (hsz := hz) (nd_room hu) (q.is I) dd fun h' dd' hs => h _ ?_
  obtain ⟨o, es, ep, h1, _⟩ := id dd'
  obtain ⟨ks, W, e, _⟩ := n.key
  obtain ⟨_, _, d, _, _, ed⟩ := q
  exact d_write I (by rw [n.h]; exact True.intro) hs ⟨o, h1⟩ (dn_new hd (rel.put k b rv) (tls_put (toNs_tl e) (toN_tl ed)) dd')
theorem nd_len {Q : Value → Shared → Prop} (I : Inv X pins σ H s) (n : Nd (kx X xa) H a xs) (h : ∀ t s', Inv X pins σ H s' → Q (.int xs.length t) s') : wpAny (model X.prog X.w) A (call (.builtin "len") [.ref a]) Q E s := by
  obtain ⟨hd, ys, rel, dd⟩ := n.of I
  have hl : ys.length = xs.length := (Paired.length rel).symm
  have pl : (pairsH ys).length = xs.length := by rw [← hl]; simp [pairsH]
  have hm : s.heap.DictKeyed (nestedKind X.prog X.w) a (pairsH ys) := ⟨_, dd, rfl⟩
  have z := n.z
  rw [sizeLine_eq] at z
  refine PyProof.Rows.call_len_slot (n := (pairsH ys).length) hm.typeIs PySem.F.slot_dict_len (fun Q' hq => len_keyed hd hm hq) (by omega) (by omega) ?_
  rw [pl]
  exact h _ _ (I.tok _)
end
section
variable {K : Kx} {H : Hp} {W : Addr → Prop}
mutual
theorem deq_toN : ∀ {a b : D} {x y : NestedKey}, toN a = some x → toN b = some y → deq a b = decide (x = y)
  | .int i, .int j, x, y, h, h' => by
    simp only [toN, Option.some.injEq] at h h'
    subst h h'
    unfold deq
    simp only [toPy, PyData.eqv]
    rw [Bool.eq_iff_iff]; simp
  | .int i, .tup ds, x, y, h, h' => by
    simp only [toN, Option.some.injEq, Option.map_eq_some_iff] at h h'
    obtain ⟨ks, _, rfl⟩ := h'
    subst h
    unfold deq
    simp [toPy, PyData.eqv]
  | .tup ds, .int i, x, y, h, h' => by
    simp only [toN, Option.some.injEq, Option.map_eq_some_iff] at h h'
    obtain ⟨ks, _, rfl⟩ := h
    subst h'
    unfold deq
    simp [toPy, PyData.eqv]
  | .tup ds, .tup es, x, y, h, h' => by
    simp only [toN, Option.map_eq_some_iff] at h h'
    obtain ⟨ks, h, rfl⟩ := h
    obtain ⟨js, h', rfl⟩ := h'
    have := deqs_toN h h'
    unfold deq
    simp only [toPy, PyData.eqv]
    rw [this, Bool.eq_iff_iff]; simp
  | .non, _, _, _, h, _ => by simp [toN] at h
  | .bl _, _, _, _, h, _ => by simp [toN] at h
  | .str _, _, _, _, h, _ => by simp [toN] at h
  | .lst _ _, _, _, _, h, _ => by simp [toN] at h
  | .exc, _, _, _, h, _ => by simp [toN] at h
  | .dct _ _ _ _, _, _, _, h, _ => by simp [toN] at h
  | .int _, .non, _, _, _, h => by simp [toN] at h
  | .int _, .bl _, _, _, _, h => by simp [toN] at h
  | .int _, .str _, _, _, _, h => by simp [toN] at h
  | .int _, .lst _ _, _, _, _, h => by simp [toN] at h
  | .int _, .exc, _, _, _, h => by simp [toN] at h
  | .int _, .dct _ _ _ _, _, _, _, h => by simp [toN] at h
  | .tup _, .non, _, _, _, h => by simp [toN] at h
  | .tup _, .bl _, _, _, _, h => by simp [toN] at h
  | .tup _, .str _, _, _, _, h => by simp [toN] at h
  | .tup _, .lst _ _, _, _, _, h => by simp [toN] at h
  | .tup _, .exc, _, _, _, h => by simp [toN] at h
  | .tup _, .dct _ _ _ _, _, _, _, h => by simp [toN] at h
theorem deqs_toN : ∀ {ds es : List D} {ks js : List NestedKey}, toNs ds = some ks → toNs es = some js → PyData.eqvAll (toPys ds) (toPys es) = decide (ks = js)
  | [], [], ks, js, h, h' => by
    simp only [toNs, Option.some.injEq] at h h'
    subst h h'
    simp [toPys, PyData.eqvAll]
  | [], e :: es, ks, js, h, h' => by
    simp only [toNs, Option.some.injEq] at h h'
    subst h
    split at h'
    · cases h'; simp [toPys, PyData.eqvAll]
    · cases h'
  | d :: ds, [], ks, js, h, h' => by
    simp only [toNs, Option.some.injEq] at h h'
    subst h'
    split at h
    · cases h; simp [toPys, PyData.eqvAll]
    · cases h
  | d :: ds, e :: es, ks, js, h, h' => by
    simp only [toNs] at h h'
    split at h
    · rename_i k ks' h1 h2
      cases h
      split at h'
      · rename_i j js' h3 h4
        cases h'
        have a := deq_toN h1 h3
        have b := deqs_toN h2 h4
        unfold deq at a
        simp only [toPys, PyData.eqvAll, a, b]
        rw [Bool.eq_iff_iff]; simp
      · cases h'
    · cases h
end
theorem toNs_cons {d : D} {ds : List D} {k : NestedKey} {ks : List NestedKey} (h : toNs (d :: ds) = some (k :: ks)) : toN d = some k ∧ toNs ds = some ks := by
  simp only [toNs] at h
  split at h
  · rename_i h1 h2
    cases h
    exact ⟨h1, h2⟩
  · cases h
theorem toNs_ne {ds : List D} {k : NestedKey} {ks : List NestedKey} (h : toNs ds = some (k :: ks)) : ∃ d es, ds = d :: es := by
  cases ds with
  | nil => simp [toNs] at h
  | cons d es => exact ⟨d, es, rfl⟩
theorem findN_pos {p : NestedKey × Addr × V} {xs : XN} {k : NestedKey} (e : p.1 = k) : findN (p :: xs) k = some p.2.2 := by simp [findN, List.find?_cons, e]
theorem findN_neg {p : NestedKey × Addr × V} {xs : XN} {k : NestedKey} (e : ¬ p.1 = k) : findN (p :: xs) k = findN xs k := by simp [findN, List.find?_cons, e]
theorem putN_pos {p : NestedKey × Addr × V} {xs : XN} {k : NestedKey} {b : Addr} {v : V} (nd : ((p :: xs).map (·.1)).Nodup) (e : p.1 = k) : putN (p :: xs) k b v = (p.1, p.2.1, v) :: xs := by
  unfold putN
  rw [findN_pos e]
  simp only [Option.isSome_some, if_true, List.map_cons, if_pos e]
  congr 1
  rw [List.map_cons, List.nodup_cons] at nd
  refine (List.map_congr_left fun q hq => ?_).trans (List.map_id _)
  rw [if_neg]
  · rfl
  · intro z
    exact nd.1 (by rw [e, ← z]; exact List.mem_map.mpr ⟨q, hq, rfl⟩)
theorem putN_neg {p : NestedKey × Addr × V} {xs : XN} {k : NestedKey} {b : Addr} {v : V} (e : ¬ p.1 = k) : putN (p :: xs) k b v = p :: putN xs k b v := by
  unfold putN
  rw [findN_neg e]
  split
  · rw [List.map_cons, if_neg e]
  · rfl
theorem getN_val {yd : D} {k : NestedKey} (hy : toN yd = some k) : ∀ {xs : XN} {ks vs : List D}, toNs ks = some (xs.map (·.1)) → Fs K H W vs (xs.map (·.2.2)) → (getK ks vs yd).isSome = (findN xs k).isSome ∧ ∀ d, getK ks vs yd = some d → ∃ v, findN xs k = some v ∧ F K H W d v
  | [], ks, vs, e, r => by
    have : ks = [] := by
      cases ks with
      | nil => rfl
      | cons d ds => simp only [toNs] at e; split at e <;> cases e
    subst this
    exact ⟨by simp [getK, findN], fun d h => by simp [getK] at h⟩
  | p :: xs, ks, vs, e, r => by
    rw [List.map_cons] at e r
    obtain ⟨kd, ks, rfl⟩ := toNs_ne e
    obtain ⟨e1, e2⟩ := toNs_cons e
    cases r with
    | cons h t =>
      obtain ⟨ih1, ih2⟩ := getN_val hy e2 t
      simp only [getK, deq_toN e1 hy]
      by_cases q : p.1 = k
      · rw [findN_pos q, decide_eq_true q]
        exact ⟨rfl, fun d z => by cases z; exact ⟨_, rfl, h⟩⟩
      · rw [findN_neg q, decide_eq_false q]
        exact ⟨ih1, ih2⟩
theorem putN_all {yd d : D} {k : NestedKey} {b : Addr} {v : V} (hy : toN yd = some k) (fy : F K H W yd (.ref b)) (fd : F K H W d v) (dk : k.depth ≤ 8) : ∀ {xs : XN} {ks vs : List D}, toNs ks = some (xs.map (·.1)) → Fs K H W ks (xs.map fun x => V.ref x.2.1) → Fs K H W vs (xs.map (·.2.2)) → (xs.map (·.1)).Nodup → (∀ x ∈ xs, x.1.depth ≤ 8) →
    toNs (putKs ks yd) = some ((putN xs k b v).map (·.1)) ∧ Fs K H W (putKs ks yd) ((putN xs k b v).map fun x => V.ref x.2.1) ∧ Fs K H W (putVs ks vs yd d) ((putN xs k b v).map (·.2.2)) ∧ ((putN xs k b v).map (·.1)).Nodup ∧ (∀ x ∈ putN xs k b v, x.1.depth ≤ 8) ∧ (∀ j, j ∈ (putN xs k b v).map (·.1) → j = k ∨ j ∈ xs.map (·.1)) ∧ (putN xs k b v).length ≤ xs.length + 1
  | [], ks, vs, e, rk, r, nd, dp => by
    have : ks = [] := by
      cases ks with
      | nil => rfl
      | cons d ds => simp only [toNs] at e; split at e <;> cases e
    subst this
    have h1 : putN [] k b v = [(k, b, v)] := rfl
    rw [h1]
    exact ⟨by simp [putKs, toNs, hy], .cons fy .nil, .cons fd .nil, List.nodup_cons.mpr ⟨fun m => (by cases m), List.nodup_nil⟩, fun x m => by rw [List.mem_singleton.mp m]; exact dk, fun j m => .inl (List.mem_singleton.mp m), by simp⟩
  | p :: xs, ks, vs, e, rk, r, nd, dp => by
    have nd0 := nd
    rw [List.map_cons] at e rk r nd
    obtain ⟨kd, ks, rfl⟩ := toNs_ne e
    obtain ⟨e1, e2⟩ := toNs_cons e
    rw [List.nodup_cons] at nd
    cases rk with
    | cons hk tk =>
      cases r with
      | cons h t =>
        by_cases q : p.1 = k
        · rw [putN_pos nd0 q]
          simp only [putKs, putVs, deq_toN e1 hy, decide_eq_true q, if_true, List.map_cons]
          exact ⟨e, .cons hk tk, .cons fd t, List.nodup_cons.mpr nd, fun x m => by
            rcases List.mem_cons.mp m with m | m
            · rw [m]; exact dp p List.mem_cons_self
            · exact dp x (List.mem_cons_of_mem _ m), fun j m => .inr m, by simp⟩
        · rw [putN_neg q]
          obtain ⟨i1, i2, i3, i4, i5, i6, i7⟩ := putN_all hy fy fd dk e2 tk t nd.2 fun x m => dp x (List.mem_cons_of_mem _ m)
          simp only [putKs, putVs, deq_toN e1 hy, decide_eq_false q, List.map_cons]
          refine ⟨?_, .cons hk i2, .cons h i3, List.nodup_cons.mpr ⟨fun m => ?_, i4⟩, fun x m => ?_, fun j m => ?_, by simp; omega⟩
          · simp only [Bool.false_eq_true, if_false, toNs, e1, i1]
          · rcases i6 _ m with z | z
            · exact q z
            · exact nd.1 z
          · rcases List.mem_cons.mp m with m | m
            · rw [m]; exact dp p List.mem_cons_self
            · exact i5 x m
          · rcases List.mem_cons.mp m with m | m
            · exact .inr (by rw [m]; exact List.mem_cons_self)
            · exact (i6 j m).imp id (List.mem_cons_of_mem _)
/-- a dict as it is read -/
theorem E.dn' {o : Ow} {ks vs : List D} {v : V} {bs : List Addr} (hb : ∀ b ∈ bs, ¬ W b) (h : E K H (plus W bs) (.dct o true ks vs) v bs) : ∃ a xs, v = .ref a ∧ Nd K H a xs ∧ toNs ks = some (xs.map (·.1)) ∧ Fs K H W ks (xs.map fun x => V.ref x.2.1) ∧ Fs K H W vs (xs.map (·.2.2)) := by
  have dn : ∀ {a : Addr} {xs : XN} {W' : Addr → Prop}, (∀ b, W b → W' b) → H a = some (dnO a xs) → xs.length ≤ sizeLine → (xs.map (·.1)).Nodup → (∀ x ∈ xs, x.1.depth ≤ 8) → toNs ks = some (xs.map (·.1)) → Fs K H W' ks (xs.map fun x => V.ref x.2.1) → Fs K H W' vs (xs.map (·.2.2)) →
      ∃ a' xs', V.ref a = .ref a' ∧ Nd K H a' xs' ∧ toNs ks = some (xs'.map (·.1)) ∧ Fs K H W ks (xs'.map fun x => V.ref x.2.1) ∧ Fs K H W vs (xs'.map (·.2.2)) :=
    fun sub h z nd dp e rk r => ⟨_, _, rfl, ⟨h, z, nd, dp, ks, _, e, rk⟩, e, rk.keep (fun _ _ q _ => q) fun a q => .inl (sub a q), r.keep (fun _ _ q _ => q) fun a q => .inl (sub a q)⟩
  cases h with
  | o h =>
    cases h with
    | fz h => cases h with
      | dn h n z nd dp e rk r => exact dn (fun _ q => .inl q) h z nd dp e rk r
    | dn h z nd dp e rk r => exact dn (fun _ q => .inl q) h z nd dp e rk r
  | dn h z nd dp e rk r => exact dn (fun _ q => .inl q) h z nd dp e rk r
theorem key_N {y : D} {vy : V} {bs : List Addr} {W' : Addr → Prop} (ok : keyOk true y = true) (h : E K H W' y vy bs) : ∃ k b, toN y = some k ∧ k.depth ≤ 8 ∧ NKey K H vy k b ∧ (∀ {W : Addr → Prop}, (∀ a, W a → W' a) → F K H W y (.ref b)) := by
  cases y with
  | tup ds =>
    simp only [keyOk] at ok
    split at ok
    · rename_i ks hk
      have ok := of_decide_eq_true ok
      cases h with
      | o h =>
        cases h with
        | fz f =>
          obtain ⟨b, vs, rfl, _⟩ := f.t
          have e : toN (.tup ds) = some (.tup ks) := by simp [toN, hk]
          exact ⟨_, b, e, ok, ⟨rfl, ok, _, _, f, e⟩, fun sub => f.keep (fun _ _ q _ => q) fun a q => .inl (sub a q)⟩
    · cases ok
  | _ => simp [keyOk] at ok
end


theorem toNs_len : ∀ {ds : List D} {ks : List NestedKey}, toNs ds = some ks → ds.length = ks.length
  | [], ks, h => by simp only [toNs, Option.some.injEq] at h; subst h; rfl
  | d :: ds, ks, h => by
    simp only [toNs] at h
    split at h
    · rename_i h1 h2
      cases h
      simp [toNs_len h2]
    · cases h
theorem Nd.keep {K : Kx} {H H' : Hp} {a : Addr} {xs : XN} (n : Nd K H a xs) (s : Same H H') : Nd K H' a xs := by
  obtain ⟨h, z, nd, dp, ks, W, e, f⟩ := n
  exact ⟨s _ _ h, z, nd, dp, ks, W, e, f.keep (fun a o e _ => s a o e) fun _ q => .inl q⟩
theorem NKey.keep {K : Kx} {H H' : Hp} {y : V} {k : NestedKey} {b : Addr} (q : NKey K H y k b) (s : Same H H') : NKey K H' y k b := by
  obtain ⟨h, dp, d, W, f, e⟩ := q
  exact ⟨h, dp, d, W, f.keep (fun a o e _ => s a o e) fun _ q => .inl q, e⟩
/-- what a dict of either kind answers -/
def DGetN (K : Kx) (H : Hp) (a : Addr) (y : V) (o : Option V) : Prop := DGet H a y o ∨ ∃ xs k b, Nd K H a xs ∧ NKey K H y k b ∧ o = findN xs k
def tDGetN (K : Kx) (td ty : TE) : TE := fun σ H Q => td σ H fun x H1 => ty σ H1 fun y H2 => ∃ a v, x = .ref a ∧ DGetN K H2 a y (some v) ∧ Q v H2
def tDInN (K : Kx) (ty td : TE) : TE := fun σ H Q => ty σ H fun y H1 => td σ H1 fun x H2 => ∃ a o, x = .ref a ∧ DGetN K H2 a y o ∧ Q (.bl o.isSome) H2
def tDNotInN (K : Kx) (ty td : TE) : TE := fun σ H Q => ty σ H fun y H1 => td σ H1 fun x H2 => ∃ a o, x = .ref a ∧ DGetN K H2 a y o ∧ Q (.bl (!o.isSome)) H2
def rSetN (K : Kx) : TSet := fun o i v H Q => ∃ a H', o = .ref a ∧ (DPut H a i v H' ∨ ∃ xs k b, Nd K H a xs ∧ NKey K H i k b ∧ xs.length < sizeLine ∧ H' = upd H a (dnO a (putN xs k b v))) ∧ Q H'
section
variable {X : Cx} {xa : Xa} {o i e value : Expr} {pos pos' tpos : Pos} {td ty tv : TE}
theorem pe_dgetN (hu : X.A.units + 65 < cLine) (ho : PE X o td) (hi : PE X i ty) (hs : NoSl i) : PE X (.Subscript o i pos) (tDGetN (kx X xa) td ty) := by
  refine ⟨fun pins s σ H Q I h => ?_⟩
  refine subD_of PySem.F.slot_dict_getitem.lookup hs (thn (ho.run pins s σ H _ I h) fun u s1 ⟨x, H1, I1, rx, q1⟩ => thn (hi.run pins s1 σ H1 _ I1 q1) fun iv s2 ⟨y, H2, I2, ry, a, v, ex, g, q2⟩ => ?_)
  subst ex
  obtain rfl : u = Value.ref a := rx
  rcases g with g | ⟨xs, k, b, n, q, e⟩
  · exact ⟨dict_typeIs I2 g, d_getItem (by omega) I2 g ry fun w' s3 I3 rw' => ⟨v, H2, I3, rw', q2⟩⟩
  · exact ⟨nd_typeIs n I2, nd_getItem hu I2 n q ry e.symm fun w' s3 I3 rw' => ⟨v, H2, I3, rw', q2⟩⟩
theorem pc_dinN' (hu : X.A.units + 65 < cLine) (hi : PE X i ty) (ho : PE X o td) : PC X .In i o (tDInN (kx X xa) ty td) := by
  refine ⟨fun pins s σ H Q I h => ?_⟩
  refine thn (hi.run pins s σ H _ I h) fun iv s1 ⟨y, H1, I1, ry, q1⟩ => thn (ho.run pins s1 σ H1 _ I1 q1) fun u s2 ⟨x, H2, I2, rx, a, ov, ex, g, q2⟩ => ?_
  subst ex
  obtain rfl : u = Value.ref a := rx
  rcases g with g | ⟨xs, k, b, n, q, e⟩
  · exact d_in (by omega) I2 g ry fun s3 I3 => ⟨.bl ov.isSome, H2, I3, rfl, q2⟩
  · subst e
    exact nd_in hu I2 n q ry fun s3 I3 => ⟨.bl (findN xs k).isSome, H2, I3, rfl, q2⟩
theorem pc_dnotinN' (hu : X.A.units + 65 < cLine) (hi : PE X i ty) (ho : PE X o td) : PC X .NotIn i o (tDNotInN (kx X xa) ty td) := by
  refine ⟨fun pins s σ H Q I h => ?_⟩
  refine thn (hi.run pins s σ H _ I h) fun iv s1 ⟨y, H1, I1, ry, q1⟩ => thn (ho.run pins s1 σ H1 _ I1 q1) fun u s2 ⟨x, H2, I2, rx, a, ov, ex, g, q2⟩ => ?_
  subst ex
  obtain rfl : u = Value.ref a := rx
  rcases g with g | ⟨xs, k, b, n, q, e⟩
  · exact d_notIn (by omega) I2 g ry fun s3 I3 => ⟨.bl (!ov.isSome), H2, I3, rfl, q2⟩
  · subst e
    exact nd_notIn hu I2 n q ry fun s3 I3 => ⟨.bl (!(findN xs k).isSome), H2, I3, rfl, q2⟩
theorem set_dictN (hu : X.A.units + 65 < cLine) : PSet X (rSetN (kx X xa)) := by
  intro pins s σ H o i v ov iv u Q I ro ri rv h
  obtain ⟨a, H', eo, g, q⟩ := h
  subst eo
  cases (show ov = Value.ref a from ro)
  rcases g with g | ⟨xs, k, b, n, qk, l, e⟩
  · exact d_setItem (by omega) I g ri rv fun s' I' => ⟨H', I', q⟩
  · subst e
    exact nd_setItem hu I n qk ri rv l fun s' I' => ⟨_, I', q⟩
theorem call_lenN : CallR X (.builtin "len") (fun xs H Q => ∃ a, xs = [V.ref a] ∧ ((∃ kvs, H a = some (.dK kvs) ∧ Q (.int kvs.length) H) ∨ ∃ ys, Nd (kx X xa) H a ys ∧ Q (.int ys.length) H)) := by
  intro pins s σ H xs us Q I r h
  obtain ⟨a, rfl, h⟩ := h
  obtain ⟨u, rfl, ru⟩ := vals1 r
  cases ru
  rcases h with ⟨kvs, ha, q⟩ | ⟨ys, n, q⟩
  · exact d_len I (.inl ha) fun t s' I' => ⟨.int kvs.length, H, I', ⟨t, rfl⟩, q⟩
  · exact nd_len I n fun t s' I' => ⟨.int ys.length, H, I', ⟨t, rfl⟩, q⟩
/-! a display -/
theorem dn_empty {P : Program} {w : World} {H : Hp} (h : Heap) (hb : sysModules < h.objs.size) : ObjOk P w H (h.push { cls := .type "dict", data := .dict #[] }) h.objs.size (dnO h.objs.size []) :=
  dn_new (beq_eq_false_iff_ne.mpr (Ne.symm (Nat.ne_of_lt hb))) .nil rfl ⟨_, #[], 0, Heap.get?_push_size _ rfl, ⟨rfl, rfl, rfl⟩, rfl, rfl, (fun x m => nomatch m), List.nodup_nil⟩
theorem pe_dnewN : PE X (.Dict [] [] pos) (fun _ H Q => ∀ p, H p = none → Q (.ref p) (upd H p (dnO p []))) := ⟨fun pins s σ H Q I h =>
  wpAny_Dict_empty ⟨.ref s.heap.objs.size, _, I.laid (a := s.heap.objs.size) (o := dnO s.heap.objs.size []) (t' := s.toks) (fun _ _ q => Heap.get?_push_of_some _ q) (Nat.le_refl _) (dn_empty s.heap I.big), rfl, h _ (I.hok.fresh (Nat.le_refl _))⟩⟩
def mergeN (xs more : XN) : XN := more.foldl (fun acc x => putN acc x.1 x.2.1 x.2.2) xs
theorem KN.merge : ∀ {more : XN} {rs : List (NestedKey × Addr × Value)} {xs : XN} {vs : List (NestedKey × Addr × Value)}, KN more rs → KN xs vs → KN (mergeN xs more) (storedAllH vs rs) := by
  intro more rs xs vs r
  unfold KN at r
  induction r generalizing xs vs with
  | nil => intro q; exact q
  | @cons p q ps qs h t ih =>
    intro r0
    have e : KN (putN xs p.1 p.2.1 p.2.2) (storedH vs q.1 q.2.1 q.2.2) := by
      have := r0.put p.1 p.2.1 h.2.2
      rw [← h.1, ← h.2.1]; exact this
    exact ih e
theorem tls_merge : ∀ {more xs : XN}, tls (xs.map (·.1)) = true → (∀ x ∈ more, tl x.1 = true) → tls ((mergeN xs more).map (·.1)) = true
  | [], xs, h, _ => h
  | p :: r, xs, h, m => tls_merge (more := r) (tls_put h (m p List.mem_cons_self)) fun x q => m x (List.mem_cons_of_mem _ q)
theorem carries_N {pins : List (Addr × Obj)} {σ : L2.St} {H : Hp} {s : Shared} (I : Inv X pins σ H s) : ∀ {xs : XN} {ws : List (Value × Value)}, VV (xs.map fun x => (V.ref x.2.1, x.2.2)) ws → (∀ x ∈ xs, NKey (kx X xa) H (.ref x.2.1) x.1 x.2.1) → ∃ rs, CarriesH (nestedKind X.prog X.w) s.heap ws rs ∧ KN xs rs
  | [], _, r, _ => by rw [List.map_nil] at r; cases r; exact ⟨[], True.intro, .nil⟩
  | p :: xs, _, r, m => by
    rw [List.map_cons] at r
    cases r with
    | @cons a b as bs h t =>
      obtain ⟨rs, c, q⟩ := carries_N I t fun x q => m x (List.mem_cons_of_mem _ q)
      obtain ⟨b1, b2⟩ := b
      have e : b1 = .ref p.2.1 := h.1
      exact ⟨(p.1, p.2.1, b2) :: rs, ⟨e, rfl, (m p List.mem_cons_self).is I, c⟩, .cons ⟨rfl, rfl, h.2⟩ q⟩
def tDispN (K : Kx) (trs : List (TE × TE)) : TE := fun σ H Q => ∀ p, H p = none → tPairs trs σ (upd H p (dnO p [])) fun ps H2 => H2 p = some (dnO p []) ∧ ∃ xs : XN, ps = xs.map (fun x => (V.ref x.2.1, x.2.2)) ∧ xs.length ≤ 15 ∧ (∀ x ∈ xs, NKey K H2 (.ref x.2.1) x.1 x.2.1) ∧ Q (.ref p) (upd H2 p (dnO p (mergeN [] xs)))
theorem pe_dispN (hu : X.A.units + 65 < cLine) {keys : List (Option Expr)} {values : List Expr} {trs : List (TE × TE)} (h : PPs X pos keys values trs) (hall : keys.all (·.isSome) = true) (hl : keys.length = values.length) (h0 : keys ≠ [])
    (h15 : keys.length ≤ 15) : PE X (.Dict keys values pos) (tDispN (kx X xa) trs) := by
  refine ⟨fun pins s σ H Q I q => ?_⟩
  have hn := I.hok.fresh (Nat.le_refl s.heap.objs.size)
  have I1 := I.laid (a := s.heap.objs.size) (o := dnO s.heap.objs.size []) (h' := s.heap.push { cls := .type "dict", data := .dict #[] }) (t' := s.toks) (fun _ _ q => Heap.get?_push_of_some _ q) (Nat.le_refl _) (dn_empty s.heap I.big)
  have hlen := pairTrees_length keys values X.env pos hall hl
  have h0' : pairTrees keys values X.env pos ≠ [] := by
    intro he
    rw [he] at hlen
    exact h0 (List.length_eq_zero_iff.mp hlen.symm)
  rw [arm_eval_Dict, zip_pairTrees keys values X.env pos hall hl, dictDisplay_pairs _ h0' (by rw [hlen]; omega)]
  refine wpAny_bind (wpAny_standAt (wpAny_bind (wpAny_subDictH (knd := nestedKind X.prog X.w) (Q := fun d s' => wpAny (model X.prog X.w) X.A (pure (Value.ref d)) (fun v s' => ∃ x H', Inv X pins σ H' s' ∧ RelV x v ∧ Q x H') X.xe s') ?_ (by rw [hlen]; exact h15)
    (thn (h.run pins _ σ _ _ I1 (q _ hn)) fun ws s2 ⟨ps, H2, I2, rel, e, xs, ep, lk, km, q2⟩ => ?_))))
  · show X.A.units + 8 < cLine
    omega
  subst ep
  obtain ⟨rs, c, rk⟩ := carries_N (xa := xa) I2 rel km
  obtain ⟨⟨hd, ys0, rel0, o0, es0, ep0, e1, e2, e3, e4⟩, _⟩ := I2.hok _ _ e
  cases rel0
  refine ⟨rs, c, ⟨o0, es0, ep0, e1, e2, e3, e4 X.w, (fun x m => nomatch m), List.nodup_nil⟩, fun h' tk dd' hs => wpAny_pure ⟨.ref s.heap.objs.size, _, ?_, rfl, q2⟩⟩
  have he : ∃ q, h'.get? s.heap.objs.size = some q := let ⟨q, _, _, hq, _⟩ := dd'; ⟨q, hq⟩
  refine d_write I2 (by rw [e]; exact True.intro) hs he (dn_new hd (rk.merge .nil) (tls_merge rfl fun x m => ?_) dd')
  obtain ⟨_, _, d, _, _, ed⟩ := km x m
  exact toN_tl ed
end
/-! ## 13b. Dicts -/
section
variable {K : Kx} {H : Hp} {W : Addr → Prop}
/-- a dict as it is read -/
theorem E.dk' {o : Ow} {ks vs : List D} {v : V} {bs : List Addr} (hb : ∀ b ∈ bs, ¬ W b) (h : E K H (plus W bs) (.dct o false ks vs) v bs) : ∃ a kv, v = .ref a ∧ H a = some (.dK kv) ∧ kv.length ≤ sizeLine ∧ (kv.map (·.1)).Nodup ∧ ks = kv.map (fun p => keyD p.1) ∧ Fs K H W vs (kv.map (·.2)) := by
  cases h with
  | o h =>
    cases h with
    | fz h => cases h with
      | dk h n z nd e r => exact ⟨_, _, rfl, h, z, nd, e, r.keep (fun _ _ q _ => q) fun a q => .inl (.inl q)⟩
    | dk h z nd e r => exact ⟨_, _, rfl, h, z, nd, e, r.keep (fun _ _ q _ => q) fun a q => .inl (.inl q)⟩
  | dk h z nd e r => exact ⟨_, _, rfl, h, z, nd, e, r.keep (fun _ _ q _ => q) fun a q => .inl (.inl q)⟩
/-- the key of a thing -/
def kOf : D → Option L2.Key
  | .int i => some (.inl i)
  | .str x => some (.inr x)
  | _ => none
theorem kOf_ok {d : D} (h : keyOk false d = true) : ∃ k, kOf d = some k ∧ d = keyD k := by
  cases d <;> first | exact ⟨_, rfl, rfl⟩ | simp [keyOk] at h
theorem E.key {k : L2.Key} {v : V} {bs : List Addr} (h : E K H W (keyD k) v bs) : v = kV k ∧ bs = [] := by
  cases k with
  | inl i => exact E.i h
  | inr x => exact E.s h
theorem deq_key {j k : L2.Key} : deq (keyD j) (keyD k) = decide (j = k) := by
  cases j <;> cases k <;> simp [keyD, deq, toPy, PyData.eqv] <;> (rw [Bool.eq_iff_iff]; simp)
theorem getK_val {k : L2.Key} : ∀ {kv : List (L2.Key × V)} {vs : List D}, Fs K H W vs (kv.map (·.2)) → (getK (kv.map fun p => keyD p.1) vs (keyD k)).isSome = (valV kv k).isSome ∧ ∀ d, getK (kv.map fun p => keyD p.1) vs (keyD k) = some d → ∃ v, valV kv k = some v ∧ F K H W d v
  | [], _, _ => ⟨rfl, fun d h => by simp [getK] at h⟩
  | p :: kv, _, .cons h t => by
    obtain ⟨ih1, ih2⟩ := getK_val (k := k) t
    simp only [List.map_cons, getK, deq_key]
    by_cases e : p.1 = k
    · rw [valV_pos e, decide_eq_true e]
      exact ⟨rfl, fun d q => by cases q; exact ⟨_, rfl, h⟩⟩
    · rw [valV_neg e, decide_eq_false e]
      exact ⟨ih1, ih2⟩
theorem valV_isS {kv : List (L2.Key × V)} {k : L2.Key} : (valV kv k).isSome = true ↔ k ∈ kv.map (·.1) := by
  rw [← valV_any]
  simp only [List.any_eq_true, decide_eq_true_eq, List.mem_map]
/-- a store -/
theorem put_keys {k : L2.Key} {y : V} : ∀ {kv : List (L2.Key × V)}, (kv.map (·.1)).Nodup → putKs (kv.map fun p => keyD p.1) (keyD k) = (putK kv k y).map (fun p => keyD p.1)
  | [], _ => rfl
  | p :: kv, nd => by
    rw [List.map_cons, List.nodup_cons] at nd
    have ih := put_keys (k := k) (y := y) nd.2
    by_cases e : p.1 = k
    · have h1 : putK (p :: kv) k y = (p.1, y) :: kv := by
        unfold putK
        have : ((p :: kv).any fun kv => decide (kv.1 = k)) = true := by simp [e]
        rw [if_pos this, List.map_cons, if_pos e]
        congr 1
        refine (List.map_congr_left fun q hq => ?_).trans (List.map_id _)
        rw [if_neg]
        · rfl
        · intro z
          exact nd.1 (by rw [e, ← z]; exact List.mem_map.mpr ⟨q, hq, rfl⟩)
      rw [h1, List.map_cons, List.map_cons, putKs, deq_key, decide_eq_true e]
      rfl
    · have h1 : putK (p :: kv) k y = p :: putK kv k y := by
        unfold putK
        rw [List.any_cons, decide_eq_false e, Bool.false_or]
        split
        · rw [List.map_cons, if_neg e]
        · rfl
      rw [h1, List.map_cons, List.map_cons, putKs, deq_key, decide_eq_false e, ih]
      rfl
theorem put_vals {k : L2.Key} {y : V} {d : D} (hd : F K H W d y) : ∀ {kv : List (L2.Key × V)} {vs : List D}, (kv.map (·.1)).Nodup → Fs K H W vs (kv.map (·.2)) → Fs K H W (putVs (kv.map fun p => keyD p.1) vs (keyD k) d) ((putK kv k y).map (·.2))
  | [], _, _, _ => by
    show Fs K H W [d] [y]
    exact .cons hd .nil
  | p :: kv, _, nd, .cons (d := d0) (ds := ds) h t => by
    rw [List.map_cons, List.nodup_cons] at nd
    have ih := put_vals (k := k) hd nd.2 t
    by_cases e : p.1 = k
    · have h1 : putK (p :: kv) k y = (p.1, y) :: kv := by
        unfold putK
        have : ((p :: kv).any fun kv => decide (kv.1 = k)) = true := by simp [e]
        rw [if_pos this, List.map_cons, if_pos e]
        congr 1
        refine (List.map_congr_left fun q hq => ?_).trans (List.map_id _)
        rw [if_neg]
        · rfl
        · intro z
          exact nd.1 (by rw [e, ← z]; exact List.mem_map.mpr ⟨q, hq, rfl⟩)
      rw [h1]
      simp only [List.map_cons, putVs, deq_key, decide_eq_true e, if_true]
      exact .cons hd t
    · have h1 : putK (p :: kv) k y = p :: putK kv k y := by
        unfold putK
        rw [List.any_cons, decide_eq_false e, Bool.false_or]
        split
        · rw [List.map_cons, if_neg e]
        · rfl
      rw [h1]
      simp only [List.map_cons, putVs, deq_key, decide_eq_false e]
      exact .cons h ih
theorem put_nodup {k : L2.Key} {y : V} {kv : List (L2.Key × V)} (nd : (kv.map (·.1)).Nodup) : ((putK kv k y).map (·.1)).Nodup := by
  unfold putK
  split
  · have : (kv.map fun kv => if kv.1 = k then (kv.1, y) else kv).map (·.1) = kv.map (·.1) := by
      rw [List.map_map]
      refine List.map_congr_left fun q _ => ?_
      show (if q.1 = k then (q.1, y) else q).1 = q.1
      split <;> rfl
    rw [this]; exact nd
  · rename_i h
    rw [List.map_append, List.nodup_append]
    refine ⟨nd, List.nodup_cons.mpr ⟨fun m => (by cases m), List.nodup_nil⟩, fun a ha b hb e => ?_⟩
    simp only [List.map_cons, List.map_nil, List.mem_singleton] at hb
    subst e hb
    rw [valV_any] at h
    exact h (valV_isS.mpr ha)
theorem plain_F {W' : Addr → Prop} {d : D} {v : V} {bs : List Addr} (hp : plainV d = true) (sub : ∀ a, W a → W' a) (h : E K H W' d v bs) : F K H W d v := by
  simp only [plainV, Bool.and_eq_true] at hp
  cases h with
  | o h =>
    cases h with
    | fz h => exact h.keep (fun _ _ q _ => q) fun a q => .inl (sub a q)
    | ow _ _ _ => simp [isF1] at hp
    | dk _ _ _ _ _ => simp [isF1] at hp
    | dn _ _ _ _ _ _ _ => simp [isF1] at hp
    | ob _ _ _ => simp [isF1] at hp
    | sb _ _ _ _ => simp [isF1] at hp
  | ob _ _ _ => simp at hp
  | bo _ _ _ => simp at hp
  | dk _ _ _ _ _ => simp at hp
  | dn _ _ _ _ _ _ _ => simp at hp
end
section
variable {X : Cx} {xa : Xa} {ea : Ec → Addr} {c : Cn} {Wx : WX} {a b e : Expr} {sa sb sc : S} {pos : Pos}
theorem r_dget (hu : X.A.units + 65 < cLine) (ha : PE X a (tE (lx X xa ea c) Wx sa)) (hb : PE X b (tE (lx X xa ea c) Wx sb)) (hs : NoSl b) : PE X (.Subscript a b pos) (tE (lx X xa ea c) Wx (.dget sa sb)) := by
  refine pe_imp (pe_dgetN (xa := xa) (by omega) ha hb hs) fun σ H Q ⟨ρ, as, W, e, w, h⟩ => ?_
  simp only [ev] at h
  refine two e w h fun x y H2 vx vy bx b_y s w2 hx hy ex ey _ _ h => ?_
  unfold evDget at h
  split at h
  · rename_i o t ks vs
    split at h
    · rename_i ok
      obtain ⟨d, hd, hk⟩ := aft_lift h
      cases t with
      | true =>
        obtain ⟨p, xs, rfl, n, e, _, r⟩ := E.dn' hx ex
        obtain ⟨k, b, ek, _, q, _⟩ := key_N ok ey
        obtain ⟨v, hv, f⟩ := (getN_val ek e r).2 d hd
        exact ⟨p, v, rfl, .inr ⟨xs, k, b, n, q, hv.symm⟩, OkE.f hk s f⟩
      | false =>
        obtain ⟨p, kv, rfl, hp, z, nd, rfl, r⟩ := E.dk' hx ex
        obtain ⟨k, _, rfl⟩ := kOf_ok ok
        obtain ⟨rfl, _⟩ := E.key ey
        obtain ⟨v, hv, f⟩ := (getK_val r).2 d hd
        exact ⟨p, v, rfl, .inl (hv ▸ DGet.k hp), OkE.f hk s f⟩
    · exact h.elim
  · exact h.elim
def dOp (neg : Bool) : CmpOp := if neg then .NotIn else .In
theorem din_ok {neg : Bool} {x y : D} {H H2 : Hp} {W : Addr → Prop} {vx vy : V} {bx b_y : List Addr} {p : D → Prop} {q : Ec → Prop} (hy : ∀ b ∈ b_y, ¬ W b) (ex : E (kx X xa) H2 (plus W bx) x vx bx) (ey : E (kx X xa) H2 (plus W b_y) y vy b_y) (h : Aft (evDin neg x y) p q) :
    ∃ a o, vy = .ref a ∧ DGetN (kx X xa) H2 a vx o ∧ p (.bl (if neg then !o.isSome else o.isSome)) := by
  unfold evDin at h
  split at h
  · rename_i o t ks vs
    split at h
    · rename_i ok
      cases t with
      | true =>
        obtain ⟨p, xs, rfl, n, e, _, r⟩ := E.dn' hy ey
        obtain ⟨k, b, ek, _, q, _⟩ := key_N ok ex
        rw [(getN_val ek e r).1] at h
        exact ⟨p, _, rfl, .inr ⟨xs, k, b, n, q, rfl⟩, h⟩
      | false =>
        obtain ⟨a, kv, rfl, ha, z, nd, rfl, r⟩ := E.dk' hy ey
        obtain ⟨k, _, rfl⟩ := kOf_ok ok
        obtain ⟨rfl, _⟩ := E.key ex
        rw [(getK_val r).1] at h
        exact ⟨a, _, rfl, .inl (DGet.k ha), h⟩
    · exact h.elim
  · exact h.elim
theorem r_din {neg : Bool} (hu : X.A.units + 65 < cLine) (ha : PE X a (tE (lx X xa ea c) Wx sa)) (hb : PE X b (tE (lx X xa ea c) Wx sb)) (hm : behindInMarks (dOp neg) b = false) : PE X (.Compare a [dOp neg] [b] pos) (tE (lx X xa ea c) Wx (.din neg sa sb)) := by
  cases neg with
  | true =>
    refine pe_imp (pe_cmp (pc_dnotinN' (xa := xa) (by omega) ha hb) hm) fun σ H Q ⟨ρ, as, W, e, w, h⟩ => ?_
    simp only [ev] at h
    refine two e w h fun x y H2 vx vy bx b_y s w2 hx hy ex ey _ _ h => ?_
    obtain ⟨a, o, e1, g, h⟩ := din_ok (H := H) hy ex ey h
    exact ⟨a, o, e1, g, OkE.f h s (.bl _)⟩
  | false =>
    refine pe_imp (pe_cmp (pc_dinN' (xa := xa) (by omega) ha hb) hm) fun σ H Q ⟨ρ, as, W, e, w, h⟩ => ?_
    simp only [ev] at h
    refine two e w h fun x y H2 vx vy bx b_y s w2 hx hy ex ey _ _ h => ?_
    obtain ⟨a, o, e1, g, h⟩ := din_ok (H := H) hy ex ey h
    exact ⟨a, o, e1, g, OkE.f h s (.bl _)⟩
theorem t_din {neg : Bool} (hu : X.A.units + 65 < cLine) (ha : PE X a (tE (lx X xa ea c) Wx sa)) (hb : PE X b (tE (lx X xa ea c) Wx sb)) (hm : behindInMarks (dOp neg) b = false) : PT X (.Compare a [dOp neg] [b] pos) (tT (lx X xa ea c) Wx (.din neg sa sb)) := by
  cases neg with
  | true =>
    refine pt_imp (pt_cmp (pc_dnotinN' (xa := xa) (by omega) ha hb) hm) fun σ H Q ⟨ρ, as, W, e, w, h⟩ => ?_
    simp only [evT, ev, aft_bind] at h
    refine tE_go e w (h.imp (fun x hx H1 v1 b1 s1 e1 f1 n1 l1 w1 => ?_) fun _ q => q)
    refine tE_go l1 w1 (hx.imp (fun y hy H2 v2 b2 s2 e2 f2 n2 l2 w2 => ?_) fun _ q => q.after s1)
    obtain ⟨a, o, ea', g, h⟩ := din_ok (H := H) (fun b m q => fresh_no w1 f2 b m (.inl q)) (e1.keep s2 fun _ q => .inl q) (e2.keep (Same.refl H2) fun a q => .inl (q.elim (fun q => .inl (.inl q)) .inr)) hy
    exact ⟨a, o, ea', g, _, rfl, h H2 (s1.trans s2)⟩
  | false =>
    refine pt_imp (pt_cmp (pc_dinN' (xa := xa) (by omega) ha hb) hm) fun σ H Q ⟨ρ, as, W, e, w, h⟩ => ?_
    simp only [evT, ev, aft_bind] at h
    refine tE_go e w (h.imp (fun x hx H1 v1 b1 s1 e1 f1 n1 l1 w1 => ?_) fun _ q => q)
    refine tE_go l1 w1 (hx.imp (fun y hy H2 v2 b2 s2 e2 f2 n2 l2 w2 => ?_) fun _ q => q.after s1)
    obtain ⟨a, o, ea', g, h⟩ := din_ok (H := H) (fun b m q => fresh_no w1 f2 b m (.inl q)) (e1.keep s2 fun _ q => .inl q) (e2.keep (Same.refl H2) fun a q => .inl (q.elim (fun q => .inl (.inl q)) .inr)) hy
    exact ⟨a, o, ea', g, _, rfl, h H2 (s1.trans s2)⟩
end
section
variable {X : Cx} {xa : Xa} {ea : Ec → Addr} {c : Cn} {Wx : WX} {a b e i : Expr} {sa sb sc se si : S} {pos : Pos} {n : Nat}
/-- slot x holds an owned dict: it is written -/
theorem write_dict {K : Kx} {H : Hp} {Wc : Addr → Prop} {ρ : Rho} {σ : L2.St} {as : List Addr} {x : Nat} {ks vs : List D} (h : St1 K Wc H ρ σ as) (hx : ρ[x]? = some (some (.dct .ow false ks vs))) :
    ∃ p kv, σ[x]? = some (some (.ref p)) ∧ H p = some (.dK kv) ∧ kv.length ≤ sizeLine ∧ (kv.map (·.1)).Nodup ∧ ks = kv.map (fun p => keyD p.1) ∧ Fs K H (plus Wc as) vs (kv.map (·.2)) ∧
      ∀ (H1 : Hp) (ks' vs' : List D) (kv' : List (L2.Key × V)), Same H H1 → kv'.length ≤ sizeLine → (kv'.map (·.1)).Nodup → ks' = kv'.map (fun p => keyD p.1) → Fs K H1 (plus Wc as) vs' (kv'.map (·.2)) →
        St1 K Wc (upd H1 p (.dK kv')) (ρ.set x (some (.dct .ow false ks' vs'))) σ as ∧ Step H as (upd H1 p (.dK kv')) as := by
  have lx : x < ρ.length := (List.getElem?_eq_some_iff.mp hx).1
  obtain ⟨a0, ax, a1, ea, g, q⟩ := h.sl.at lx
  obtain ⟨v, ev, o⟩ := g _ hx
  cases o with
  | fz f => cases f
  | dk hp z nd e r =>
    rename_i p kv
    refine ⟨p, kv, ev, hp, z, nd, e, r, fun H1 ks' vs' kv' s z' nd' e' r' => ?_⟩
    have hnd := h.nd
    rw [ea] at hnd
    have n0 := List.nodup_append.mp hnd
    have n1 := List.nodup_append.mp n0.1
    have hpa : p ∈ as := by rw [ea]; simp
    have p0 : ∀ a ∈ a0, a ≠ p := fun a m e => n1.2.2 a m p (by simp) e
    have p1 : ∀ a ∈ a1, a ≠ p := fun a m e => n0.2.2 p (by simp) a m e.symm
    have kp : ∀ a o, H a = some o → a ≠ p → upd H1 p (.dK kv') a = some o := fun a o e n => by rw [upd_ne n]; exact s a o e
    obtain ⟨_, q⟩ := q (upd H1 p (.dK kv')) (plus Wc as) (fun a o e n => kp a o e fun q => n (by rw [q]; exact .inr hpa)) (fun a m => .inl m) (fun a m o e => kp a o e (by
        rcases List.mem_append.mp m with m | m
        · exact p0 a m
        · exact p1 a m))
    have newO : O K (upd H1 p (.dK kv')) (plus Wc as) (.dct .ow false ks' vs') (.ref p) [p] :=
      .dk upd_same z' nd' e' (r'.keep (fun a o e n => by rw [upd_ne fun q => n (by rw [q]; exact .inr hpa)]; exact e) fun a m => .inl m)
    have sl' := q _ _ _ newO
    rw [set_same ev, ← ea] at sl'
    refine ⟨⟨sl', h.nd, h.dj, fun a m => ?_⟩, ⟨fun a o e n => kp a o e fun q => n (by rw [q]; exact hpa), fun a m => .inl m⟩⟩
    by_cases hap : a = p
    · rw [hap]; exact ⟨_, upd_same, trivial⟩
    · obtain ⟨o, e, w⟩ := h.wk a m
      exact ⟨o, kp a o e hap, w⟩
/-- slot x holds an owned dict with tuples for keys: it is written -/
theorem write_dn {K : Kx} {H : Hp} {Wc : Addr → Prop} {ρ : Rho} {σ : L2.St} {as : List Addr} {x : Nat} {ks vs : List D} (h : St1 K Wc H ρ σ as) (hx : ρ[x]? = some (some (.dct .ow true ks vs))) :
    ∃ p xs, σ[x]? = some (some (.ref p)) ∧ Nd K H p xs ∧ toNs ks = some (xs.map (·.1)) ∧ Fs K H (plus Wc as) ks (xs.map fun x => V.ref x.2.1) ∧ Fs K H (plus Wc as) vs (xs.map (·.2.2)) ∧
      ∀ (H1 : Hp) (ks' vs' : List D) (xs' : XN), Same H H1 → xs'.length ≤ sizeLine → (xs'.map (·.1)).Nodup → (∀ x ∈ xs', x.1.depth ≤ 8) → toNs ks' = some (xs'.map (·.1)) → Fs K H1 (plus Wc as) ks' (xs'.map fun x => V.ref x.2.1) → Fs K H1 (plus Wc as) vs' (xs'.map (·.2.2)) →
        St1 K Wc (upd H1 p (dnO p xs')) (ρ.set x (some (.dct .ow true ks' vs'))) σ as ∧ Step H as (upd H1 p (dnO p xs')) as := by
  have lx : x < ρ.length := (List.getElem?_eq_some_iff.mp hx).1
  obtain ⟨a0, ax, a1, ea, g, q⟩ := h.sl.at lx
  obtain ⟨v, ev, o⟩ := g _ hx
  cases o with
  | fz f => cases f
  | dn hp z nd dp e rk r =>
    rename_i p xs
    refine ⟨p, xs, ev, ⟨hp, z, nd, dp, ks, _, e, rk⟩, e, rk, r, fun H1 ks' vs' xs' s z' nd' dp' e' rk' r' => ?_⟩
    have hnd := h.nd
    rw [ea] at hnd
    have n0 := List.nodup_append.mp hnd
    have n1 := List.nodup_append.mp n0.1
    have hpa : p ∈ as := by rw [ea]; simp
    have p0 : ∀ a ∈ a0, a ≠ p := fun a m e => n1.2.2 a m p (by simp) e
    have p1 : ∀ a ∈ a1, a ≠ p := fun a m e => n0.2.2 p (by simp) a m e.symm
    have kp : ∀ a o, H a = some o → a ≠ p → upd H1 p (dnO p xs') a = some o := fun a o e n => by rw [upd_ne n]; exact s a o e
    obtain ⟨_, q⟩ := q (upd H1 p (dnO p xs')) (plus Wc as) (fun a o e n => kp a o e fun q => n (by rw [q]; exact .inr hpa)) (fun a m => .inl m) (fun a m o e => kp a o e (by
        rcases List.mem_append.mp m with m | m
        · exact p0 a m
        · exact p1 a m))
    have newO : O K (upd H1 p (dnO p xs')) (plus Wc as) (.dct .ow true ks' vs') (.ref p) [p] :=
      .dn upd_same z' nd' dp' e' (rk'.keep (fun a o e n => by rw [upd_ne fun q => n (by rw [q]; exact .inr hpa)]; exact e) fun a m => .inl m) (r'.keep (fun a o e n => by rw [upd_ne fun q => n (by rw [q]; exact .inr hpa)]; exact e) fun a m => .inl m)
    have sl' := q _ _ _ newO
    rw [set_same ev, ← ea] at sl'
    refine ⟨⟨sl', h.nd, h.dj, fun a m => ?_⟩, ⟨fun a o e n => kp a o e fun q => n (by rw [q]; exact hpa), fun a m => .inl m⟩⟩
    by_cases hap : a = p
    · rw [hap]; exact ⟨_, upd_same, trivial⟩
    · obtain ⟨o, e, w⟩ := h.wk a m
      exact ⟨o, kp a o e hap, w⟩
/-- d[k] = e -/
theorem s_dput (hu : X.A.units + 65 < cLine) {x : Nat} {nm : Str} {p spos : Pos} (hN : X.N[x]? = some nm) (hv : Vis X.env.scope nm) (hd : (nm == ("__debug__" : Str)) = false) (hcd : (nm == ("__classdict__" : Str)) = false) (he : PE X e (tE (lx X xa ea c) Wx se)) (hi : PE X i (tE (lx X xa ea c) Wx si))
    (hs : swapsWithSole [.Subscript (.Name nm p) i spos] e pos.line X.env = pure false) (hw : swappedStores [.Subscript (.Name nm p) i spos] e X.env = pure none) (hsl : ∀ l u s q, i ≠ .Slice l u s q) :
    PS X (.Assign [.Subscript (.Name nm p) i spos] e pos) (tS (kx X xa) ea Wx (ex c n (.dput x si se))) := by
  refine ps_imp (ps_asg he (pg_sub (pe_var hN hv hd hcd) hi (set_dictN (xa := xa) (by omega)) (plain_sub hsl)) hs hw rfl) fun D σ H ⟨ρ, as, Wc, h, a⟩ => ?_
  simp only [ex] at a
  refine tS_e h a fun d H1 v bs _ s1 e1 f1 n1 l1 h1 a => ?_
  split at a
  · rename_i pv
    split at a
    · rename_i t ks vs hx
      cases t with
      | true =>
        obtain ⟨p, xs, e2, n, ek0, rk, r, wr⟩ := write_dn h hx
        refine ⟨_, e2, ?_⟩
        refine tE_go l1 (h1.wk.plus e1.there) ?_
        cases q : ev c si ρ with
        | st => rw [q] at a; exact a.elim
        | er er => rw [q] at a; exact fun H' s => a σ H' as (h.same (s1.trans s)) (Step.same (s1.trans s) fun a m => .inl m)
        | ok k =>
          rw [q] at a
          intro H2 vk bk s2 ek _ _ _ _
          have s12 := s1.trans s2
          by_cases ok : (keyOk true k && decide (ks.length < sizeLine)) = true
          · have a : AftO (kx X xa) ea Wx D Wc H as (if (keyOk true k && decide (ks.length < sizeLine)) = true then .nx (ρ.set x (some (.dct .ow true (putKs ks k) (putVs ks vs k d)))) else .st) := a
            rw [if_pos ok] at a
            simp only [Bool.and_eq_true, decide_eq_true_eq] at ok
            obtain ⟨kk, b, ekk, dk, qk, fk⟩ := key_N ok.1 ek
            have lim : xs.length < sizeLine := by have := toNs_len ek0; rw [List.length_map] at this; omega
            have fd : F (kx X xa) H2 (plus Wc as) d v := (plain_F pv (fun _ q => .inl q) e1).keep (fun a o e _ => s2 a o e) fun _ q => .inl q
            have fk' : F (kx X xa) H2 (plus Wc as) k (.ref b) := fk fun a q => .inl (.inl q)
            obtain ⟨p1, p2, p3, p4, p5, _, p7⟩ := putN_all ekk fk' fd dk ek0 (rk.keep (fun a o e _ => s12 a o e) fun _ q => .inl q) (r.keep (fun a o e _ => s12 a o e) fun _ q => .inl q) n.nd n.dp
            obtain ⟨h', st⟩ := wr H2 _ _ (putN xs kk b v) s12 (by omega) p4 p5 p1 p2 p3
            exact ⟨p, _, rfl, .inr ⟨xs, kk, b, n.keep s12, qk, lim, rfl⟩, a σ _ as h' st⟩
          · have a : AftO (kx X xa) ea Wx D Wc H as (if (keyOk true k && decide (ks.length < sizeLine)) = true then .nx (ρ.set x (some (.dct .ow true (putKs ks k) (putVs ks vs k d)))) else .st) := a
            rw [if_neg ok] at a
            exact a.elim
      | false =>
        obtain ⟨p, kv, e2, hp, z, nd, rfl, r, wr⟩ := write_dict h hx
        refine ⟨_, e2, ?_⟩
        refine tE_go l1 (h1.wk.plus e1.there) ?_
        cases q : ev c si ρ with
        | st => rw [q] at a; exact a.elim
        | er er => rw [q] at a; exact fun H' s => a σ H' as (h.same (s1.trans s)) (Step.same (s1.trans s) fun a m => .inl m)
        | ok k =>
          rw [q] at a
          intro H2 vk bk s2 ek _ _ _ _
          have s12 := s1.trans s2
          by_cases ok : (keyOk false k && decide ((kv.map fun p => keyD p.1).length < sizeLine)) = true
          · have a : AftO (kx X xa) ea Wx D Wc H as (if (keyOk false k && decide ((kv.map fun p => keyD p.1).length < sizeLine)) = true then .nx (ρ.set x (some (.dct .ow false (putKs (kv.map fun p => keyD p.1) k) (putVs (kv.map fun p => keyD p.1) vs k d)))) else .st) := a
            rw [if_pos ok] at a
            simp only [Bool.and_eq_true, decide_eq_true_eq, List.length_map] at ok
            obtain ⟨kk, _, rfl⟩ := kOf_ok ok.1
            obtain ⟨rfl, _⟩ := E.key ek
            have fd : F (kx X xa) H2 (plus Wc as) d v := (plain_F pv (fun _ q => .inl q) e1).keep (fun a o e _ => s2 a o e) fun _ q => .inl q
            have r2 := put_vals (k := kk) fd nd (r.keep (fun a o e _ => s12 a o e) fun _ q => .inl q)
            obtain ⟨h', st⟩ := wr H2 _ _ (putK kv kk v) s12 (by have := length_putK kv kk v; omega) (put_nodup nd) (put_keys nd) r2
            exact ⟨p, _, rfl, .inl (DPut.k (s12 _ _ hp) ok.2), a σ _ as h' st⟩
          · have a : AftO (kx X xa) ea Wx D Wc H as (if (keyOk false k && decide ((kv.map fun p => keyD p.1).length < sizeLine)) = true then .nx (ρ.set x (some (.dct .ow false (putKs (kv.map fun p => keyD p.1) k) (putVs (kv.map fun p => keyD p.1) vs k d)))) else .st) := a
            rw [if_neg ok] at a
            exact a.elim
    · exact a.elim
  · exact a.elim
/-- len(d) -/
theorem r_dlen {p : Pos} (hg : Gl X "len") (hm : X.mg "len" = none) (ha : PE X a (tE (lx X xa ea c) Wx sa)) (he : starEach [a] X.env = (false, eval a X.env) :: starEach [] X.env) (hpl : (backTo pos (starEach [] X.env)).any (·.1) = false) :
    PE X (.Call (.Name "len" p) [a] [] pos) (tE (lx X xa ea c) Wx (.dlen sa)) := by
  refine pe_imp (pe_callB (call_lenN (xa := xa)) hg hm rfl (pa_cons ha pa_nil he) (by decide) (by decide) he hpl) fun σ H Q ⟨ρ, as, W, e, w, h⟩ => ?_
  simp only [ev, aft_bind] at h
  refine tE_go e w (h.imp (fun x hx H1 v1 b1 s1 e1 f1 n1 l1 w1 => ?_) fun _ q => q)
  unfold evDlen at hx
  split at hx
  · rename_i o t ks vs
    cases t with
    | true =>
      obtain ⟨p, xs, rfl, n, e, _, r⟩ := E.dn' (fresh_no w f1) e1
      have hx : OkE (lx X xa ea c) H W Q (.int (ks.length : Nat)) := hx
      rw [toNs_len e, List.length_map] at hx
      exact ⟨p, rfl, .inr ⟨xs, n, OkE.f hx s1 (.int _)⟩⟩
    | false =>
      obtain ⟨p, kv, rfl, hp, z, nd, rfl, r⟩ := E.dk' (fresh_no w f1) e1
      have hx : OkE (lx X xa ea c) H W Q (.int ((kv.map fun p => keyD p.1).length : Nat)) := hx
      rw [List.length_map] at hx
      exact ⟨p, rfl, .inl ⟨kv, hp, OkE.f hx s1 (.int _)⟩⟩
  · exact hx.elim
/-! ### a display -/
def trsOf (L : Lx) (Wx : WX) : List S → List (TE × TE)
  | k :: v :: r => (tE L Wx k, tE L Wx v) :: trsOf L Wx r
  | _ => []
def flatP : List (V × V) → List V
  | [] => []
  | (x, y) :: r => x :: y :: flatP r
theorem es_cons {K : Kx} {H H1 H2 : Hp} {W : Addr → Prop} {x : D} {ys : List D} {v1 : V} {v2 : List V} {b1 b2 : List Addr} (s1 : Same H H1) (s2 : Same H1 H2) (e1 : E K H1 (plus W b1) x v1 b1) (f1 : Fresh H b1) (n1 : b1.Nodup) (e2 : Es K H2 (plus (plus W b1) b2) ys v2 b2) (f2 : Fresh H1 b2) (n2 : b2.Nodup) :
    Es K H2 (plus W (b1 ++ b2)) (x :: ys) (v1 :: v2) (b1 ++ b2) ∧ Fresh H (b1 ++ b2) ∧ (b1 ++ b2).Nodup := by
  refine ⟨.cons (e1.keep s2 fun a q => ?_) (e2.keep (Same.refl H2) fun a q => .inl ?_), fun b m => ?_, ?_⟩
  · rcases q with q | q
    · exact .inl (.inl q)
    · rcases List.mem_append.mp q with q | q
      · exact .inl (.inr q)
      · exact .inr (f2 a q)
  · rcases q with q | q
    · exact .inl (.inl q)
    · rcases List.mem_append.mp q with q | q
      · exact .inl (.inr q)
      · exact .inr q
  · rcases List.mem_append.mp m with m | m
    · exact f1 b m
    · exact s1.free (f2 b m)
  · refine List.nodup_append.mpr ⟨n1, n2, fun a m b m' q => ?_⟩
    subst q
    obtain ⟨vs, q, _⟩ := e1.there a m
    rw [f2 a m'] at q
    cases q
theorem pairs_go : ∀ {ss : List S} {σ : L2.St} {H : Hp} {ρ : Rho} {as : List Addr} {W : Addr → Prop} {Q : List (V × V) → Hp → Prop}, ss.length % 2 = 0 → Sl (kx X xa) H W ρ σ as → Wok H W →
    Aft (evs c ss ρ) (fun ds => ∀ H' ps bs, Same H H' → Es (kx X xa) H' (plus W bs) ds (flatP ps) bs → Fresh H bs → bs.Nodup → Q ps H') (ErE (lx X xa ea c) Wx σ H) → tPairs (trsOf (lx X xa ea c) Wx ss) σ H Q
  | [], σ, H, ρ, as, W, Q, _, e, w, h => by
    simp only [evs] at h
    have h : ∀ H' ps bs, Same H H' → Es (kx X xa) H' (plus W bs) [] (flatP ps) bs → Fresh H bs → bs.Nodup → Q ps H' := h
    exact h H [] [] (Same.refl H) .nil (fun _ m => nomatch m) List.nodup_nil
  | [_], _, _, _, _, _, _, l, _, _, _ => by simp at l
  | k :: v :: r, σ, H, ρ, as, W, Q, l, e, w, h => by
    simp only [evs, aft_bind] at h
    show tE (lx X xa ea c) Wx k σ H fun x H1 => tE (lx X xa ea c) Wx v σ H1 fun y H2 => tPairs (trsOf (lx X xa ea c) Wx r) σ H2 fun ps H3 => Q ((x, y) :: ps) H3
    refine tE_go e w (h.imp (fun x hx H1 v1 b1 s1 e1 f1 n1 l1 w1 => ?_) fun _ q => q)
    refine tE_go l1 w1 (hx.imp (fun y hy H2 v2 b2 s2 e2 f2 n2 l2 w2 => ?_) fun _ q => q.after s1)
    refine pairs_go (by simp at l; omega) l2 w2 (hy.imp (fun ds hd H3 ps bs s3 e3 f3 n3 => ?_) fun _ q => q.after (s1.trans s2))
    obtain ⟨a1, a2, a3⟩ := es_cons s2 s3 e2 f2 n2 e3 f3 n3
    obtain ⟨a4, a5, a6⟩ := es_cons s1 (s2.trans s3) e1 f1 n1 a1 a2 a3
    have hd : ∀ H' ps bs, Same H H' → Es (kx X xa) H' (plus W bs) (x :: y :: ds) (flatP ps) bs → Fresh H bs → bs.Nodup → Q ps H' := hd
    exact hd H3 ((v1, v2) :: ps) _ (s1.trans (s2.trans s3)) a4 a5 a6
theorem Es.inv {K : Kx} {H : Hp} {W : Addr → Prop} {d : D} {ds : List D} {v : V} {vs : List V} {bs : List Addr} (e : Es K H W (d :: ds) (v :: vs) bs) : ∃ b1 b2, E K H W d v b1 ∧ Es K H W ds vs b2 := by
  cases e with
  | cons h t => exact ⟨_, _, h, t⟩
theorem mk_ok {K : Kx} {H : Hp} {W W' : Addr → Prop} (sub : ∀ a, W a → W' a) : ∀ {ds : List D} {ps : List (V × V)} {bs : List Addr} {kv : List (L2.Key × V)} {vs ks' vs' : List D}, mkDic false ds (kv.map fun p => keyD p.1) vs = some (ks', vs') → Es K H W' ds (flatP ps) bs → (kv.map (·.1)).Nodup → Fs K H W vs (kv.map (·.2)) →
    ∃ kvs : List (L2.Key × V), ps = kvs.map (fun q => (kV q.1, q.2)) ∧ ds.length = 2 * kvs.length ∧ ks' = (mergeK kv kvs).map (fun p => keyD p.1) ∧ ((mergeK kv kvs).map (·.1)).Nodup ∧ Fs K H W vs' ((mergeK kv kvs).map (·.2))
  | [], ps, bs, kv, vs, ks', vs', h, e, nd, r => by
    simp only [mkDic, Option.some.injEq, Prod.mk.injEq] at h
    obtain ⟨rfl, rfl⟩ := h
    cases ps with
    | nil => exact ⟨[], rfl, rfl, rfl, nd, r⟩
    | cons p ps => cases e
  | [_], ps, bs, kv, vs, ks', vs', h, e, nd, r => by simp [mkDic] at h
  | k :: v :: ds, ps, bs, kv, vs, ks', vs', h, e, nd, r => by
    simp only [mkDic] at h
    split at h
    · rename_i ok
      simp only [Bool.and_eq_true] at ok
      cases ps with
      | nil => cases e
      | cons p ps =>
        obtain ⟨x, y⟩ := p
        have e : Es K H W' (k :: v :: ds) (x :: y :: flatP ps) bs := e
        obtain ⟨_, _, ek, q1⟩ := e.inv
        obtain ⟨_, _, ev', q2⟩ := q1.inv
        obtain ⟨kk, _, rfl⟩ := kOf_ok ok.1
        obtain ⟨rfl, _⟩ := E.key ek
        have fv := plain_F ok.2 sub ev'
        rw [put_keys (y := y) nd] at h
        obtain ⟨kvs, a1, a2, a3, a4, a5⟩ := mk_ok sub h q2 (put_nodup nd) (put_vals fv nd r)
        exact ⟨(kk, y) :: kvs, by rw [a1]; rfl, by simp [a2]; omega, a3, a4, a5⟩
    · cases h
theorem r_dic {keys : List (Option Expr)} {values : List Expr} {ss : List S} (h : PPs X pos keys values (trsOf (lx X xa ea c) Wx ss)) (hall : keys.all (·.isSome) = true) (hl : keys.length = values.length) (h0 : keys ≠ []) (h15 : keys.length ≤ 15) (hev : ss.length % 2 = 0) :
    PE X (.Dict keys values pos) (tE (lx X xa ea c) Wx (.dic false ss)) := by
  refine pe_imp (pe_disp h hall hl h0 h15) fun σ H Q ⟨ρ, as, W, e, w, h⟩ => ?_
  simp only [ev, aft_bind] at h
  intro p np
  have sm := same_upd (H := H) (o := .dK []) np
  have w1 : Wok (upd H p (.dK [])) (plus W [p]) := fun a q => by
    rcases q with q | q
    · exact w.same sm a q
    · rw [List.mem_singleton.mp q]; exact ⟨_, upd_same, trivial⟩
  have e1 := e.plus sm (bs := [p]) fun b m => by rw [List.mem_singleton.mp m]; exact np
  refine pairs_go hev e1 w1 (h.imp (fun ds hd H2 ps bs s2 e2 f2 n2 => ?_) fun _ q H' s => q H' (sm.trans s))
  unfold evDic at hd
  split at hd
  · rename_i lim
    rw [aft_bind] at hd
    obtain ⟨⟨ks, vs⟩, hk, hd⟩ := aft_lift hd
    obtain ⟨kvs, rfl, a2, a3, a4, a5⟩ := mk_ok (K := kx X xa) (W := plus W [p]) (kv := []) (fun a q => .inl q) hk e2 List.nodup_nil .nil
    subst a3
    have hd : OkE (lx X xa ea c) H W Q (.dct .ow false ((mergeK [] kvs).map fun p => keyD p.1) vs) := hd
    have hp : H2 p = some (.dK []) := s2 _ _ upd_same
    have z : (mergeK [] kvs).length ≤ sizeLine := by
      have h1 := length_mergeK kvs []
      rw [List.length_nil] at h1
      have := lim
      rw [sizeLine_eq]; omega
    refine ⟨hp, kvs, rfl, by omega, hd _ _ [p] ?_ (.o (.dk upd_same z a4 rfl (a5.keep (fun a o q nw => ?_) fun a q => .inl q))) (fun b m => by rw [List.mem_singleton.mp m]; exact np) (List.nodup_cons.mpr ⟨fun m => (by cases m), List.nodup_nil⟩)⟩
    · intro a o q
      have : a ≠ p := ne_of_none q np
      rw [upd_ne this]
      exact s2 _ _ (sm _ _ q)
    · rw [upd_ne fun q => nw (.inr (by rw [q]; exact List.mem_singleton.mpr rfl))]
      exact q
  · exact hd.elim
theorem r_dic0 : PE X (.Dict [] [] pos) (tE (lx X xa ea c) Wx (.dic false [])) := by
  refine pe_imp pe_dnewK fun σ H Q ⟨ρ, as, W, e, w, h⟩ => ?_
  have h : OkE (lx X xa ea c) H W Q (.dct .ow false [] []) := by simp only [ev, evs] at h; exact h
  intro p np
  exact h _ _ [p] (same_upd np) (.o (.dk upd_same (by rw [sizeLine_eq]; decide) List.nodup_nil rfl .nil)) (fun b m => by rw [List.mem_singleton.mp m]; exact np) (List.nodup_cons.mpr ⟨fun m => (by cases m), List.nodup_nil⟩)
theorem mk_okN {K : Kx} {H : Hp} {W W' : Addr → Prop} (sub : ∀ a, W a → W' a) : ∀ {ds : List D} {ps : List (V × V)} {bs : List Addr} {acc : XN} {ks vs ks' vs' : List D}, mkDic true ds ks vs = some (ks', vs') → Es K H W' ds (flatP ps) bs → toNs ks = some (acc.map (·.1)) → Fs K H W ks (acc.map fun x => V.ref x.2.1) → Fs K H W vs (acc.map (·.2.2)) → (acc.map (·.1)).Nodup → (∀ x ∈ acc, x.1.depth ≤ 8) →
    ∃ xs : XN, ps = xs.map (fun x => (V.ref x.2.1, x.2.2)) ∧ ds.length = 2 * xs.length ∧ (∀ x ∈ xs, NKey K H (.ref x.2.1) x.1 x.2.1) ∧ toNs ks' = some ((mergeN acc xs).map (·.1)) ∧ Fs K H W ks' ((mergeN acc xs).map fun x => V.ref x.2.1) ∧ Fs K H W vs' ((mergeN acc xs).map (·.2.2)) ∧ ((mergeN acc xs).map (·.1)).Nodup ∧ (∀ x ∈ mergeN acc xs, x.1.depth ≤ 8) ∧ (mergeN acc xs).length ≤ acc.length + xs.length
  | [], ps, bs, acc, ks, vs, ks', vs', h, e, hk, rk, r, nd, dp => by
    simp only [mkDic, Option.some.injEq, Prod.mk.injEq] at h
    obtain ⟨rfl, rfl⟩ := h
    cases ps with
    | nil => exact ⟨[], rfl, rfl, (fun x m => nomatch m), hk, rk, r, nd, dp, Nat.le_refl _⟩
    | cons p ps => cases e
  | [_], ps, bs, acc, ks, vs, ks', vs', h, e, hk, rk, r, nd, dp => by simp [mkDic] at h
  | k :: v :: ds, ps, bs, acc, ks, vs, ks', vs', h, e, hk, rk, r, nd, dp => by
    simp only [mkDic] at h
    split at h
    · rename_i ok
      simp only [Bool.and_eq_true] at ok
      cases ps with
      | nil => cases e
      | cons p ps =>
        obtain ⟨x, y⟩ := p
        have e : Es K H W' (k :: v :: ds) (x :: y :: flatP ps) bs := e
        obtain ⟨_, _, ek, q1⟩ := e.inv
        obtain ⟨_, _, ev', q2⟩ := q1.inv
        obtain ⟨kk, b, ekk, dk, qk, fk⟩ := key_N ok.1 ek
        obtain rfl : x = .ref b := qk.1
        have fv := plain_F ok.2 sub ev'
        obtain ⟨p1, p2, p3, p4, p5, _, p7⟩ := putN_all ekk (fk sub) fv dk hk rk r nd dp
        obtain ⟨xs, a1, a2, a3, a4, a5, a6, a7, a8, a9⟩ := mk_okN sub h q2 p1 p2 p3 p4 p5
        refine ⟨(kk, b, y) :: xs, by rw [a1]; rfl, by simp [a2]; omega, fun z m => ?_, a4, a5, a6, a7, a8, ?_⟩
        · rcases List.mem_cons.mp m with m | m
          · rw [m]; exact qk
          · exact a3 z m
        · show (mergeN (putN acc kk b y) xs).length ≤ acc.length + (xs.length + 1)
          omega
    · cases h
theorem r_dicN {keys : List (Option Expr)} {values : List Expr} {ss : List S} (hu : X.A.units + 65 < cLine) (h : PPs X pos keys values (trsOf (lx X xa ea c) Wx ss)) (hall : keys.all (·.isSome) = true) (hl : keys.length = values.length) (h0 : keys ≠ []) (h15 : keys.length ≤ 15) (hev : ss.length % 2 = 0) :
    PE X (.Dict keys values pos) (tE (lx X xa ea c) Wx (.dic true ss)) := by
  refine pe_imp (pe_dispN (xa := xa) hu h hall hl h0 h15) fun σ H Q ⟨ρ, as, W, e, w, h⟩ => ?_
  simp only [ev, aft_bind] at h
  intro p np
  have sm := same_upd (H := H) (o := dnO p []) np
  have w1 : Wok (upd H p (dnO p [])) (plus W [p]) := fun a q => by
    rcases q with q | q
    · exact w.same sm a q
    · rw [List.mem_singleton.mp q]; exact ⟨_, upd_same, trivial⟩
  have e1 := e.plus sm (bs := [p]) fun b m => by rw [List.mem_singleton.mp m]; exact np
  refine pairs_go hev e1 w1 (h.imp (fun ds hd H2 ps bs s2 e2 f2 n2 => ?_) fun _ q H' s => q H' (sm.trans s))
  unfold evDic at hd
  split at hd
  · rename_i lim
    rw [aft_bind] at hd
    obtain ⟨⟨ks, vs⟩, hk, hd⟩ := aft_lift hd
    obtain ⟨xs, rfl, a2, a3, a4, a5, a6, a7, a8, a9⟩ := mk_okN (K := kx X xa) (W := plus W [p]) (acc := []) (fun a q => .inl q) hk e2 rfl .nil .nil List.nodup_nil (fun x m => nomatch m)
    have hd : OkE (lx X xa ea c) H W Q (.dct .ow true ks vs) := hd
    have hp : H2 p = some (dnO p []) := s2 _ _ upd_same
    have z : (mergeN [] xs).length ≤ sizeLine := by
      rw [List.length_nil] at a9
      rw [sizeLine_eq]; omega
    have kp : ∀ {a : Addr} {o : HO}, H2 a = some o → ¬ plus W [p] a → upd H2 p (dnO p (mergeN [] xs)) a = some o := fun {a o} q nw => by
      rw [upd_ne fun q => nw (.inr (by rw [q]; exact List.mem_singleton.mpr rfl))]
      exact q
    refine ⟨hp, xs, rfl, by omega, a3, hd _ _ [p] ?_ (.o (.dn upd_same z a7 a8 a4 (a5.keep (fun a o q nw => kp q nw) fun a q => .inl q) (a6.keep (fun a o q nw => kp q nw) fun a q => .inl q))) (fun b m => by rw [List.mem_singleton.mp m]; exact np) (List.nodup_cons.mpr ⟨fun m => (by cases m), List.nodup_nil⟩)⟩
    intro a o q
    have : a ≠ p := ne_of_none q np
    rw [upd_ne this]
    exact s2 _ _ (sm _ _ q)
  · exact hd.elim
theorem r_dicN0 : PE X (.Dict [] [] pos) (tE (lx X xa ea c) Wx (.dic true [])) := by
  refine pe_imp pe_dnewN fun σ H Q ⟨ρ, as, W, e, w, h⟩ => ?_
  have h : OkE (lx X xa ea c) H W Q (.dct .ow true [] []) := by simp only [ev, evs] at h; exact h
  intro p np
  exact h _ _ [p] (same_upd np) (.o (.dn upd_same (by rw [sizeLine_eq]; decide) List.nodup_nil (fun x m => nomatch m) rfl .nil .nil)) (fun b m => by rw [List.mem_singleton.mp m]; exact np) (List.nodup_cons.mpr ⟨fun m => (by cases m), List.nodup_nil⟩)
end
end Ds

namespace Ds
open PySem PySem.Spec PyProof.Rows L2
/-! ## 13d. Dict comprehensions: what is filled may be any thing that begins as em and takes stores as put says -/
structure FillD (X : Cx) (em : Addr → HO) (put : Hp → Addr → V → V → Hp → Prop) : Prop where
  new : ∀ (H : Hp) (h : Heap), sysModules < h.objs.size → ObjOk X.prog X.w H (h.push { cls := .type "dict", data := .dict #[] }) h.objs.size (em h.objs.size)
  put : ∀ (Y : Cx), Y.prog = X.prog → Y.w = X.w → Y.K = X.K → Y.A = X.A → ∀ (pins : List (Addr × Obj)) (σ : L2.St) (H H' : Hp) (s : Shared) (D : Addr) (y z : V) (u r : Value) (Q : Unit → Shared → Prop) (E : Value → Shared → Prop),
    Inv Y pins σ H s → put H D y z H' → RelV y u → RelV z r → (∀ s', Inv Y pins σ H' s' → Q () s') → wpAny (model X.prog X.w) X.A (dictSet D u r) Q E s
/-- one turn behind the target -/
abbrev turnD (put : Hp → Addr → V → V → Hp → Prop) (tt : TT) (tk tv : TE) (vs : List Nat) (σ : L2.St) (D : Addr) (Nx : Hp → Prop) : L2.St → Hp → Prop := fun σ2 H2 => wipe σ2 vs = wipe σ vs ∧ tt σ2 H2 fun b H3 =>
  if b = true then tk σ2 H3 fun y H4 => tv σ2 H4 fun z H5 => ∃ H6, put H5 D y z H6 ∧ Nx H6 else Nx H3
def tDcG (em : Addr → HO) (put : Hp → Addr → V → V → Hp → Prop) (wi : TI) (g : TG) (tt : TT) (tk tv : TE) (vs : List Nat) : TE := fun σ H Q => wi σ H fun J H1 => ∀ D, H1 D = none →
  ∃ Wm : Nat → Nat → Hp → Prop, (∃ m, Wm 0 m (upd H1 D (em D))) ∧ ∀ i m H, Wm i m H → (J.stop i H ∧ Q (.ref D) H) ∨
    (J.go i H ∧ ∃ Nx : Hp → Prop, (∀ H', Nx H' → ∃ m', m' < m ∧ Wm (i + 1) m' H') ∧ ∀ x H', J.yld i H x H' → g x (wipe σ vs) H' (turnD put tt tk tv vs σ D Nx))
section
variable {X : Cx} {em : Addr → HO} {put : Hp → Addr → V → V → Hp → Prop} {kx' vx' tg iter : Expr} {ifs : List Expr} {scope : Scope} {own : List (Str × Nat)} {wi : TI} {g : TG} {tt : TT} {tk tv : TE}
theorem r_dcG {pos : Pos} (B : FillD X em put) (hc : X.calm = true) (hN : X.N.Nodup) (hi : PI X tg iter wi) (ok : BlkOk X.N X.env.scope scope own)
    (hg : ∀ (s : Shared) (H : Hp) (C : Addr) (cl : List (Str × Addr)) (fp : List Addr), PG (X.blk s H scope (compEnvC scope cl C X.env) fp) tg g)
    (ht : ∀ (s : Shared) (H : Hp) (C : Addr) (cl : List (Str × Addr)) (fp : List Addr), PTs (X.blk s H scope (compEnvC scope cl C X.env) fp) ifs tt)
    (hk : ∀ (s : Shared) (H : Hp) (C : Addr) (cl : List (Str × Addr)) (fp : List Addr), PE (X.blk s H scope (compEnvC scope cl C X.env) fp) kx' tk)
    (he : ∀ (s : Shared) (H : Hp) (C : Addr) (cl : List (Str × Addr)) (fp : List Addr), PE (X.blk s H scope (compEnvC scope cl C X.env) fp) vx' tv)
    (hs : ∀ x, foldedSetIterable iter X.env x = pure x) : PE X (.DictComp kx' vx' [⟨tg, iter, ifs, 0⟩] scope pos) (tDcG em put wi g tt tk tv (own.map (·.2))) := by
  refine ⟨fun pins s σ H Q I h => ?_⟩
  rw [arm_eval_DictComp]
  have free : ∀ y ∈ scope.names, y.2 = .free → ∃ c, X.env.cells.lookup y.1 = some c := fun y hy e => (ok.free y hy e).elim (fun k => I.ok.has _ (.inl k)) fun k => I.ok.has _ (.inr k)
  refine wpAny_comprehension_free rfl hs (closure_ok free) ok.kind (fun y hy e => by rw [ok.uniq y hy, e]) (thn (hi.run pins s σ H _ I h) fun xv s1 hx => thn hx fun itv s2 h2 => ?_)
  obtain ⟨it, fp, tn, J, H2, e, I2, It, st2, f2, q⟩ := h2
  subst e
  refine wpAny_newObj_type (newEnv_comp ?_)
  -- the new dict stands at D
  obtain ⟨D, hD⟩ : ∃ D, s2.heap.objs.size = D := ⟨_, rfl⟩
  have noD : H2 D = none := I2.hok.fresh (Nat.le_of_eq hD)
  obtain ⟨Wm, ⟨m0, w0⟩, turn⟩ := q D noD
  obtain ⟨s3, hs3⟩ : ∃ s3 : Shared, ({ s2 with heap := s2.heap.push { cls := .type "dict", data := .dict #[] } } : Shared) = s3 := ⟨_, rfl⟩
  have h3 : s3.heap = s2.heap.push { cls := .type "dict", data := .dict #[] } := hs3 ▸ rfl
  have I3 : Inv X pins σ (upd H2 D (em D)) s3 := hs3 ▸ I2.laid (t' := s2.toks) (fun b o e => Heap.get?_push_of_some _ e) (Nat.le_of_eq hD) (hD ▸ B.new _ s2.heap I2.big)
  have old : ∀ b ∈ fp, b < s2.heap.objs.size := fun b hb => let ⟨o, e, _⟩ := It.obj _ _ st2 b hb; Heap.lt_size e
  have f3 : ∀ b ∈ fp, FpOk X pins (upd H2 D (em D)) b ∧ b < s3.heap.objs.size := fun b hb => by
    have lt := old b hb
    exact ⟨⟨(upd_ne (hD ▸ Nat.ne_of_lt lt)).trans (f2 b hb).1, (f2 b hb).2⟩, by rw [h3, Heap.size_push]; exact Nat.lt_succ_of_lt lt⟩
  have st3 : tn 0 s3.heap := It.keep _ _ _ st2 fun b _ o e => h3 ▸ Heap.get?_push_of_some _ e
  have I4 := block_start I3 ok hN f3
  obtain ⟨cl, hcl⟩ : ∃ cl, cellsFrom (s3.heap.objs.size + 1) scope.names (cloFrom X.env.cells scope.names []) = cl := ⟨_, rfl⟩
  obtain ⟨s4, hs4⟩ : ∃ s4 : Shared, ({ s3 with heap := pushCells (s3.heap.push { cls := .type "dict", data := .dict #[] }) scope.names } : Shared) = s4 := ⟨_, rfl⟩
  obtain ⟨H3, hH3⟩ : ∃ H3, upd H2 D (em D) = H3 := ⟨_, rfl⟩
  rw [hcl, hs4, hH3] at I4
  rw [hH3] at I3 w0 f3
  obtain ⟨ce, hce⟩ : ∃ ce, compEnvC scope cl s3.heap.objs.size X.env = ce := ⟨_, rfl⟩
  have G1 := hg s3 H3 s3.heap.objs.size cl fp
  have T1 := ht s3 H3 s3.heap.objs.size cl fp
  have K1 := hk s3 H3 s3.heap.objs.size cl fp
  have V1 := he s3 H3 s3.heap.objs.size cl fp
  rw [hce] at I4 G1 T1 K1 V1
  have cL : ce.locals = s3.heap.objs.size := hce ▸ rfl
  have nfp : ∀ b ∈ fp, H3 b = none := fun b hb => (f3 b hb).1.1
  have st4 : tn 0 s4.heap := It.keep _ _ _ st3 fun b _ o e => hs4 ▸ pushCells_keeps _ _ _ _ (Heap.get?_push_of_some _ e)
  have stat : ∀ {σ' : L2.St} {H' : Hp} {s' : Shared}, Inv (X.blk s3 H3 scope ce fp) [] σ' H' s' → (∀ b ∈ fp, H' b = none) → ∀ b ∈ fp, FpOk (X.blk s3 H3 scope ce fp) [] H' b := fun I' n b hb =>
    ⟨n b hb, (I'.ok.exf b hb).1, I'.ok.exfs b hb, .inl hb, fun x c e => (I'.ok.exf b hb).2 x c e, fun p hp => absurd (show p ∈ ([] : List (Addr × Obj)) ++ [] from hp) List.not_mem_nil⟩
  have loop : codeAny (model X.prog X.w) X.A (.compLoop (.DictComp kx' vx' [⟨tg, iter, ifs, 0⟩] scope pos) 0 (.ref it) (.ref D) ce)
      (compPost (model X.prog X.w) X.A X.xe none (fun v s => ∃ x H, Inv X pins σ H s ∧ RelV x v ∧ Q x H) (.ref D) s3.heap.objs.size) s4 := by
    refine compLoop_anyD (fun n s' => ∃ i H', Inv (X.blk s3 H3 scope ce fp) [] (wipe σ (own.map (·.2))) H' s' ∧ tn i s'.heap ∧ (∀ b ∈ fp, H' b = none) ∧ Wm i n H') ?_ m0 ⟨0, H3, I4, st4, nfp, w0⟩
    rintro n s5 ⟨i, H5, I5, st5, n5, w5⟩
    rcases turn i n H5 w5 with ⟨stop, qq⟩ | ⟨go, Nx, hNx, step⟩
    · -- no item is left
      refine thnF (It.done (X.blk s3 H3 scope ce fp) rfl rfl rfl hc i [] s5 _ H5 (fun _ _ => False) I5 (stat I5 n5) st5 stop) fun r s6 ⟨hr, I6⟩ => ?_
      subst hr
      have I7 : Inv X pins σ H5 s6 := I3.call' (ch := fp) I6.os I6.base I6.hok I6.bare fun b hb => let z := (f3 b hb).1.2; ⟨z.2.2.1, z.1, z.2.2.2.1, z.2.2.2.2⟩
      have nC : H5 s3.heap.objs.size = none := cL ▸ (show H5 ce.locals = none from I6.free)
      obtain ⟨m, hn, _⟩ := I6.loc
      have hn : s6.heap.Ns s3.heap.objs.size m := cL ▸ (show s6.heap.Ns ce.locals m from hn)
      obtain ⟨f0, f1, f2', f3', f4, f5⟩ := I3.fpOk (Nat.le_refl _) nC
      exact ⟨m, hn, fun h'' sb => ⟨.ref D, H5, I7.turned (t' := s6.toks) (fun b o hb e => (sb.2 b hb).trans e) f0 f1 f3' f4 f5, rfl, qq⟩⟩
    · -- a turn
      refine thnF (It.item (X.blk s3 H3 scope ce fp) rfl rfl rfl hc i [] s5 _ H5 (fun _ _ => False) I5 (stat I5 n5) st5 go) fun r s6 ⟨u, hr, h6⟩ => ?_
      subst hr
      refine thnF h6 fun _ s7 ⟨x, H7, I7, r7, y7, st7, n7⟩ => ?_
      refine thnF (G1.run _ s7 _ H7 x u _ (I7.pinned (stat I7 n7) (It.obj _ _ st7)) r7 (step x H7 y7)) fun _ s8 ⟨σ8, H8, I8, hw8, q8⟩ => ?_
      refine thnF (T1.run _ s8 σ8 H8 _ I8 q8) fun b s9 ⟨H9, I9, q9⟩ => ?_
      have fin : ∀ {s' : Shared} {H' : Hp}, Inv (X.blk s3 H3 scope ce fp) ([] ++ pinsAt fp s7.heap) σ8 H' s' → Nx H' → ∃ m, m < n ∧ ∃ i H', Inv (X.blk s3 H3 scope ce fp) [] (wipe σ (own.map (·.2))) H' s' ∧ tn i s'.heap ∧ (∀ b ∈ fp, H' b = none) ∧ Wm i m H' := by
        intro s' H' I' nx
        obtain ⟨m', hm, w'⟩ := hNx H' nx
        have stay : ∀ b ∈ fp, ∀ o, s7.heap.get? b = some o → s'.heap.get? b = some o ∧ H' b = none := fun b hb o e => let z := I'.pin (b, o) (List.mem_append_right _ (List.mem_append_right _ (mem_pinsAt hb e))); ⟨z.1, z.2.1⟩
        refine ⟨m', hm, i + 1, H', (I'.unpinned (pins := [])).weak (by rw [← hw8, wipe_length]) (fun j v e => ?_), It.keep _ _ _ st7 fun b hb o e => (stay b hb o e).1, fun b hb => let ⟨o, e, _⟩ := It.obj _ _ st7 b hb; (stay b hb o e).2, w'⟩
        rw [← hw8] at e
        exact (wipe_some e).1
      dsimp only at q9
      by_cases hb : b = true
      · subst hb
        rw [if_pos rfl] at q9 ⊢
        refine thnF (K1.run _ s9 σ8 H9 _ I9 q9) fun z s10 ⟨yk, H10, I10, r10, q10⟩ => ?_
        refine thnF (V1.run _ s10 σ8 H10 _ I10 q10) fun z2 s11 ⟨yv, H11, I11, r11, H12, hp, nx⟩ => ?_
        exact B.put (X.blk s3 H3 scope ce fp) rfl rfl rfl rfl _ _ _ _ _ _ _ _ _ _ _ _ I11 hp r10 r11 fun s12 I12 => fin I12 nx
      · rw [if_neg hb] at q9 ⊢
        exact fin I9 q9
  have := codeAny_compStart_dict loop (It.self X.A 0 _ _ _ st4 loop)
  subst hce hcl hs4 hH3 hs3 hD
  exact this
end

def emD (t : Bool) (a : Addr) : HO := if t = true then dnO a [] else .dK []
def putD (K : Kx) (H : Hp) (D : Addr) (y z : V) (H' : Hp) : Prop := (∃ kvs k, y = kV k ∧ H D = some (.dK kvs) ∧ kvs.length < sizeLine ∧ H' = upd H D (.dK (putK kvs k z))) ∨
  ∃ xs k b, Nd K H D xs ∧ NKey K H y k b ∧ xs.length < sizeLine ∧ H' = upd H D (dnO D (putN xs k b z))
section
variable {X : Cx} {xa : Xa} {ea : Ec → Addr} {c : Cn} {Wx : WX}
theorem nd_room0 {A : Around} (hu : A.units + 65 < cLine) : (nestedKind X.prog X.w).room A := by
  show A.units + 8 < cLine
  omega
theorem nd_dictSet {pins : List (Addr × Obj)} {σ : L2.St} {H : Hp} {s : Shared} {E : Value → Shared → Prop} {A : Around} {a b : Addr} {xs : XN} {k : NestedKey} {y v : V} {u r : Value} {Q : Unit → Shared → Prop} (hu : A.units + 65 < cLine) (I : Inv X pins σ H s) (n : Nd (kx X xa) H a xs) (q : NKey (kx X xa) H y k b) (ry : RelV y u) (rv : RelV v r) (lim : xs.length < sizeLine)
    (h : ∀ s', Inv X pins σ (upd H a (dnO a (putN xs k b v))) s' → Q () s') : wpAny (model X.prog X.w) A (dictSet a u r) Q E s := by
  obtain rfl : u = .ref b := by have := q.1; subst this; exact ry
  obtain ⟨hd, ys, rel, dd⟩ := n.of I
  refine wpAny_dictSet_heap (hsz := by rw [← Paired.length rel]; omega) (nd_room0 hu) (q.is I) dd fun h' dd' hs => h _ ?_
  have there : ∃ o, h'.get? a = some o := let ⟨o, _, _, h1, _⟩ := dd'; ⟨o, h1⟩
  obtain ⟨ks, W, e, _⟩ := n.key
  obtain ⟨_, _, d, _, _, ed⟩ := q
  exact d_write I (by rw [n.h]; exact True.intro) hs there (dn_new hd (rel.put k b rv) (tls_put (toNs_tl e) (toN_tl ed)) dd')
theorem fill_D (hu : X.A.units + 65 < cLine) (t : Bool) : FillD X (emD t) (putD (kx X xa)) where
  new := fun H h hb => by
    cases t with
    | true => exact dn_empty h hb
    | false => exact dk_empty h hb
  put := fun Y e1 e2 e3 e4 pins σ H H' s D y z u r Q E I hp ry rz k => by
    rcases hp with ⟨kvs, kk, rfl, hD, lim, rfl⟩ | ⟨xs, kk, b, n, q, lim, rfl⟩
    · rw [← e1, ← e2, ← e4]
      exact d_dictSet I hD lim ry rz k
    · rw [← e1, ← e2, ← e4]
      have ek : kx X xa = kx Y xa := by unfold kx; rw [e3]
      rw [ek] at n q
      exact nd_dictSet (by rw [e4]; exact hu) I n q ry rz lim k
/-- a store into an owned dict -/
theorem O.put {K : Kx} {H : Hp} {W : Addr → Prop} {t : Bool} {ks vs : List D} {p : Addr} {k d : D} {vk vd : V} {bk bd : List Addr} {W1 W2 : Addr → Prop} (o : O K H W (.dct .ow t ks vs) (.ref p) [p]) (hW : W p) (ok : keyOk t k = true) (pv : plainV d = true) (lim : ks.length < sizeLine)
    (ek : E K H W1 k vk bk) (s1 : ∀ a, W a → W1 a) (ed : E K H W2 d vd bd) (s2 : ∀ a, W a → W2 a) : ∃ u, putD K H p vk vd (upd H p u) ∧ Wr u ∧ O K (upd H p u) W (.dct .ow t (putKs ks k) (putVs ks vs k d)) (.ref p) [p] := by
  have kp : ∀ {u : HO} (a : Addr) (o : HO), H a = some o → ¬ W a → upd H p u a = some o := fun {u} a o e n => by rw [upd_ne fun q => n (by rw [q]; exact hW)]; exact e
  have fd := plain_F pv s2 ed
  cases o with
  | dk hp z nd e r =>
    rename_i kv
    subst e
    obtain ⟨kk, _, rfl⟩ := kOf_ok ok
    obtain ⟨rfl, _⟩ := E.key ek
    rw [List.length_map] at lim
    refine ⟨.dK (putK kv kk vd), .inl ⟨kv, kk, rfl, hp, lim, rfl⟩, trivial, .dk upd_same (by have := length_putK kv kk vd; omega) (put_nodup nd) (put_keys nd) ((put_vals fd nd r).keep (fun a o e n => kp a o e n) fun _ q => .inl q)⟩
  | dn hp z nd dp e rk r =>
    rename_i xs
    obtain ⟨kk, b, ekk, dk, qk, fk⟩ := key_N ok ek
    have l2 : xs.length < sizeLine := by have := toNs_len e; rw [List.length_map] at this; omega
    obtain ⟨p1, p2, p3, p4, p5, _, p7⟩ := putN_all ekk (fk s1) fd dk e rk r nd dp
    exact ⟨dnO p (putN xs kk b vd), .inr ⟨xs, kk, b, ⟨hp, z, nd, dp, ks, W, e, rk⟩, qk, l2, rfl⟩, trivial, .dn upd_same (by omega) p4 p5 p1 (p2.keep (fun a o e n => kp a o e n) fun _ q => .inl q) (p3.keep (fun a o e n => kp a o e n) fun _ q => .inl q)⟩
theorem mkDic_len {t : Bool} : ∀ {ds ks vs ks' vs' : List D}, mkDic t ds ks vs = some (ks', vs') → ks'.length ≤ ks.length + ds.length
  | [], ks, vs, ks', vs', h => by simp only [mkDic, Option.some.injEq, Prod.mk.injEq] at h; rw [← h.1]; simp
  | [_], ks, vs, ks', vs', h => by simp [mkDic] at h
  | k :: v :: ds, ks, vs, ks', vs', h => by
    simp only [mkDic] at h
    split at h
    · have := mkDic_len h
      have l : ∀ (ks : List D), (putKs ks k).length ≤ ks.length + 1 := fun ks => by
        induction ks with
        | nil => simp [putKs]
        | cons x xs ih => simp only [putKs]; split <;> simp <;> omega
      have := l ks
      simp only [List.length_cons]
      omega
    · cases h
theorem mkDic_append {t : Bool} : ∀ {xs ys ks vs : List D} {r : List D × List D}, xs.length % 2 = 0 → mkDic t (xs ++ ys) ks vs = some r → ∃ p, mkDic t xs ks vs = some p ∧ mkDic t ys p.1 p.2 = some r
  | [], ys, ks, vs, r, _, h => ⟨(ks, vs), rfl, h⟩
  | [_], ys, ks, vs, r, e, h => by simp at e
  | k :: v :: xs, ys, ks, vs, r, e, h => by
    simp only [List.cons_append, mkDic] at h ⊢
    split at h
    · rename_i c
      rw [if_pos c]
      exact mkDic_append (by simp only [List.length_cons] at e; omega) h
    · cases h
theorem dcomp_tl {t : Bool} {vs : List Nat} {g : G} {it sk se : S} {tc : S} (hgn : ∀ j ∈ gnames g, j ∈ vs) : ∀ σ H Q, tE (lx X xa ea c) Wx (.dcomp t vs g it tc sk se) σ H Q →
    tDcG (emD t) (putD (kx X xa)) (tI (lx X xa ea c) Wx false it) (tG (kx X xa) g) (tT (lx X xa ea c) Wf tc) (tE (lx X xa ea c) Wf sk) (tE (lx X xa ea c) Wf se) vs σ H Q := by
  intro σ H Q ⟨ρ, as, W, e, w, h⟩
  simp only [ev, aft_bind] at h
  refine ⟨ρ, as, W, e, w, h.imp (fun ds hd => ?_) fun _ q => q⟩
  intro H1 J s1 wk p np
  have w1 := w.same s1
  cases q : mapRe (compTurn (fun ρ' => ev c sk ρ' >>= fun x => ev c se ρ' >>= fun y => Re.ok [x, y]) (fun ρ' => ev c tc ρ' >>= asB) g (wipeR ρ vs)) ds with
  | st => rw [q] at hd; exact hd.elim
  | er er => exact absurd q (mapRe_er fun a => turn_er)
  | ok xss =>
    rw [q] at hd
    by_cases lim : ds.length < sizeLine
    · have hd : Aft (if ds.length < sizeLine then lift (mkDic t xss.flatten [] []) >>= fun p => Re.ok (D.dct .ow t p.1 p.2) else .st) (OkE (lx X xa ea c) H W Q) (ErE (lx X xa ea c) Wx σ H) := hd
      rw [if_pos lim, aft_bind] at hd
      obtain ⟨⟨ks, vs'⟩, hk, hd⟩ := aft_lift hd
      have hd : OkE (lx X xa ea c) H W Q (.dct .ow t ks vs') := hd
      obtain ⟨lx', gx⟩ := mapRe_get q
      have two : ∀ xs ∈ xss, xs.length = 0 ∨ xs.length = 2 := fun xs m => by
        obtain ⟨i, hi⟩ := List.mem_iff_getElem?.mp m
        have li : i < xss.length := (List.getElem?_eq_some_iff.mp hi).1
        obtain ⟨xs', h1, h2⟩ := gx i ds[i] (by simp [← lx', li])
        rw [hi] at h1
        cases h1
        obtain ⟨ρ', k, _, _, h3, h4⟩ := turn_out h2
        cases k with
        | false => rw [h4 rfl]; exact .inl rfl
        | true =>
          have h3 := h3 rfl
          cases q1 : ev c sk ρ' with
          | st => rw [q1] at h3; cases h3
          | er _ => rw [q1] at h3; cases h3
          | ok d =>
            rw [q1] at h3
            simp only [bind_ok] at h3
            cases q2 : ev c se ρ' with
            | st => rw [q2] at h3; cases h3
            | er _ => rw [q2] at h3; cases h3
            | ok d => rw [q2] at h3; cases h3; exact .inr rfl
      have even : ∀ i, (xss.take i).flatten.length % 2 = 0 ∧ (xss.take i).flatten.length ≤ 2 * i := fun i => by
        have : ∀ yss : List (List D), (∀ xs ∈ yss, xs.length = 0 ∨ xs.length = 2) → yss.flatten.length % 2 = 0 ∧ yss.flatten.length ≤ 2 * yss.length := fun yss => by
          induction yss with
          | nil => intro _; simp
          | cons ys yss ih =>
            intro hh
            have h1 := ih fun xs m => hh xs (List.mem_cons_of_mem _ m)
            have h2 := hh ys List.mem_cons_self
            simp only [List.flatten_cons, List.length_append, List.length_cons]
            omega
        have := this (xss.take i) fun xs m => two xs (List.mem_of_mem_take m)
        have l := List.length_take_le i xss
        omega
      refine comp_loop wk (fun i H => ∃ us ws, mkDic t (xss.take i).flatten [] [] = some (us, ws) ∧ Same H1 H ∧ Wok H (plus W [p]) ∧ us.length ≤ i ∧ O (kx X xa) H (plus W [p]) (.dct .ow t us ws) (.ref p) [p]) (fun i H ⟨_, _, _, m, _⟩ a o e _ => m a o e) ⟨[], [], rfl, same_upd np, ?_, Nat.le_refl _, ?_⟩
        (body := fun x H' Nx => tG (kx X xa) g x (wipe σ vs) H' (turnD (putD (kx X xa)) (tT (lx X xa ea c) Wf tc) (tE (lx X xa ea c) Wf sk) (tE (lx X xa ea c) Wf se) vs σ p Nx)) ?_ ?_
      · intro a q
        rcases q with q | q
        · exact w1.same (same_upd np) a q
        · rw [List.mem_singleton.mp q]
          refine ⟨_, upd_same, ?_⟩
          cases t <;> trivial
      · have z0 : 0 ≤ sizeLine := Nat.zero_le _
        cases t with
        | true => exact .dn upd_same z0 List.nodup_nil (fun x m => nomatch m) rfl .nil .nil
        | false => exact .dk upd_same z0 List.nodup_nil rfl .nil
      · rintro i d x H2 H3 hdi ⟨us, ws, hm, sm, w2, lu, o⟩ s3 fx
        obtain ⟨xs, hxs, hturn⟩ := gx i d hdi
        obtain ⟨ρ2, k, hset, htst, hk1, hk0⟩ := turn_out hturn
        have fr : ∀ a ∈ [p], H1 a = none := fun a m => by rw [List.mem_singleton.mp m]; exact np
        have e2 : Sl (kx X xa) H3 (plus W [p]) ρ σ as := (e.same (s1.trans sm) fun a q => q.elim .inl fun q => .inr (s1.free (fr a q))).same s3 fun _ q => .inl q
        obtain ⟨asw, ew, subw⟩ := wipe_sl e2 vs
        have fxx : F (kx X xa) H3 (plus W [p]) d x := fx _ w2 fun a q => q.elim .inl fun q => .inr (fr a q)
        refine ⟨d, _, asw, _, [], ρ2, ew, .fz fxx, hset, fun σ2 as2 es2 _ off => ⟨wipe_off off hgn, ?_⟩⟩
        have w3 := w2.same s3
        refine tT_go es2 w3 ?_
        have htst : evT c tc ρ2 = .ok k := htst
        rw [htst]
        intro H4 s4 e4 w4
        have o4 : O (kx X xa) H4 (plus W [p]) (.dct .ow t us ws) (.ref p) [p] := o.keep (fun a o e _ => s4 _ _ (s3 _ _ e)) (fun _ q => .inl q) fun a _ o e => s4 _ _ (s3 _ _ e)
        have sm4 : Same H1 H4 := (sm.trans s3).trans s4
        have tk := take_flat hxs
        cases k with
        | false =>
          rw [if_neg (by decide)]
          have ex := hk0 rfl
          subst ex
          exact ⟨us, ws, by rw [tk, List.append_nil]; exact hm, sm4, w4, by omega, o4⟩
        | true =>
          rw [if_pos rfl]
          have h1 := hk1 rfl
          refine tE_go e4 w4 ?_
          cases q1 : ev c sk ρ2 with
          | st => rw [q1] at h1; cases h1
          | er _ => rw [q1] at h1; cases h1
          | ok dk =>
            rw [q1] at h1
            simp only [bind_ok] at h1
            intro H5 vk bk s5 ek fk nk e5 w5
            refine tE_go e5 w5 ?_
            cases q2 : ev c se ρ2 with
            | st => rw [q2] at h1; cases h1
            | er _ => rw [q2] at h1; cases h1
            | ok dv =>
              rw [q2] at h1
              cases h1
              intro H6 vv bv s6 ev' fv nv e6 w6
              have o6 : O (kx X xa) H6 (plus W [p]) (.dct .ow t us ws) (.ref p) [p] := o4.keep (fun a o e _ => s6 _ _ (s5 _ _ e)) (fun _ q => .inl q) fun a _ o e => s6 _ _ (s5 _ _ e)
              -- what the whole dict says of this turn
              have whole : mkDic t (xss.take (i + 1)).flatten [] [] = mkDic t [dk, dv] us ws ∧ (mkDic t [dk, dv] us ws).isSome = true := by
                have a1 : xss.flatten = (xss.take (i + 1)).flatten ++ (xss.drop (i + 1)).flatten := by rw [← List.flatten_append, List.take_append_drop]
                rw [a1] at hk
                obtain ⟨p1, b1, _⟩ := mkDic_append (even (i + 1)).1 hk
                have b2 := b1
                rw [tk] at b2
                obtain ⟨p2, b3, b4⟩ := mkDic_append (even i).1 b2
                rw [hm] at b3
                cases b3
                exact ⟨by rw [b1, b4], by rw [b4]; rfl⟩
              obtain ⟨a1, a2⟩ := whole
              by_cases ok : (keyOk t dk && plainV dv) = true
              · have a3 : mkDic t [dk, dv] us ws = some (putKs us dk, putVs us ws dk dv) := by simp only [mkDic, ok, if_true]
                simp only [Bool.and_eq_true] at ok
                have li : i < ds.length := (List.getElem?_eq_some_iff.mp hdi).1
                obtain ⟨u, pd, wr, onew⟩ := O.put (W1 := plus (plus W [p]) bk) (W2 := plus (plus (plus W [p]) bk) bv) o6 (.inr List.mem_cons_self) ok.1 ok.2 (by omega) (ek.keep s6 fun a q => .inl q) (fun a q => .inl q) ev' (fun a q => .inl (.inl q))
                refine ⟨_, pd, _, _, by rw [a1, a3], ?_, ?_, ?_, onew⟩
                · intro a o q
                  rw [upd_ne (ne_of_none q np)]
                  exact s6 _ _ (s5 _ _ (sm4 _ _ q))
                · intro a q
                  by_cases hap : a = p
                  · rw [hap]; exact ⟨_, upd_same, wr⟩
                  · rw [upd_ne hap]; exact w6 a (.inl (.inl q))
                · have l := mkDic_len (t := t) a3
                  have : ∀ ks : List D, (putKs ks dk).length ≤ ks.length + 1 := fun ks => by
                    induction ks with
                    | nil => simp [putKs]
                    | cons x xs ih => simp only [putKs]; split <;> simp <;> omega
                  have := this us
                  omega
              · simp only [mkDic] at a2
                rw [if_neg ok] at a2
                cases a2
      · rintro H2 ⟨us, ws, hm, sm, w2, _, o⟩
        rw [← lx', List.take_length, hk] at hm
        cases hm
        exact hd _ _ [p] (s1.trans sm) (.o o) (fun b m => by rw [List.mem_singleton.mp m]; exact s1.free np) (List.nodup_cons.mpr ⟨fun m => (by cases m), List.nodup_nil⟩)
    · have hd : Aft (if ds.length < sizeLine then lift (mkDic t xss.flatten [] []) >>= fun p => Re.ok (D.dct .ow t p.1 p.2) else .st) (OkE (lx X xa ea c) H W Q) (ErE (lx X xa ea c) Wx σ H) := hd
      rw [if_neg lim] at hd
      exact hd.elim
theorem r_dcomp {kx' vx' tg iter : Expr} {ifs : List Expr} {scope : Scope} {own : List (Str × Nat)} {t : Bool} {g : G} {it sk se : S} {tc : S} {pos : Pos} (hu : X.A.units + 65 < cLine) (hc : X.calm = true) (hN : X.N.Nodup) (hi : PI X tg iter (tI (lx X xa ea c) Wx false it)) (ok : BlkOk X.N X.env.scope scope own)
    (hg : ∀ (s : Shared) (H : Hp) (C : Addr) (cl : List (Str × Addr)) (fp : List Addr), PG (X.blk s H scope (compEnvC scope cl C X.env) fp) tg (tG (kx X xa) g)) (hgn : ∀ j ∈ gnames g, j ∈ own.map (·.2))
    (ht : ∀ (s : Shared) (H : Hp) (C : Addr) (cl : List (Str × Addr)) (fp : List Addr), PTs (X.blk s H scope (compEnvC scope cl C X.env) fp) ifs (tT (lx X xa ea c) Wf tc))
    (hk : ∀ (s : Shared) (H : Hp) (C : Addr) (cl : List (Str × Addr)) (fp : List Addr), PE (X.blk s H scope (compEnvC scope cl C X.env) fp) kx' (tE (lx X xa ea c) Wf sk))
    (he : ∀ (s : Shared) (H : Hp) (C : Addr) (cl : List (Str × Addr)) (fp : List Addr), PE (X.blk s H scope (compEnvC scope cl C X.env) fp) vx' (tE (lx X xa ea c) Wf se)) (hs : ∀ x, foldedSetIterable iter X.env x = pure x) :
    PE X (.DictComp kx' vx' [⟨tg, iter, ifs, 0⟩] scope pos) (tE (lx X xa ea c) Wx (.dcomp t (own.map (·.2)) g it tc sk se)) :=
  pe_imp (r_dcG (fill_D (xa := xa) hu t) hc hN hi ok hg ht hk he hs) (dcomp_tl hgn)
end
end Ds

namespace Ds
open PySem PySem.Spec PyProof.Rows L2

/-! ## 14. Is that text the tree of that code? -/
mutual
def same : D → D → Bool
  | .non, .non => true
  | .bl a, .bl b => decide (a = b)
  | .int a, .int b => decide (a = b)
  | .str a, .str b => decide (a = b)
  | .tup a, .tup b => sames a b
  | .lst .lk a, .lst .lk b => sames a b
  | _, _ => false
def sames : List D → List D → Bool
  | [], [] => true
  | a :: as, b :: bs => same a b && sames as bs
  | _, _ => false
end
mutual
theorem same_eq : ∀ {a b : D}, same a b = true → a = b
  | .non, b, h => by cases b <;> first | rfl | simp [same] at h
  | .bl _, b, h => by cases b <;> simp_all [same]
  | .int _, b, h => by cases b <;> simp_all [same]
  | .str _, b, h => by cases b <;> simp_all [same]
  | .tup as, b, h => by
    cases b with
    | tup bs => simp only [same] at h; rw [sames_eq h]
    | _ => simp [same] at h
  | .lst o as, b, h => by
    cases b with
    | lst o' bs =>
      cases o <;> cases o' <;> first | (simp only [same] at h; rw [sames_eq h]) | simp [same] at h
    | _ => cases o <;> simp [same] at h
  | .exc, b, h => by cases b <;> simp [same] at h
theorem sames_eq : ∀ {a b : List D}, sames a b = true → a = b
  | [], b, h => by cases b <;> first | rfl | simp [sames] at h
  | a :: as, b, h => by
    cases b with
    | nil => simp [sames] at h
    | cons b bs => simp only [sames, Bool.and_eq_true] at h; rw [same_eq h.1, sames_eq h.2]
end

/-- the context of a text -/
structure Ct where
  N : List Str
  sc : Scope
  bs : Option Scope := none
  calm : Bool := true
  sx : Bool := false
  fns : List (Str × Nat) := []
  cons : List (Str × D) := []
  free : List Str := []
  gcd : Bool := false
  exs : List (Str × Ec) := []
  /-- within a def that writes into its first argument -/
  slf : Bool := false
  /-- methods that only read: the def's place, name, class, arguments behind self; makers: place, the class's name, arguments; methods, defs that write into their first argument: place, name, further arguments -/
  rms : List (Nat × Str × Nat × Nat) := []
  mks : List (Nat × Str × Nat) := []
  mms : List (Nat × Str × Nat) := []
  mfs : List (Nat × Str × Nat) := []
/-- no def is called -/
def Ct.noFn (Γ : Ct) : Prop := Γ.fns = [] ∧ Γ.rms = [] ∧ Γ.mks = [] ∧ Γ.mms = [] ∧ Γ.mfs = []
inductive Md where
  | v | t | w
  deriving DecidableEq

def visB (Γ : Ct) (x : Str) : Bool := match Γ.sc.names.lookup x with
  | some .local => true | some .cell => true | some .free => true | _ => false
def locB (Γ : Ct) (x : Str) : Bool := match Γ.sc.names.lookup x with
  | some .local => true | some .cell => (match Γ.bs with | none => true | some s => s.names.lookup x == some .cell) | _ => false
def glB (Γ : Ct) (x : Str) : Bool := decide (Γ.sc.names.lookup x = some .globalImplicit) && !(x == ("__debug__" : Str)) && !(x == ("__classdict__" : Str))
def varB (Γ : Ct) (i : Nat) (x : Str) : Bool := decide (Γ.N[i]? = some x) && visB Γ x && !(x == ("__debug__" : Str)) && !(x == ("__classdict__" : Str))
/-- a builtin's name -/
def bltB (Γ : Ct) (x : Str) : Bool := decide (x ∈ Γ.free) && glB Γ x
def noStar : Expr → Bool
  | .Starred .. => false
  | _ => true
def noSet : Expr → Bool
  | .Set .. => false
  | _ => true
def noSlice : Expr → Bool
  | .Slice .. => false
  | _ => true
def shapeT : Expr → Bool
  | .UnaryOp .Not _ _ => false | .BoolOp .. => false | .IfExp .. => false | .Compare .. => false
  | _ => true
def okM (m : Md) (e : Expr) : Bool := match m with
  | .v => true
  | .t => shapeT e
  | .w => false
def bltN : Blt → String
  | .len => "len" | .sum => "sum" | .all => "all" | .any => "any" | .tuple => "tuple" | .list => "list" | .int => "int"
  | .abs => "abs" | .min => "min" | .max => "max" | .sorted => "sorted" | .gcd => "gcd" | .inst _ => "isinstance"
def relS (scope sc : Scope) : Scope := { scope with names := scope.names.map fun (n, k) => if (k == NameKind.free && sc.kind == .function && sc.names.lookup n == some .cell) then (n, NameKind.cell) else (n, k) }
def Ct.blk (Γ : Ct) (scope : Scope) : Ct := { Γ with sc := relS scope Γ.sc, bs := some scope }
/-- a block where an exception is handled -/
def Ct.hblk (Γ : Ct) (scope : Scope) : Ct := { Γ with sc := relS scope Γ.sc, bs := some scope, sx := false, calm := false, fns := [], rms := [], mks := [], mms := [], mfs := [] }
def ownOf (N : List Str) : List Nat → List (Str × Nat)
  | [] => []
  | v :: vs => match N[v]? with
    | some x => (x, v) :: ownOf N vs
    | none => ownOf N vs
def within (is vs : List Nat) : Bool := is.all fun i => decide (i ∈ vs)
def blkB (Γ : Ct) (scope : Scope) (vs : List Nat) : Bool := Γ.calm && decide ((ownOf Γ.N vs).map (·.2) = vs) && blkC Γ.N Γ.sc scope (ownOf Γ.N vs)

mutual
def ckG (Γ : Ct) : G → Expr → Bool
  | .nm i, e => (match e with
    | .Name x _ => decide (Γ.N[i]? = some x) && locB Γ x
    | _ => false)
  | .tup gs, e => (match e with
    | .Tuple es _ _ => Γ.calm && ckGs Γ gs es
    | _ => false)
def ckGs (Γ : Ct) : List G → List Expr → Bool
  | [], es => (match es with
    | [] => true
    | _ => false)
  | g :: gs, es => (match es with
    | e :: es => noStar e && ckG Γ g e && ckGs Γ gs es
    | _ => false)
end
def isNm (x : Str) (y : String) (Γ : Ct) : Bool := decide (x = Str.ofString y) && bltB Γ x

abbrev KE := Expr → Bool
def cNon (e : Expr) : Bool := match e with
  | .Constant .none _ _ => true
  | _ => false
def cBl (b : Bool) (e : Expr) : Bool := match e with
  | .Constant (.bool k) _ _ => decide (b = k)
  | _ => false
def cInt (i : Int) (e : Expr) : Bool := match e with
  | .Constant (.int k) _ _ => decide (i = k)
  | _ => false
def cStr (x : Str) (e : Expr) : Bool := match e with
  | .Constant (.str k) _ _ => decide (x = k)
  | _ => false
def cCon (Γ : Ct) (x : Str) (d : D) (e : Expr) : Bool := match e with
  | .Name y _ => decide (x = y) && glB Γ y && (Γ.cons.any fun p => decide (p.1 = x) && same p.2 d)
  | _ => false
def cVar (Γ : Ct) (i : Nat) (e : Expr) : Bool := match e with
  | .Name x _ => varB Γ i x
  | _ => false
def cTup (k : List Expr → Bool) (e : Expr) : Bool := match e with
  | .Tuple es _ _ => k es
  | _ => false
def cLst (k : List Expr → Bool) (e : Expr) : Bool := match e with
  | .List es _ => k es
  | _ => false
def cBin (op : Bop) (a b : KE) (e : Expr) : Bool := match e with
  | .BinOp x o y _ => decide (o = opOf op) && a x && b y
  | _ => false
def cNeg (a : KE) (e : Expr) : Bool := match e with
  | .UnaryOp .USub x _ => a x
  | _ => false
def cNot (a : KE) (e : Expr) : Bool := match e with
  | .UnaryOp .Not x _ => a x
  | _ => false
def cCmp (op : Cop) (a b : KE) (e : Expr) : Bool := match e with
  | .Compare x [o] [y] _ => decide (o = copOf op) && !behindInMarks (copOf op) y && a x && b y
  | _ => false
def cChn (o1 o2 : Cop) (a b d : KE) (e : Expr) : Bool := match e with
  | .Compare x [p1, p2] [y, z] _ => decide (p1 = copOf o1) && decide (p2 = copOf o2) && !lastMarks [copOf o1, copOf o2] [y, z] && a x && b y && d z
  | _ => false
def cRest (op : BoolOp) (b b' : KE) (y : Expr) (p : Pos) : List Expr → Bool
  | [] => b y
  | z :: zs => b' (.BoolOp op (y :: z :: zs) p)
def cAnd (a b b' : KE) (e : Expr) : Bool := match e with
  | .BoolOp .And (x :: y :: r) p => a x && cRest .And b b' y p r
  | _ => false
def cOr (a b b' : KE) (e : Expr) : Bool := match e with
  | .BoolOp .Or (x :: y :: r) p => a x && cRest .Or b b' y p r
  | _ => false
def cIte (t a b : KE) (e : Expr) : Bool := match e with
  | .IfExp z x y _ => t z && a x && b y
  | _ => false
def cIx (a b : KE) (e : Expr) : Bool := match e with
  | .Subscript x y _ => noSlice y && a x && b y
  | _ => false
def cDin (g : Bool) (a b : KE) (e : Expr) : Bool := match e with
  | .Compare x [o] [y] _ => decide (o = dOp g) && !behindInMarks (dOp g) y && a x && b y
  | _ => false
/-- keys and values in turn -/
def interE : List (Option Expr) → List Expr → List Expr
  | some k :: ks, v :: vs => k :: v :: interE ks vs
  | _, _ => []
def cDic (t : Bool) (n : Nat) (k : List Expr → Bool) (e : Expr) : Bool := match e with
  | .Dict [] [] _ => decide (n = 0)
  | .Dict (q :: keys) values _ => decide (n = 2 * (q :: keys).length) && (q :: keys).all (·.isSome) && decide ((q :: keys).length = values.length) && decide ((q :: keys).length ≤ 15) && k (interE (q :: keys) values)
  | _ => false
def cSl (a : KE) (l h : Option Expr → Bool) (e : Expr) : Bool := match e with
  | .Subscript x (.Slice lo hi none _) _ => a x && l lo && h hi
  | _ => false
def cRev (a : KE) (e : Expr) : Bool := match e with
  | .Subscript x (.Slice none none (some (.UnaryOp .USub (.Constant (.int 1) _ _) _)) _) _ => a x
  | _ => false
def is0 : S → Bool
  | .int 0 => true
  | _ => false
def cInrg (Γ : Ct) (g : Bool) (ka kb : KE) (e : Expr) : Bool := match e with
  | .Compare a [o] [.Call (.Name x _) [b] [] _] _ => decide (o = inOp g) && isNm x "range" Γ && noStar b && ka a && kb b
  | _ => false
def cLrg (Γ : Ct) (tup one : Bool) (l : S) (kb : KE) (e : Expr) : Bool := match e with
  | .Call (.Name y _) [.Call (.Name x _) [b] [] _] [] _ => one && is0 l && isNm y (if tup then "tuple" else "list") Γ && isNm x "range" Γ && Γ.calm && noStar b && kb b
  | _ => false
def cRgv (Γ : Ct) (l : S) (kb : KE) (e : Expr) : Bool := match e with
  | .Call (.Name x _) [b] [] _ => is0 l && isNm x "range" Γ && noStar b && kb b
  | _ => false
/-- a.x is asked of a alone -/
def plainO : Expr → Bool
  | .Name _ _ => true
  | .Attribute _ _ _ => true
  | .Subscript _ _ _ => true
  | _ => false
def cFld (x : Str) (k : KE) (e : Expr) : Bool := match e with
  | .Attribute o y _ => decide (x = y) && plainO o && k o
  | _ => false
/-- no star among them -/
def nst (es : List Expr) : Bool := es.all noStar
def cRmeth (Γ : Ct) (f : Nat) (m : Str) (k n : Nat) (ka : KE) (ks : List Expr → Bool) (e : Expr) : Bool := match e with
  | .Call (.Attribute (.Name x p) m' apos) es [] cpos => !Γ.sx && decide (m = m') && decide ((f, m, k, n) ∈ Γ.rms) && (apos.endLine == cpos.line) && decide (es.length < 28) && ka (.Name x p) && ks es
  | _ => false
def cMk (Γ : Ct) (f n : Nat) (ks : List Expr → Bool) (e : Expr) : Bool := match e with
  | .Call (.Name x _) (y :: ys) [] _ => !Γ.sx && decide ((f, x, n) ∈ Γ.mks) && glB Γ x && ks (y :: ys)
  | _ => false
def cCall (Γ : Ct) (f : Nat) (n : Nat) (k : List Expr → Bool) (e : Expr) : Bool := match e with
  | .Call (.Name x _) (y :: ys) [] _ => !Γ.sx && decide (Γ.fns[f]? = some (x, n)) && glB Γ x && k (y :: ys)
  | _ => false
def cInst (Γ : Ct) (t : Ty) (a : KE) (e : Expr) : Bool := match e with
  | .Call (.Name x _) [z, .Name u _] [] _ => isNm x "isinstance" Γ && isNm u (tyName t) Γ && noStar z && a z
  | _ => false
def cGcd (Γ : Ct) (k : List Expr → Bool) (e : Expr) : Bool := match e with
  | .Call (.Name x _) (y :: ys) [] _ => decide (x = "gcd") && Γ.calm && Γ.gcd && glB Γ x && k (y :: ys)
  | _ => false
def cBlt (Γ : Ct) (b : Blt) (k : List Expr → Bool) (e : Expr) : Bool := match e with
  | .Call (.Name x _) (y :: ys) [] _ => isNm x (bltN b) Γ && Γ.calm && k (y :: ys)
  | _ => false
def cDlen (Γ : Ct) (k : KE) (e : Expr) : Bool := match e with
  | .Call (.Name x _) [y] [] _ => isNm x "len" Γ && Γ.calm && noStar y && k y
  | _ => false
def hd? {α : Type} : List α → Option α
  | [] => none
  | [a] => some a
  | _ => none
def cIsE (Γ : Ct) (i : Nat) (b : Ec) (e : Expr) : Bool := match e with
  | .Call (.Name x _) [.Name n _, .Name y _] [] _ => Γ.sx && isNm x "isinstance" Γ && varB Γ i n && glB Γ y && decide ((y, b) ∈ Γ.exs)
  | _ => false
def isT : S → Bool
  | .bl true => true
  | _ => false
def cIfs (t : S) (k : KE) : List Expr → Bool
  | [] => isT t
  | [u] => k u
  | _ => false
def blkH (Γ : Ct) (scope : Scope) (vs : List Nat) : Bool := Γ.sx && decide ((ownOf Γ.N vs).map (·.2) = vs) && blkC Γ.N Γ.sc scope (ownOf Γ.N vs)
def cComph (Γ : Ct) (vs : List Nat) (g : G) (t : S) (ka : KE) (kt : Ct → KE) (ks : Ct → KE) (e : Expr) : Bool := match e with
  | .ListComp elt [⟨tg, iter, ifs, 0⟩] scope _ => blkH Γ scope vs && noSet iter && ka iter && ckG (Γ.hblk scope) g tg && within (gnames g) vs && cIfs t (kt (Γ.hblk scope)) ifs && ks (Γ.hblk scope) elt
  | _ => false
def cHlen (Γ : Ct) (k : KE) (e : Expr) : Bool := match e with
  | .Call (.Name x _) [y] [] _ => isNm x "len" Γ && noStar y && k y
  | _ => false
def cPos (ka ke : KE) (e : Expr) : Bool := match e with
  | .Call (.Attribute (.Name n p) m apos) [y] [] cpos => decide (m = "index") && noStar y && (apos.endLine == cpos.line) && ka (.Name n p) && ke y
  | _ => false
def cComp (Γ : Ct) (vs : List Nat) (g : G) (t : S) (ki : Expr → Expr → Bool) (kt : Ct → KE) (ks : Ct → KE) (e : Expr) : Bool := match e with
  | .ListComp elt [⟨tg, iter, ifs, 0⟩] scope _ => blkB Γ scope vs && noSet iter && ki tg iter && ckG (Γ.blk scope) g tg && within (gnames g) vs && cIfs t (kt (Γ.blk scope)) ifs && ks (Γ.blk scope) elt
  | _ => false
def cComp2 (Γ : Ct) (vs vs1 : List Nat) (g g1 : G) (t t1 : S) (ki : Expr → Expr → Bool) (kt : Ct → KE) (ki1 : Ct → Expr → Expr → Bool) (kt1 : Ct → KE) (ks : Ct → KE) (e : Expr) : Bool := match e with
  | .ListComp elt [⟨tg, iter, ifs, 0⟩, ⟨tg1, iter1, ifs1, 0⟩] scope _ => blkB Γ scope vs && within vs1 vs && noSet iter && noSet iter1 && ki tg iter && ckG (Γ.blk scope) g tg && within (gnames g) vs && cIfs t (kt (Γ.blk scope)) ifs &&
      ki1 (Γ.blk scope) tg1 iter1 && ckG (Γ.blk scope) g1 tg1 && within (gnames g1) vs1 && cIfs t1 (kt1 (Γ.blk scope)) ifs1 && ks (Γ.blk scope) elt
  | _ => false
def cDcomp (Γ : Ct) (vs : List Nat) (g : G) (t : S) (ki : Expr → Expr → Bool) (kt kk ks : Ct → KE) (e : Expr) : Bool := match e with
  | .DictComp key elt [⟨tg, iter, ifs, 0⟩] scope _ => blkB Γ scope vs && noSet iter && ki tg iter && ckG (Γ.blk scope) g tg && within (gnames g) vs && cIfs t (kt (Γ.blk scope)) ifs && kk (Γ.blk scope) key && ks (Γ.blk scope) elt
  | _ => false
def isTup : Expr → Bool
  | .Tuple .. => true
  | _ => false
def cRng (Γ : Ct) (a : S) (ka kb : KE) (e : Expr) : Bool := match e with
  | .Call (.Name x _) [y] [] _ => isNm x "range" Γ && is0 a && noStar y && kb y
  | .Call (.Name x _) [y, z] [] _ => isNm x "range" Γ && noStar y && noStar z && ka y && kb z
  | _ => false
def cRng3 (Γ : Ct) (ka kb kd : KE) (e : Expr) : Bool := match e with
  | .Call (.Name x _) [y, z, u] [] _ => isNm x "range" Γ && noStar y && noStar z && noStar u && ka y && kb z && kd u
  | _ => false
def cEnum (Γ : Ct) (ka : KE) (tg e : Expr) : Bool := match e with
  | .Call (.Name x _) [y] [] _ => isNm x "enumerate" Γ && isTup tg && noStar y && ka y
  | _ => false
def cZip (Γ : Ct) (ka kb : KE) (tg e : Expr) : Bool := match e with
  | .Call (.Name x _) [y, z] [] _ => isNm x "zip" Γ && isTup tg && noStar y && noStar z && ka y && kb z
  | _ => false
def cIRev (Γ : Ct) (ka : KE) (e : Expr) : Bool := match e with
  | .Call (.Name x _) [y] [] _ => isNm x "reversed" Γ && noStar y && ka y
  | _ => false
def cHd (k : KE) (ks : List Expr → Bool) (es : List Expr) : Bool := match es with
  | e :: es => noStar e && k e && ks es
  | _ => false
def cNil (es : List Expr) : Bool := match es with
  | [] => true
  | _ => false
def cSome (k : KE) (e : Option Expr) : Bool := match e with
  | some e => k e
  | none => false
def cNone (e : Option Expr) : Bool := match e with
  | some _ => false
  | none => true

mutual
def ck : S → Md → Ct → Expr → Bool
  | .non, m, _, e => okM m e && cNon e
  | .bl b, m, _, e => okM m e && cBl b e
  | .int i, m, _, e => okM m e && cInt i e
  | .str x, m, _, e => okM m e && cStr x e
  | .con x d, m, Γ, e => okM m e && cCon Γ x d e
  | .var i, m, Γ, e => okM m e && cVar Γ i e
  | .tup ss, m, Γ, e => okM m e && cTup (cks ss Γ) e
  | .lst ss, m, Γ, e => okM m e && cLst (cks ss Γ) e
  | .bin op a b, m, Γ, e => okM m e && cBin op (ck a .v Γ) (ck b .v Γ) e
  | .neg a, m, Γ, e => okM m e && cNeg (ck a .v Γ) e
  | .not a, m, Γ, e => decide (m ≠ .w) && cNot (ck a m Γ) e
  | .cmp op a b, m, Γ, e => decide (m ≠ .w) && cCmp op (ck a .v Γ) (ck b .v Γ) e
  | .chn o1 o2 a b d, m, Γ, e => decide (m ≠ .w) && cChn o1 o2 (ck a .v Γ) (ck b .v Γ) (ck d .v Γ) e
  | .and a b, .v, Γ, e => cAnd (ck a .v Γ) (ck b .v Γ) (ck b .v Γ) e
  | .and a b, .t, Γ, e => cAnd (ck a .t Γ) (ck b .t Γ) (ck b .w Γ) e
  | .and a b, .w, Γ, e => cAnd (ck a .t Γ) (ck b .t Γ) (ck b .w Γ) e
  | .or a b, .v, Γ, e => cOr (ck a .v Γ) (ck b .v Γ) (ck b .v Γ) e
  | .or a b, .t, Γ, e => cOr (ck a .t Γ) (ck b .t Γ) (ck b .w Γ) e
  | .or a b, .w, Γ, e => cOr (ck a .t Γ) (ck b .t Γ) (ck b .w Γ) e
  | .ite t a b, m, Γ, e => okM m e && cIte (ck t .t Γ) (ck a .v Γ) (ck b .v Γ) e
  | .tru a, m, Γ, e => decide (m = .t) && shapeT e && ck a .v Γ e
  | .ix a i, m, Γ, e => okM m e && cIx (ck a .v Γ) (ck i .v Γ) e
  | .sl a lo hi, m, Γ, e => okM m e && cSl (ck a .v Γ) (ckO lo Γ) (ckO hi Γ) e
  | .rev a, m, Γ, e => okM m e && cRev (ck a .v Γ) e
  | .dic t ss, m, Γ, e => okM m e && cDic t ss.length (cks ss Γ) e
  | .dget a i, m, Γ, e => okM m e && cIx (ck a .v Γ) (ck i .v Γ) e
  | .din g i a, m, Γ, e => decide (m ≠ .w) && cDin g (ck i .v Γ) (ck a .v Γ) e
  | .dlen a, m, Γ, e => okM m e && cDlen Γ (ck a .v Γ) e
  | .dgt _ _, _, _, _ => false
  | .call f ss, m, Γ, e => okM m e && cCall Γ f ss.length (cks ss Γ) e
  | .blt (.inst t) [s], m, Γ, e => okM m e && cInst Γ t (ck s .v Γ) e
  | .blt (.inst _) _, _, _, _ => false
  | .blt .gcd ss, m, Γ, e => okM m e && cGcd Γ (cks ss Γ) e
  | .blt b ss, m, Γ, e => okM m e && cBlt Γ b (cks ss Γ) e
  | .isE i b, m, Γ, e => okM m e && cIsE Γ i b e
  | .comph vs g a t s, m, Γ, e => okM m e && cComph Γ vs g t (ck a .v Γ) (ck t .t) (ck s .v) e
  | .hlen a, m, Γ, e => okM m e && cHlen Γ (ck a .v Γ) e
  | .pos a i, m, Γ, e => okM m e && cPos (ck a .v Γ) (ck i .v Γ) e
  | .inrg g a b, m, Γ, e => decide (m ≠ .w) && cInrg Γ g (ck a .v Γ) (ck b .v Γ) e
  | .lrg t o l b, m, Γ, e => okM m e && cLrg Γ t o l (ck b .v Γ) e
  | .rgv l b, m, Γ, e => okM m e && cRgv Γ l (ck b .v Γ) e
  | .fld a x, m, Γ, e => okM m e && cFld x (ck a .v Γ) e
  | .rmeth mm k f a ss, m, Γ, e => okM m e && cRmeth Γ f mm k ss.length (ck a .v Γ) (cks ss Γ) e
  | .mk f ss, m, Γ, e => okM m e && cMk Γ f ss.length (cks ss Γ) e
  | .comp vs g it t s, m, Γ, e => okM m e && cComp Γ vs g t (ckI it Γ) (ck t .t) (ck s .v) e
  | .comp2 vs vs1 g it t g1 it1 t1 s, m, Γ, e => okM m e && cComp2 Γ vs vs1 g g1 t t1 (ckI it Γ) (ck t .t) (ckI it1) (ck t1 .t) (ck s .v) e
  | .dcomp _ vs g it t k s, m, Γ, e => okM m e && cDcomp Γ vs g t (ckI it Γ) (ck t .t) (ck k .v) (ck s .v) e
  | .any, _, _, _ => true
  | .iseq _, _, _, _ => false
  | .irng _ _, _, _, _ => false
  | .irng3 _ _ _, _, _, _ => false
  | .ienum _, _, _, _ => false
  | .izip _ _, _, _, _ => false
  | .irev _, _, _, _ => false
  termination_by structural s => s
def cks : List S → Ct → List Expr → Bool
  | [], _, es => cNil es
  | s :: ss, Γ, es => cHd (ck s .v Γ) (cks ss Γ) es
  termination_by structural s => s
def ckO : Option S → Ct → Option Expr → Bool
  | none, _, e => cNone e
  | some s, Γ, e => cSome (ck s .v Γ) e
  termination_by structural s => s
def ckI : S → Ct → Expr → Expr → Bool
  | .iseq a, Γ, _, e => ck a .v Γ e
  | .irng a b, Γ, _, e => cRng Γ a (ck a .v Γ) (ck b .v Γ) e
  | .irng3 a b d, Γ, _, e => cRng3 Γ (ck a .v Γ) (ck b .v Γ) (ck d .v Γ) e
  | .ienum a, Γ, tg, e => cEnum Γ (ck a .v Γ) tg e
  | .izip a b, Γ, tg, e => cZip Γ (ck a .v Γ) (ck b .v Γ) tg e
  | .irev a, Γ, _, e => cIRev Γ (ck a .v Γ) e
  | _, _, _, _ => false
  termination_by structural s => s
end
end Ds

namespace Ds
open PySem PySem.Spec PyProof.Rows L2

/-! ## 15. The expressions -/
/-- a class as a name says it -/
def ClsOf (X : Cx) (ea : Ec → Addr) (ecs : List Ec) (y : Str) (b : Ec) : Prop :=
  ∃ cv, ((X.mg y = some cv ∧ ∃ C, cv = .ref C) ∨ (X.mg y = none ∧ bootBuiltins y = some cv ∧ y ≠ "__name__" ∧ ∃ T, cv = .type T)) ∧
    ∀ e, ecs.contains e = true → PySem.W.kitOne X.K (.ref (ea e)) cv = some (e.sub b) ∧ PySem.W.exmOne X.K (.ref (ea e)) cv = some (e.sub b)
structure InSuite (X : Cx) (xa : Xa) (ea : Ec → Addr) (c : Cn) : Prop where
  ex : ∃ (Y : Cx) (a : Addr) (oe : Obj) (pn : List (Addr × Obj)) (ec : Ec), X = Y.suite a ((a, oe) :: pn) ∧ xa = some (false, a) ∧ L2N.Zn (.ref (ea ec)) none oe ∧ (∃ vs, oe.data = .fields vs) ∧ c.ce = some ec ∧ ExcC X.K (ea ec) ∧ c.ecs.contains ec = true ∧ Y.stack = Y.env :: Y.outer ∧ Y.env.frame = some Y.env.locals
structure Fit (X : Cx) (Γ : Ct) (xa : Xa) (ea : Ec → Addr) (c : Cn) (Wx : WX) : Prop where
  N : X.N = Γ.N
  nd : Γ.N.Nodup
  sc : X.env.scope = Γ.sc
  kind : Γ.sc.kind = .function
  fn : ∀ x, (match Γ.bs with | none => true | some s => s.names.lookup x == some .cell) = true → X.fn x = true
  calm : Γ.calm = true → X.calm = true
  hu : X.A.units + 65 < cLine
  fns : ∀ (f : Nat) (x : Str) (n : Nat), Γ.fns[f]? = some (x, n) → ∃ g : List D → Re D, c.fs[f]? = some g ∧ Rdy X ea x n g
  xn : Γ.sx = false → (Γ.calm = false ∧ Γ.noFn) ∨ noE xa
  xs : Γ.slf = false → ∀ a, xa ≠ some (true, a)
  cs : c.slf = false → ∀ a, xa ≠ some (true, a)
  flds : FldsOk X.K c.flds
  rms : ∀ f m k n, (f, m, k, n) ∈ Γ.rms → ∃ g : List D → Re D, c.fs[f]? = some g ∧ RdyM X ea k m (n + 1) g
  mks : ∀ f x n, (f, x, n) ∈ Γ.mks → ∃ (k : Nat) (g : List D → Re D), c.ms[f]? = some (k, g) ∧ RdyK X ea x k n g
  mms : ∀ f m n, (f, m, n) ∈ Γ.mms → ∃ (k : Nat) (g : List D → Re D), c.ms[f]? = some (k, g) ∧ RdyMM X ea k m n g
  mfs : ∀ f x n, (f, x, n) ∈ Γ.mfs → ∃ (k : Nat) (g : List D → Re D), c.ms[f]? = some (k, g) ∧ RdyMF X ea x n g
  tk : L2N.Takes X Wx
  cons : ∀ x d, (x, d) ∈ Γ.cons → ∃ v u, X.mg x = some u ∧ RelV v u ∧ ∀ H W, F ⟨X.K, none⟩ H W d v
  free : ∀ x ∈ Γ.free, X.mg x = none
  gcd : Γ.gcd = true → X.mg "gcd" = some (.builtin "math.gcd")
  exs : ∀ y b, (y, b) ∈ Γ.exs → ClsOf X ea c.ecs y b
  su : Γ.sx = true → InSuite X xa ea c
theorem takes_wf {X : Cx} : L2N.Takes X Wf := fun _ _ ⟨_, _, _, _, _, _, _, _, _, _, _, _, _, _, _, _, w⟩ => w.elim
section
variable {X : Cx} {Γ : Ct} {xa : Xa} {ea : Ec → Addr} {c : Cn} {Wx : WX}
theorem Fit.blk (g : Fit X Γ xa ea c Wx) (hc : Γ.calm = true) (hx : Γ.sx = false) {scope : Scope} (hk : scope.kind = .function) (s : Shared) (H : Hp) (C : Addr) (cl : List (Str × Addr)) (fp : List Addr) : Fit (X.blk s H scope (compEnvC scope cl C X.env) fp) (Γ.blk scope) xa ea c Wf where
  N := g.N
  nd := g.nd
  sc := by
    show relabel scope X.env = relS scope Γ.sc
    unfold relabel relS Env.kindOf
    rw [g.sc]
  kind := hk
  fn := fun x h => h
  calm := g.calm
  hu := g.hu
  fns := fun f x n h => by
    obtain ⟨q, h1, h2⟩ := g.fns f x n h
    exact ⟨q, h1, ⟨h2.ok⟩⟩
  xn := g.xn
  xs := g.xs
  cs := g.cs
  flds := g.flds
  rms := fun f m k n h => by
    obtain ⟨q, h1, h2⟩ := g.rms f m k n h
    exact ⟨q, h1, ⟨h2.ok⟩⟩
  mks := fun f x n h => by
    obtain ⟨k, q, h1, h2⟩ := g.mks f x n h
    exact ⟨k, q, h1, ⟨h2.ok⟩⟩
  mms := fun f m n h => by
    obtain ⟨k, q, h1, h2⟩ := g.mms f m n h
    exact ⟨k, q, h1, ⟨h2.ok⟩⟩
  mfs := fun f x n h => by
    obtain ⟨k, q, h1, h2⟩ := g.mfs f x n h
    exact ⟨k, q, h1, ⟨h2.ok⟩⟩
  tk := takes_wf
  cons := g.cons
  free := g.free
  gcd := g.gcd
  exs := g.exs
  su := fun h => by
    have h : Γ.sx = true := h
    rw [hx] at h
    cases h
theorem Fit.hblk (g : Fit X Γ xa ea c Wx) {scope : Scope} (hk : scope.kind = .function) (s : Shared) (H : Hp) (C : Addr) (cl : List (Str × Addr)) (fp : List Addr) : Fit (X.blk s H scope (compEnvC scope cl C X.env) fp) (Γ.hblk scope) xa ea c Wf where
  N := g.N
  nd := g.nd
  sc := by
    show relabel scope X.env = relS scope Γ.sc
    unfold relabel relS Env.kindOf
    rw [g.sc]
  kind := hk
  fn := fun x h => h
  calm := fun h => nomatch h
  hu := g.hu
  fns := fun f x n h => by
    have h : ([] : List (Str × Nat))[f]? = some (x, n) := h
    simp at h
  xn := fun _ => .inl ⟨rfl, rfl, rfl, rfl, rfl, rfl⟩
  xs := g.xs
  cs := g.cs
  flds := g.flds
  rms := fun f m k n h => by
    have h : (f, m, k, n) ∈ ([] : List (Nat × Str × Nat × Nat)) := h
    cases h
  mks := fun f x n h => by
    have h : (f, x, n) ∈ ([] : List (Nat × Str × Nat)) := h
    cases h
  mms := fun f x n h => by
    have h : (f, x, n) ∈ ([] : List (Nat × Str × Nat)) := h
    cases h
  mfs := fun f x n h => by
    have h : (f, x, n) ∈ ([] : List (Nat × Str × Nat)) := h
    cases h
  tk := takes_wf
  cons := g.cons
  free := g.free
  gcd := g.gcd
  exs := g.exs
  su := fun h => nomatch h
/-- the exception that is handled, as it stands -/
theorem InSuite.hot (u : InSuite X xa ea c) : L2H.HotC X ∧ ∀ {b : Addr}, b ∈ frs X.stack → b ≠ X.env.locals → b ∉ X.fs → False := by
  obtain ⟨Y, a, oe, pn, ec, rfl, _, hz, ⟨vs, hd⟩, _, _, _, k1, k2⟩ := u.ex
  refine ⟨⟨(a, oe), ⟨rfl, vs, hd, hz.2.2 vs hd⟩, List.mem_cons_self⟩, fun {b} hb n1 n2 => ?_⟩
  have hb : b ∈ frs Y.stack := hb
  rw [k1] at hb
  obtain ⟨e, he, q⟩ := List.mem_filterMap.mp hb
  rcases List.mem_cons.mp he with rfl | he
  · rw [k2] at q
    cases q
    exact n1 rfl
  · exact n2 (List.mem_filterMap.mpr ⟨e, he, q⟩)
theorem and2 {a b : Bool} (h : (a && b) = true) : a = true ∧ b = true := by simpa using h
theorem gl_of (g : Fit X Γ xa ea c Wx) {x : Str} (h : glB Γ x = true) : Gl X x ∧ (x == ("__debug__" : Str)) = false ∧ (x == ("__classdict__" : Str)) = false := by
  unfold glB at h
  simp only [Bool.and_eq_true, decide_eq_true_eq, Bool.not_eq_true'] at h
  exact ⟨by unfold Gl Env.kindOf; rw [g.sc]; exact h.1.1, h.1.2, h.2⟩
theorem var_of (g : Fit X Γ xa ea c Wx) {i : Nat} {x : Str} (h : varB Γ i x = true) : X.N[i]? = some x ∧ Vis X.env.scope x ∧ (x == ("__debug__" : Str)) = false ∧ (x == ("__classdict__" : Str)) = false := by
  unfold varB at h
  simp only [Bool.and_eq_true, decide_eq_true_eq, Bool.not_eq_true'] at h
  obtain ⟨⟨⟨h1, h2⟩, h3⟩, h4⟩ := h
  refine ⟨by rw [g.N]; exact h1, ?_, h3, h4⟩
  unfold visB at h2
  unfold Vis
  rw [g.sc]
  split at h2 <;> first | exact .inl (by assumption) | exact .inr (.inl (by assumption)) | exact .inr (.inr (by assumption)) | cases h2
theorem loc_of (g : Fit X Γ xa ea c Wx) {x : Str} (h : locB Γ x = true) : L2.Loc X.env.scope x ∧ (X.fn x = true ∨ X.env.scope.names.lookup x = some .local) := by
  unfold locB at h
  unfold L2.Loc
  rw [g.sc]
  split at h
  · rename_i e; exact ⟨.inl e, .inr e⟩
  · rename_i e; exact ⟨.inr e, .inl (g.fn x h)⟩
  · cases h
theorem blt_of (g : Fit X Γ xa ea c Wx) {x : Str} (h : bltB Γ x = true) : Gl X x ∧ X.mg x = none ∧ (x == ("__debug__" : Str)) = false := by
  unfold bltB at h
  obtain ⟨h1, h2⟩ := and2 h
  obtain ⟨a, b, _⟩ := gl_of g h2
  exact ⟨a, g.free x (of_decide_eq_true h1), b⟩
theorem nm_of (g : Fit X Γ xa ea c Wx) {x : Str} {y : String} (h : isNm x y Γ = true) : x = Str.ofString y ∧ Gl X x ∧ X.mg x = none ∧ (x == ("__debug__" : Str)) = false := by
  unfold isNm at h
  obtain ⟨h1, h2⟩ := and2 h
  exact ⟨of_decide_eq_true h1, blt_of g h2⟩
theorem star_of {e : Expr} {es : List Expr} {env : PySem.Env} (h : noStar e = true) : starEach (e :: es) env = (false, eval e env) :: starEach es env := by
  cases e <;> first | rfl | (unfold noStar at h; cases h)
theorem asg_of {e : Expr} {es : List Expr} {env : PySem.Env} (h : noStar e = true) : assignEach (e :: es) env = (false, assign e env) :: assignEach es env := by
  cases e <;> first | rfl | (unfold noStar at h; cases h)
theorem set_of {e : Expr} {env : PySem.Env} {x : Value} (h : noSet e = true) : foldedSetIterable e env x = pure x := by
  cases e <;> first | rfl | (unfold noSet at h; cases h)
theorem slice_of {e : Expr} (h : noSlice e = true) : PlainIx e := by
  intro o i
  cases e <;> first | rfl | (unfold noSlice at h; cases h)
theorem plainO_of {o : Expr} {x : Str} {env : PySem.Env} (h : plainO o = true) : attributeBase o x env (eval o env) = eval o env := by
  cases o <;> first | rfl | (unfold plainO at h; cases h)
theorem noE_of (g : Fit X Γ xa ea c Wx) (h : Γ.sx = false) (n : ¬ Γ.noFn) : noE xa := (g.xn h).resolve_left fun q => n q.2
theorem shape_of {e : Expr} {env : PySem.Env} (h : shapeT e = true) : ∀ whole, isTrue e env whole = (do let v ← whole; standAt e.pos; holding [v] (truthy v)) := by
  intro whole
  cases e with
  | UnaryOp op _ _ => cases op <;> first | rfl | (unfold shapeT at h; cases h)
  | BoolOp _ _ _ => unfold shapeT at h; cases h
  | IfExp _ _ _ _ => unfold shapeT at h; cases h
  | Compare _ _ _ _ => unfold shapeT at h; cases h
  | _ => rfl
theorem stars_no {env : PySem.Env} {pos : Pos} : ∀ {es : List Expr}, nst es = true → (backTo pos (starEach es env)).any (·.1) = false
  | [], _ => rfl
  | e :: es, h => by
    unfold nst at h
    rw [List.all_cons] at h
    obtain ⟨h1, h2⟩ := and2 h
    rw [star_of h1]
    unfold backTo
    rw [List.map_cons, List.any_cons]
    exact stars_no (es := es) h2
theorem cks_nst : ∀ {ss : List S} {es : List Expr}, cks ss Γ es = true → nst es = true ∧ es.length = ss.length
  | [], es, h => by
    rw [cks.eq_1] at h
    unfold cNil at h
    split at h
    · exact ⟨rfl, rfl⟩
    · cases h
  | s :: ss, es, h => by
    rw [cks.eq_2] at h
    unfold cHd at h
    split at h
    · obtain ⟨h1, h3⟩ := and2 h
      obtain ⟨h1, h2⟩ := and2 h1
      obtain ⟨q, l⟩ := cks_nst h3
      unfold nst at q ⊢
      exact ⟨by rw [List.all_cons, h1, q]; rfl, by simp [l]⟩
    · cases h
def Snd (m : Md) (X : Cx) (xa : Xa) (ea : Ec → Addr) (c : Cn) (Wx : WX) (e : Expr) (s : S) : Prop :=
  match m with
  | .v => PE X e (tE (lx X xa ea c) Wx s)
  | .t => PT X e (tT (lx X xa ea c) Wx s)
  | .w => PW X e (tT (lx X xa ea c) Wx s)
theorem fin {m : Md} {e : Expr} {s : S} (h : okM m e = true) (p : PE X e (tE (lx X xa ea c) Wx s)) : Snd m X xa ea c Wx e s := by
  cases m with
  | v => exact p
  | t => exact t_val p (shape_of h)
  | w => cases h
theorem r_bone {op : BoolOp} {y : Expr} {s : S} {p : Pos} (h : PE X y (tE (lx X xa ea c) Wx s)) : PE X (.BoolOp op [y] p) (tE (lx X xa ea c) Wx s) := ⟨fun pins s σ H Q I q => h.run pins s σ H Q I q⟩

/-! ### targets -/
mutual
theorem ckG_ok (G0 : Fit X Γ xa ea c Wx) : ∀ {g : G} {e : Expr}, ckG Γ g e = true → PG X e (tG (kx X xa) g)
  | .nm i, e, h => by
    unfold ckG at h
    split at h
    · obtain ⟨h1, h2⟩ := and2 h
      obtain ⟨l1, l2⟩ := loc_of G0 h2
      exact g_nm (by rw [G0.N]; exact G0.nd) (by rw [G0.N]; exact of_decide_eq_true h1) l1 l2
    · cases h
  | .tup gs, e, h => by
    unfold ckG at h
    split at h
    · obtain ⟨h1, h2⟩ := and2 h
      obtain ⟨q, l, f⟩ := ckGs_ok G0 h2
      exact g_tup (G0.calm h1) q l f
    · cases h
theorem ckGs_ok (G0 : Fit X Γ xa ea c Wx) : ∀ {gs : List G} {es : List Expr}, ckGs Γ gs es = true → PGs X es (tGs (kx X xa) gs) ∧ (assignEach es X.env).length = gs.length ∧ (assignEach es X.env).findIdx? (·.1) = none
  | [], es, h => by
    unfold ckGs at h
    split at h
    · exact ⟨gs_nil, rfl, rfl⟩
    · cases h
  | g :: gs, es, h => by
    unfold ckGs at h
    split at h
    · obtain ⟨h1, h3⟩ := and2 h
      obtain ⟨h1, h2⟩ := and2 h1
      obtain ⟨q, l, f⟩ := ckGs_ok G0 h3
      have e := asg_of (env := X.env) (es := ‹List Expr›) h1
      refine ⟨gs_cons (ckG_ok G0 h2) q (by rw [asg_of h1]; rfl), by rw [asg_of h1]; simp [l], by rw [asg_of h1, List.findIdx?_cons, f]; rfl⟩
    · cases h
end
end
end Ds

namespace Ds
open PySem PySem.Spec PyProof.Rows L2
theorem not_true {b : Bool} (h : (!b) = true) : b = false := by simpa using h
theorem blt_name (b : Blt) : (∃ id, bVal b = .builtin id ∧ (isInst b = false → bltN b ≠ "gcd" → bootBuiltins (Str.ofString (bltN b)) = some (.builtin id))) ∨ ∃ T, bVal b = .type T ∧ bootBuiltins (Str.ofString (bltN b)) = some (.type T) := by
  cases b with
  | tuple => exact .inr ⟨_, rfl, by decide +kernel⟩
  | list => exact .inr ⟨_, rfl, by decide +kernel⟩
  | int => exact .inr ⟨_, rfl, by decide +kernel⟩
  | gcd => exact .inl ⟨_, rfl, fun _ h => absurd rfl h⟩
  | inst t => exact .inl ⟨_, rfl, fun h => by simp [isInst] at h⟩
  | _ => exact .inl ⟨_, rfl, fun _ _ => by decide +kernel⟩
theorem blt_nm (b : Blt) : Str.ofString (bltN b) ≠ "__name__" := by
  cases b with
  | inst t => exact (by decide +kernel : Str.ofString "isinstance" ≠ Str.ofString "__name__")
  | _ => decide +kernel
theorem blt_go {X : Cx} {Γ : Ct} {xa : Xa} {ea : Ec → Addr} {c : Cn} {Wx : WX} (G0 : Fit X Γ xa ea c Wx) {b : Blt} {x : Str} {e : Expr} {es : List Expr} {ss : List S} {p pos : Pos} (nb : isInst b = false) (ng : bltN b ≠ "gcd") (hn : isNm x (bltN b) Γ = true) (hc : Γ.calm = true)
    (ha : PA X (e :: es) (tEs (lx X xa ea c) Wx ss)) (ns : nst (e :: es) = true) : PE X (.Call (.Name x p) (e :: es) [] pos) (tE (lx X xa ea c) Wx (.blt b ss)) := by
  obtain ⟨hx, hg, hm, hd⟩ := nm_of G0 hn
  have ns' := ns
  unfold nst at ns
  rw [List.all_cons] at ns
  obtain ⟨n1, n2⟩ := and2 ns
  rcases blt_name b with ⟨id, h1, h2⟩ | ⟨T, h1, h2⟩
  · exact r_bltF (G0.calm hc) G0.hu h1 nb hg hm (by rw [hx]; exact h2 nb ng) ha (by rw [hx]; exact blt_nm b) hd (star_of n1) (stars_no n2)
  · exact r_bltT (G0.calm hc) G0.hu h1 nb hg hm (by rw [hx]; exact h2) ha (by rw [hx]; exact blt_nm b) hd (star_of n1) (stars_no n2)
theorem own_ix {N : List Str} : ∀ {vs : List Nat}, (ownOf N vs).map (·.2) = vs → True := fun _ => trivial
/-- what a block's check says -/
theorem blk_of {X : Cx} {Γ : Ct} {xa : Xa} {ea : Ec → Addr} {c : Cn} {Wx : WX} (G0 : Fit X Γ xa ea c Wx) {scope : Scope} {vs : List Nat} (h : blkB Γ scope vs = true) :
    ∃ own, own.map (·.2) = vs ∧ BlkOk X.N X.env.scope scope own ∧ X.calm = true ∧ Γ.calm = true := by
  unfold blkB at h
  obtain ⟨h1, h3⟩ := and2 h
  obtain ⟨h1, h2⟩ := and2 h1
  exact ⟨_, of_decide_eq_true h2, by rw [G0.N, G0.sc]; exact blkOk_by h3, G0.calm h1, h1⟩
theorem blkH_of {X : Cx} {Γ : Ct} {xa : Xa} {ea : Ec → Addr} {c : Cn} {Wx : WX} (G0 : Fit X Γ xa ea c Wx) {scope : Scope} {vs : List Nat} (h : blkH Γ scope vs = true) :
    ∃ own, own.map (·.2) = vs ∧ BlkOk X.N X.env.scope scope own ∧ Γ.sx = true := by
  unfold blkH at h
  obtain ⟨h1, h3⟩ := and2 h
  obtain ⟨h1, h2⟩ := and2 h1
  exact ⟨_, of_decide_eq_true h2, by rw [G0.N, G0.sc]; exact blkOk_by h3, h1⟩
theorem within_of {is vs : List Nat} (h : within is vs = true) : ∀ i ∈ is, i ∈ vs := by
  unfold within at h
  rw [List.all_eq_true] at h
  exact fun i m => of_decide_eq_true (h i m)
theorem calm_sx {X : Cx} {Γ : Ct} {xa : Xa} {ea : Ec → Addr} {c : Cn} {Wx : WX} (G0 : Fit X Γ xa ea c Wx) (h : X.calm = true) : Γ.sx = false := by
  cases q : Γ.sx with
  | false => rfl
  | true =>
    obtain ⟨Y, a, oe, pn, ec, e, _⟩ := (G0.su q).ex
    rw [e] at h
    cases h
theorem ifs_ok {X : Cx} {xa : Xa} {ea : Ec → Addr} {c : Cn} {Y : Cx} {t : S} {k : KE} {ifs : List Expr} (h : cIfs t k ifs = true) (hy : lx Y xa ea c = lx X xa ea c) (hk : ∀ u, k u = true → PT Y u (tT (lx X xa ea c) Wf t)) : PTs Y ifs (tT (lx X xa ea c) Wf t) := by
  unfold cIfs at h
  split at h
  · have : t = .bl true := by unfold isT at h; split at h <;> first | rfl | cases h
    subst this
    rw [← hy]
    exact pts_no
  · rw [← hy] at hk ⊢
    exact pts_if (hk _ h)
  · cases h
mutual
theorem ck_ok : ∀ {s : S} {m : Md} {X : Cx} {Γ : Ct} {xa : Xa} {ea : Ec → Addr} {c : Cn} {Wx : WX} {e : Expr}, Fit X Γ xa ea c Wx → ck s m Γ e = true → Snd m X xa ea c Wx e s
  | .non, m, X, Γ, xa, ea, c, Wx, e, G0, h => by
    rw [ck] at h
    obtain ⟨hm, h⟩ := and2 h
    refine fin hm ?_
    unfold cNon at h
    split at h
    · exact r_non
    · cases h
  | .bl b, m, X, Γ, xa, ea, c, Wx, e, G0, h => by
    rw [ck] at h
    obtain ⟨hm, h⟩ := and2 h
    refine fin hm ?_
    unfold cBl at h
    split at h
    · rw [of_decide_eq_true h]; exact r_bl
    · cases h
  | .int b, m, X, Γ, xa, ea, c, Wx, e, G0, h => by
    rw [ck] at h
    obtain ⟨hm, h⟩ := and2 h
    refine fin hm ?_
    unfold cInt at h
    split at h
    · rw [of_decide_eq_true h]; exact r_int
    · cases h
  | .str b, m, X, Γ, xa, ea, c, Wx, e, G0, h => by
    rw [ck] at h
    obtain ⟨hm, h⟩ := and2 h
    refine fin hm ?_
    unfold cStr at h
    split at h
    · rw [of_decide_eq_true h]; exact r_str
    · cases h
  | .con x d, m, X, Γ, xa, ea, c, Wx, e, G0, h => by
    rw [ck] at h
    obtain ⟨hm, h⟩ := and2 h
    refine fin hm ?_
    unfold cCon at h
    split at h
    · obtain ⟨h1, h3⟩ := and2 h
      obtain ⟨h1, h2⟩ := and2 h1
      have h1 := of_decide_eq_true h1
      subst h1
      obtain ⟨g1, g2, _⟩ := gl_of G0 h2
      rw [List.any_eq_true] at h3
      obtain ⟨⟨y, d'⟩, hm', h4⟩ := h3
      obtain ⟨h4, h5⟩ := and2 h4
      have h4 := of_decide_eq_true h4
      have h5 := same_eq h5
      subst h4
      subst h5
      obtain ⟨v, u, c1, c2, c3⟩ := G0.cons _ _ hm'
      exact r_con g1 c1 c2 (fun H W => (c3 H W).toX) g2
    · cases h
  | .var i, m, X, Γ, xa, ea, c, Wx, e, G0, h => by
    rw [ck] at h
    obtain ⟨hm, h⟩ := and2 h
    refine fin hm ?_
    unfold cVar at h
    split at h
    · obtain ⟨h1, h2, h3, h4⟩ := var_of G0 h
      exact r_var h1 h2 h3 h4
    · cases h
  | .tup ss, m, X, Γ, xa, ea, c, Wx, e, G0, h => by
    rw [ck] at h
    obtain ⟨hm, h⟩ := and2 h
    refine fin hm ?_
    unfold cTup at h
    split at h
    · exact r_tup (cks_ok G0 h)
    · cases h
  | .lst ss, m, X, Γ, xa, ea, c, Wx, e, G0, h => by
    rw [ck] at h
    obtain ⟨hm, h⟩ := and2 h
    refine fin hm ?_
    unfold cLst at h
    split at h
    · exact r_lst (cks_ok G0 h)
    · cases h
  | .bin op a b, m, X, Γ, xa, ea, c, Wx, e, G0, h => by
    rw [ck] at h
    obtain ⟨hm, h⟩ := and2 h
    refine fin hm ?_
    unfold cBin at h
    split at h
    · obtain ⟨h1, h3⟩ := and2 h
      obtain ⟨h1, h2⟩ := and2 h1
      rw [of_decide_eq_true h1]
      exact r_bin (ck_ok (s := a) (m := .v) G0 h2) (ck_ok (s := b) (m := .v) G0 h3)
    · cases h
  | .neg a, m, X, Γ, xa, ea, c, Wx, e, G0, h => by
    rw [ck] at h
    obtain ⟨hm, h⟩ := and2 h
    refine fin hm ?_
    unfold cNeg at h
    split at h
    · exact r_neg (ck_ok (s := a) (m := .v) G0 h)
    · cases h
  | .not a, m, X, Γ, xa, ea, c, Wx, e, G0, h => by
    rw [ck] at h
    obtain ⟨hm, h⟩ := and2 h
    unfold cNot at h
    split at h
    · cases m with
      | v => exact r_notV (ck_ok (s := a) (m := .v) G0 h)
      | t => exact t_not (ck_ok (s := a) (m := .t) G0 h)
      | w => simp at hm
    · cases h
  | .cmp op a b, m, X, Γ, xa, ea, c, Wx, e, G0, h => by
    rw [ck] at h
    obtain ⟨hm, h⟩ := and2 h
    unfold cCmp at h
    split at h
    · obtain ⟨h1, h4⟩ := and2 h
      obtain ⟨h1, h3⟩ := and2 h1
      obtain ⟨h1, h2⟩ := and2 h1
      rw [of_decide_eq_true h1]
      have ha := ck_ok (s := a) (m := .v) G0 h3
      have hb := ck_ok (s := b) (m := .v) G0 h4
      cases m with
      | v => exact r_cmp G0.hu ha hb (not_true h2)
      | t => exact t_cmp G0.hu ha hb (not_true h2)
      | w => simp at hm
    · cases h
  | .chn o1 o2 a b d, m, X, Γ, xa, ea, c, Wx, e, G0, h => by
    rw [ck] at h
    obtain ⟨hm, h⟩ := and2 h
    unfold cChn at h
    split at h
    · obtain ⟨h1, h6⟩ := and2 h
      obtain ⟨h1, h5⟩ := and2 h1
      obtain ⟨h1, h4⟩ := and2 h1
      obtain ⟨h1, h3⟩ := and2 h1
      obtain ⟨h1, h2⟩ := and2 h1
      rw [of_decide_eq_true h1, of_decide_eq_true h2]
      have ha := ck_ok (s := a) (m := .v) G0 h4
      have hb := ck_ok (s := b) (m := .v) G0 h5
      have hd := ck_ok (s := d) (m := .v) G0 h6
      cases m with
      | v => exact r_chn G0.hu ha hb hd (not_true h3)
      | t => exact t_chn G0.hu ha hb hd (not_true h3)
      | w => simp at hm
    · cases h
  | .and a b, .v, X, Γ, xa, ea, c, Wx, e, G0, h => by
    rw [ck] at h
    unfold cAnd at h
    split at h
    · obtain ⟨h1, h2⟩ := and2 h
      refine r_andV (ck_ok (s := a) (m := .v) G0 h1) ?_
      unfold cRest at h2
      split at h2
      · exact r_bone (ck_ok (s := b) (m := .v) G0 h2)
      · exact ck_ok (s := b) (m := .v) G0 h2
    · cases h
  | .and a b, .t, X, Γ, xa, ea, c, Wx, e, G0, h => by
    rw [ck] at h
    unfold cAnd at h
    split at h
    · obtain ⟨h1, h2⟩ := and2 h
      refine (w_and (ck_ok (s := a) (m := .t) G0 h1) ?_).pt
      unfold cRest at h2
      split at h2
      · exact w_one (ck_ok (s := b) (m := .t) G0 h2)
      · exact ck_ok (s := b) (m := .w) G0 h2
    · cases h
  | .and a b, .w, X, Γ, xa, ea, c, Wx, e, G0, h => by
    rw [ck] at h
    unfold cAnd at h
    split at h
    · obtain ⟨h1, h2⟩ := and2 h
      refine w_and (ck_ok (s := a) (m := .t) G0 h1) ?_
      unfold cRest at h2
      split at h2
      · exact w_one (ck_ok (s := b) (m := .t) G0 h2)
      · exact ck_ok (s := b) (m := .w) G0 h2
    · cases h
  | .or a b, .v, X, Γ, xa, ea, c, Wx, e, G0, h => by
    rw [ck] at h
    unfold cOr at h
    split at h
    · obtain ⟨h1, h2⟩ := and2 h
      refine r_orV (ck_ok (s := a) (m := .v) G0 h1) ?_
      unfold cRest at h2
      split at h2
      · exact r_bone (ck_ok (s := b) (m := .v) G0 h2)
      · exact ck_ok (s := b) (m := .v) G0 h2
    · cases h
  | .or a b, .t, X, Γ, xa, ea, c, Wx, e, G0, h => by
    rw [ck] at h
    unfold cOr at h
    split at h
    · obtain ⟨h1, h2⟩ := and2 h
      refine (w_or (ck_ok (s := a) (m := .t) G0 h1) ?_).pt
      unfold cRest at h2
      split at h2
      · exact w_one (ck_ok (s := b) (m := .t) G0 h2)
      · exact ck_ok (s := b) (m := .w) G0 h2
    · cases h
  | .or a b, .w, X, Γ, xa, ea, c, Wx, e, G0, h => by
    rw [ck] at h
    unfold cOr at h
    split at h
    · obtain ⟨h1, h2⟩ := and2 h
      refine w_or (ck_ok (s := a) (m := .t) G0 h1) ?_
      unfold cRest at h2
      split at h2
      · exact w_one (ck_ok (s := b) (m := .t) G0 h2)
      · exact ck_ok (s := b) (m := .w) G0 h2
    · cases h
  | .ite t a b, m, X, Γ, xa, ea, c, Wx, e, G0, h => by
    rw [ck] at h
    obtain ⟨hm, h⟩ := and2 h
    refine fin hm ?_
    unfold cIte at h
    split at h
    · obtain ⟨h1, h3⟩ := and2 h
      obtain ⟨h1, h2⟩ := and2 h1
      exact r_ite (ck_ok (s := t) (m := .t) G0 h1) (ck_ok (s := a) (m := .v) G0 h2) (ck_ok (s := b) (m := .v) G0 h3)
    · cases h
  | .tru a, m, X, Γ, xa, ea, c, Wx, e, G0, h => by
    rw [ck] at h
    obtain ⟨h1, h3⟩ := and2 h
    obtain ⟨h1, h2⟩ := and2 h1
    have h1 := of_decide_eq_true h1
    subst h1
    exact t_tru (ck_ok (s := a) (m := .v) G0 h3) (shape_of h2)
  | .ix a i, m, X, Γ, xa, ea, c, Wx, e, G0, h => by
    rw [ck] at h
    obtain ⟨hm, h⟩ := and2 h
    refine fin hm ?_
    unfold cIx at h
    split at h
    · obtain ⟨h1, h3⟩ := and2 h
      obtain ⟨h1, h2⟩ := and2 h1
      exact r_ix (ck_ok (s := a) (m := .v) G0 h2) (ck_ok (s := i) (m := .v) G0 h3) (slice_of h1)
    · cases h
  | .dget a i, m, X, Γ, xa, ea, c, Wx, e, G0, h => by
    rw [ck] at h
    obtain ⟨hm, h⟩ := and2 h
    refine fin hm ?_
    unfold cIx at h
    split at h
    · obtain ⟨h1, h3⟩ := and2 h
      obtain ⟨h1, h2⟩ := and2 h1
      exact r_dget G0.hu (ck_ok (s := a) (m := .v) G0 h2) (ck_ok (s := i) (m := .v) G0 h3) (slice_of h1)
    · cases h
  | .din g a b, m, X, Γ, xa, ea, c, Wx, e, G0, h => by
    rw [ck] at h
    obtain ⟨hm, h⟩ := and2 h
    unfold cDin at h
    split at h
    · obtain ⟨h1, h4⟩ := and2 h
      obtain ⟨h1, h3⟩ := and2 h1
      obtain ⟨h1, h2⟩ := and2 h1
      rw [of_decide_eq_true h1]
      have ha := ck_ok (s := a) (m := .v) G0 h3
      have hb := ck_ok (s := b) (m := .v) G0 h4
      cases m with
      | v => exact r_din G0.hu ha hb (not_true h2)
      | t => exact t_din G0.hu ha hb (not_true h2)
      | w => simp at hm
    · cases h
  | .dlen a, m, X, Γ, xa, ea, c, Wx, e, G0, h => by
    rw [ck] at h
    obtain ⟨hm, h⟩ := and2 h
    refine fin hm ?_
    unfold cDlen at h
    split at h
    · obtain ⟨h1, h4⟩ := and2 h
      obtain ⟨h1, h3⟩ := and2 h1
      obtain ⟨h1, h2⟩ := and2 h1
      obtain ⟨hx, hg, hm2, hd⟩ := nm_of G0 h1
      subst hx
      exact r_dlen hg hm2 (ck_ok (s := a) (m := .v) G0 h4) (star_of h3) rfl
    · cases h
  | .dgt _ _, m, X, Γ, xa, ea, c, Wx, e, G0, h => by
    rw [ck] at h; cases h
  | .dic t ss, m, X, Γ, xa, ea, c, Wx, e, G0, h => by
    rw [ck] at h
    obtain ⟨hm, h⟩ := and2 h
    refine fin hm ?_
    unfold cDic at h
    split at h
    · have hs : ss = [] := List.length_eq_zero_iff.mp (of_decide_eq_true h)
      subst hs
      cases t with
      | true => exact r_dicN0
      | false => exact r_dic0
    · obtain ⟨h, h6⟩ := and2 h
      obtain ⟨h, h5⟩ := and2 h
      obtain ⟨h, h4⟩ := and2 h
      obtain ⟨h2, h3⟩ := and2 h
      have h2 := of_decide_eq_true h2
      cases t with
      | true => exact r_dicN G0.hu (ckD_ok G0 h6 h3 (of_decide_eq_true h4) h2) h3 (of_decide_eq_true h4) (by simp) (of_decide_eq_true h5) (by omega)
      | false => exact r_dic (ckD_ok G0 h6 h3 (of_decide_eq_true h4) h2) h3 (of_decide_eq_true h4) (by simp) (of_decide_eq_true h5) (by omega)
    · cases h
  | .sl a lo hi, m, X, Γ, xa, ea, c, Wx, e, G0, h => by
    rw [ck] at h
    obtain ⟨hm, h⟩ := and2 h
    refine fin hm ?_
    unfold cSl at h
    split at h
    · obtain ⟨h1, h3⟩ := and2 h
      obtain ⟨h1, h2⟩ := and2 h1
      exact r_sl (ck_ok (s := a) (m := .v) G0 h1) (ckO_ok G0 h2) (ckO_ok G0 h3)
    · cases h
  | .rev a, m, X, Γ, xa, ea, c, Wx, e, G0, h => by
    rw [ck] at h
    obtain ⟨hm, h⟩ := and2 h
    refine fin hm ?_
    unfold cRev at h
    split at h
    · exact r_rev (ck_ok (s := a) (m := .v) G0 h)
    · cases h
  | .call f ss, m, X, Γ, xa, ea, c, Wx, e, G0, h => by
    rw [ck] at h
    obtain ⟨hm, h⟩ := and2 h
    refine fin hm ?_
    unfold cCall at h
    split at h
    · obtain ⟨h1, h4⟩ := and2 h
      obtain ⟨h1, h3⟩ := and2 h1
      obtain ⟨h1, h2⟩ := and2 h1
      obtain ⟨g, f1, f2⟩ := G0.fns _ _ _ (of_decide_eq_true h2)
      obtain ⟨g1, g2, _⟩ := gl_of G0 h3
      have hx : noE xa := noE_of G0 (not_true h1) fun q => by
        have := of_decide_eq_true h2
        rw [q.1] at this
        simp at this
      obtain ⟨ns, _⟩ := cks_nst h4
      unfold nst at ns
      rw [List.all_cons] at ns
      obtain ⟨n1, n2⟩ := and2 ns
      exact r_call hx G0.tk f2 f1 rfl g1 (cks_ok G0 h4) g2 (star_of n1) (stars_no n2)
    · cases h
  | .inrg g a b, m, X, Γ, xa, ea, c, Wx, e, G0, h => by
    rw [ck] at h
    obtain ⟨hm, h⟩ := and2 h
    unfold cInrg at h
    split at h
    · obtain ⟨h1, h5⟩ := and2 h
      obtain ⟨h1, h4⟩ := and2 h1
      obtain ⟨h1, h3⟩ := and2 h1
      obtain ⟨h1, h2⟩ := and2 h1
      rw [of_decide_eq_true h1]
      obtain ⟨hx, hg, hm2, hd⟩ := nm_of G0 h2
      subst hx
      have ha := ck_ok (s := a) (m := .v) G0 h4
      have hb := ck_ok (s := b) (m := .v) G0 h5
      cases m with
      | v => exact r_inrg hg hm2 ha hb (star_of h3)
      | t => exact t_inrg hg hm2 ha hb (star_of h3)
      | w => simp at hm
    · cases h
  | .lrg t o l b, m, X, Γ, xa, ea, c, Wx, e, G0, h => by
    rw [ck] at h
    obtain ⟨hm, h⟩ := and2 h
    refine fin hm ?_
    unfold cLrg at h
    split at h
    · obtain ⟨h1, h7⟩ := and2 h
      obtain ⟨h1, h6⟩ := and2 h1
      obtain ⟨h1, h5⟩ := and2 h1
      obtain ⟨h1, h4⟩ := and2 h1
      obtain ⟨h1, h3⟩ := and2 h1
      obtain ⟨h1, h2⟩ := and2 h1
      have h1' : o = true := h1
      subst h1'
      have hl : l = .int 0 := by unfold is0 at h2; split at h2 <;> first | rfl | cases h2
      subst hl
      obtain ⟨hx, hg, hm2, hd⟩ := nm_of G0 h3
      obtain ⟨hx2, hg2, hm22, hd2⟩ := nm_of G0 h4
      subst hx2
      have hb := ck_ok (s := b) (m := .v) G0 h7
      cases t with
      | true => subst hx; exact r_lrgT1 (G0.calm h5) hg2 hm22 hg hm2 hb (star_of h6)
      | false => subst hx; exact r_lrgL1 (G0.calm h5) hg2 hm22 hg hm2 hb (star_of h6)
    · cases h
  | .rgv l b, m, X, Γ, xa, ea, c, Wx, e, G0, h => by
    rw [ck] at h
    obtain ⟨hm, h⟩ := and2 h
    refine fin hm ?_
    unfold cRgv at h
    split at h
    · obtain ⟨h1, h7⟩ := and2 h
      obtain ⟨h1, h6⟩ := and2 h1
      obtain ⟨h2, h3⟩ := and2 h1
      have hl : l = .int 0 := by unfold is0 at h2; split at h2 <;> first | rfl | cases h2
      subst hl
      obtain ⟨hx, hg, hm2, hd⟩ := nm_of G0 h3
      subst hx
      have hb := ck_ok (s := b) (m := .v) G0 h7
      exact r_rgv1 hg hm2 hb (star_of h6)
    · cases h
  | .fld a x, m, X, Γ, xa, ea, c, Wx, e, G0, h => by
    rw [ck] at h
    obtain ⟨hm, h⟩ := and2 h
    refine fin hm ?_
    unfold cFld at h
    split at h
    · obtain ⟨h1, h3⟩ := and2 h
      obtain ⟨h1, h2⟩ := and2 h1
      have h1 := of_decide_eq_true h1
      subst h1
      exact r_fld G0.flds (ck_ok (s := a) (m := .v) G0 h3) (plainO_of h2)
    · cases h
  | .mk f ss, m, X, Γ, xa, ea, c, Wx, e, G0, h => by
    rw [ck] at h
    obtain ⟨hm, h⟩ := and2 h
    refine fin hm ?_
    unfold cMk at h
    split at h
    · obtain ⟨h1, h4⟩ := and2 h
      obtain ⟨h1, h3⟩ := and2 h1
      obtain ⟨h1, h2⟩ := and2 h1
      have h2 := of_decide_eq_true h2
      obtain ⟨k, g, f1, f2⟩ := G0.mks _ _ _ h2
      obtain ⟨g1, g2, _⟩ := gl_of G0 h3
      have hx : noE xa := noE_of G0 (not_true h1) fun q => by
        rw [q.2.2.1] at h2
        cases h2
      obtain ⟨ns, _⟩ := cks_nst h4
      unfold nst at ns
      rw [List.all_cons] at ns
      obtain ⟨n1, n2⟩ := and2 ns
      exact r_mk hx G0.tk f2 f1 rfl g1 (cks_ok G0 h4) g2 (star_of n1) (stars_no n2)
    · cases h
  | .rmeth mm k f a ss, m, X, Γ, xa, ea, c, Wx, e, G0, h => by
    rw [ck] at h
    obtain ⟨hm, h⟩ := and2 h
    refine fin hm ?_
    unfold cRmeth at h
    split at h
    · rename_i x p m' apos es cpos _
      obtain ⟨h1, h7⟩ := and2 h
      obtain ⟨h1, h6⟩ := and2 h1
      obtain ⟨h1, h5⟩ := and2 h1
      obtain ⟨h1, h4⟩ := and2 h1
      obtain ⟨h1, h3⟩ := and2 h1
      obtain ⟨h0, h2⟩ := and2 h1
      have h2 := of_decide_eq_true h2
      have h3 := of_decide_eq_true h3
      have h5 := of_decide_eq_true h5
      subst h2
      obtain ⟨g, f1, f2⟩ := G0.rms _ _ _ _ h3
      have hx : noE xa := noE_of G0 (not_true h0) fun q => by
        rw [q.2.1] at h3
        cases h3
      obtain ⟨ns, nl⟩ := cks_nst h7
      have ho := ck_ok (s := a) (m := .v) G0 h6
      have hes := cks_ok G0 h7
      cases es with
      | nil =>
        have hs : ss = [] := List.length_eq_zero_iff.mp nl.symm
        subst hs
        exact r_rmeth0 (i := 0) hx G0.tk f2 f1 ho h4
      | cons y ys =>
        unfold nst at ns
        rw [List.all_cons] at ns
        obtain ⟨n1, n2⟩ := and2 ns
        exact r_rmeth (i := 0) hx G0.tk f2 f1 rfl ho hes h4 (star_of n1) (stars_no n2) (by simp at h5; omega)
    · cases h
  | .blt (.inst t) [s], m, X, Γ, xa, ea, c, Wx, e, G0, h => by
    rw [ck] at h
    obtain ⟨hm, h⟩ := and2 h
    refine fin hm ?_
    unfold cInst at h
    split at h
    · obtain ⟨h1, h4⟩ := and2 h
      obtain ⟨h1, h3⟩ := and2 h1
      obtain ⟨h1, h2⟩ := and2 h1
      obtain ⟨x1, x2, x3, x4⟩ := nm_of G0 h1
      obtain ⟨y1, y2, y3, y4⟩ := nm_of G0 h2
      exact r_inst x1 y1 x2 x3 y2 y3 (ck_ok (s := s) (m := .v) G0 h4) (star_of h3)
    · cases h
  | .blt (.inst t) [], m, X, Γ, xa, ea, c, Wx, e, G0, h => by
    rw [ck] at h
    cases h
    intro s q; cases q
  | .blt (.inst t) (_ :: _ :: _), m, X, Γ, xa, ea, c, Wx, e, G0, h => by
    rw [ck] at h
    cases h
    intro s q; cases q
  | .blt .gcd ss, m, X, Γ, xa, ea, c, Wx, e, G0, h => by
    rw [ck] at h
    obtain ⟨hm, h⟩ := and2 h
    refine fin hm ?_
    unfold cGcd at h
    split at h
    · obtain ⟨h1, h5⟩ := and2 h
      obtain ⟨h1, h4⟩ := and2 h1
      obtain ⟨h1, h3⟩ := and2 h1
      obtain ⟨h1, h2⟩ := and2 h1
      have h1 := of_decide_eq_true h1
      subst h1
      obtain ⟨g1, g2, _⟩ := gl_of G0 h4
      obtain ⟨ns, _⟩ := cks_nst h5
      unfold nst at ns
      rw [List.all_cons] at ns
      obtain ⟨n1, n2⟩ := and2 ns
      exact r_bltI (b := .gcd) (G0.calm h2) G0.hu rfl rfl g1 (G0.gcd h3) (cks_ok G0 h5) g2 (star_of n1) (stars_no n2)
    · cases h
  | .blt .len ss, m, X, Γ, xa, ea, c, Wx, e, G0, h => by
    rw [ck] at h
    · obtain ⟨hm, h⟩ := and2 h
      refine fin hm ?_
      unfold cBlt at h
      split at h
      · obtain ⟨h1, h3⟩ := and2 h
        obtain ⟨h1, h2⟩ := and2 h1
        exact blt_go G0 rfl (by decide) h1 h2 (cks_ok G0 h3) (cks_nst h3).1
      · cases h
    all_goals (intros; simp_all)
  | .blt .sum ss, m, X, Γ, xa, ea, c, Wx, e, G0, h => by
    rw [ck] at h
    · obtain ⟨hm, h⟩ := and2 h
      refine fin hm ?_
      unfold cBlt at h
      split at h
      · obtain ⟨h1, h3⟩ := and2 h
        obtain ⟨h1, h2⟩ := and2 h1
        exact blt_go G0 rfl (by decide) h1 h2 (cks_ok G0 h3) (cks_nst h3).1
      · cases h
    all_goals (intros; simp_all)
  | .blt .all ss, m, X, Γ, xa, ea, c, Wx, e, G0, h => by
    rw [ck] at h
    · obtain ⟨hm, h⟩ := and2 h
      refine fin hm ?_
      unfold cBlt at h
      split at h
      · obtain ⟨h1, h3⟩ := and2 h
        obtain ⟨h1, h2⟩ := and2 h1
        exact blt_go G0 rfl (by decide) h1 h2 (cks_ok G0 h3) (cks_nst h3).1
      · cases h
    all_goals (intros; simp_all)
  | .blt .any ss, m, X, Γ, xa, ea, c, Wx, e, G0, h => by
    rw [ck] at h
    · obtain ⟨hm, h⟩ := and2 h
      refine fin hm ?_
      unfold cBlt at h
      split at h
      · obtain ⟨h1, h3⟩ := and2 h
        obtain ⟨h1, h2⟩ := and2 h1
        exact blt_go G0 rfl (by decide) h1 h2 (cks_ok G0 h3) (cks_nst h3).1
      · cases h
    all_goals (intros; simp_all)
  | .blt .tuple ss, m, X, Γ, xa, ea, c, Wx, e, G0, h => by
    rw [ck] at h
    · obtain ⟨hm, h⟩ := and2 h
      refine fin hm ?_
      unfold cBlt at h
      split at h
      · obtain ⟨h1, h3⟩ := and2 h
        obtain ⟨h1, h2⟩ := and2 h1
        exact blt_go G0 rfl (by decide) h1 h2 (cks_ok G0 h3) (cks_nst h3).1
      · cases h
    all_goals (intros; simp_all)
  | .blt .list ss, m, X, Γ, xa, ea, c, Wx, e, G0, h => by
    rw [ck] at h
    · obtain ⟨hm, h⟩ := and2 h
      refine fin hm ?_
      unfold cBlt at h
      split at h
      · obtain ⟨h1, h3⟩ := and2 h
        obtain ⟨h1, h2⟩ := and2 h1
        exact blt_go G0 rfl (by decide) h1 h2 (cks_ok G0 h3) (cks_nst h3).1
      · cases h
    all_goals (intros; simp_all)
  | .blt .int ss, m, X, Γ, xa, ea, c, Wx, e, G0, h => by
    rw [ck] at h
    · obtain ⟨hm, h⟩ := and2 h
      refine fin hm ?_
      unfold cBlt at h
      split at h
      · obtain ⟨h1, h3⟩ := and2 h
        obtain ⟨h1, h2⟩ := and2 h1
        exact blt_go G0 rfl (by decide) h1 h2 (cks_ok G0 h3) (cks_nst h3).1
      · cases h
    all_goals (intros; simp_all)
  | .blt .abs ss, m, X, Γ, xa, ea, c, Wx, e, G0, h => by
    rw [ck] at h
    · obtain ⟨hm, h⟩ := and2 h
      refine fin hm ?_
      unfold cBlt at h
      split at h
      · obtain ⟨h1, h3⟩ := and2 h
        obtain ⟨h1, h2⟩ := and2 h1
        exact blt_go G0 rfl (by decide) h1 h2 (cks_ok G0 h3) (cks_nst h3).1
      · cases h
    all_goals (intros; simp_all)
  | .blt .min ss, m, X, Γ, xa, ea, c, Wx, e, G0, h => by
    rw [ck] at h
    · obtain ⟨hm, h⟩ := and2 h
      refine fin hm ?_
      unfold cBlt at h
      split at h
      · obtain ⟨h1, h3⟩ := and2 h
        obtain ⟨h1, h2⟩ := and2 h1
        exact blt_go G0 rfl (by decide) h1 h2 (cks_ok G0 h3) (cks_nst h3).1
      · cases h
    all_goals (intros; simp_all)
  | .blt .max ss, m, X, Γ, xa, ea, c, Wx, e, G0, h => by
    rw [ck] at h
    · obtain ⟨hm, h⟩ := and2 h
      refine fin hm ?_
      unfold cBlt at h
      split at h
      · obtain ⟨h1, h3⟩ := and2 h
        obtain ⟨h1, h2⟩ := and2 h1
        exact blt_go G0 rfl (by decide) h1 h2 (cks_ok G0 h3) (cks_nst h3).1
      · cases h
    all_goals (intros; simp_all)
  | .blt .sorted ss, m, X, Γ, xa, ea, c, Wx, e, G0, h => by
    rw [ck] at h
    · obtain ⟨hm, h⟩ := and2 h
      refine fin hm ?_
      unfold cBlt at h
      split at h
      · obtain ⟨h1, h3⟩ := and2 h
        obtain ⟨h1, h2⟩ := and2 h1
        exact blt_go G0 rfl (by decide) h1 h2 (cks_ok G0 h3) (cks_nst h3).1
      · cases h
    all_goals (intros; simp_all)
  | .any, m, X, Γ, xa, ea, c, Wx, e, G0, h => by
    cases m with
    | v => exact ⟨fun pins s σ H Q I ⟨_, _, _, _, _, q⟩ => by simp only [ev] at q; exact q.elim⟩
    | t => exact ⟨fun pins s σ H Q I ⟨_, _, _, _, _, q⟩ => by simp only [evT, ev] at q; exact q.elim⟩
    | w => exact ⟨fun w pins s σ H Q I ⟨_, _, _, _, _, q⟩ => by simp only [evT, ev] at q; exact q.elim⟩
  | .iseq _, m, X, Γ, xa, ea, c, Wx, e, G0, h => by rw [ck] at h; cases h
  | .isE i b, m, X, Γ, xa, ea, c, Wx, e, G0, h => by
    rw [ck] at h
    obtain ⟨hm, h⟩ := and2 h
    refine fin hm ?_
    unfold cIsE at h
    split at h
    · obtain ⟨h1, h5⟩ := and2 h
      obtain ⟨h1, h4⟩ := and2 h1
      obtain ⟨h1, h3⟩ := and2 h1
      obtain ⟨h1, h2⟩ := and2 h1
      obtain ⟨Y, a, oe, pn, ec, hY, hxa, hz, hfd, hce, hC, hin⟩ := (G0.su h1).ex
      obtain ⟨x1, x2, x3, x4⟩ := nm_of G0 h2
      obtain ⟨v1, v2, v3, v4⟩ := var_of G0 h3
      obtain ⟨g1, g2, _⟩ := gl_of G0 h4
      obtain ⟨cv, k1, k2⟩ := G0.exs _ _ (of_decide_eq_true h5)
      subst hxa
      exact r_isE hY hz hfd hce hC x1 x2 x3 v1 v2 v3 v4 g1 g2 k1 (k2 ec hin.1).1
    · cases h
  | .comph vs g a t s, m, X, Γ, xa, ea, c, Wx, e, G0, h => by
    rw [ck] at h
    obtain ⟨hm, h⟩ := and2 h
    refine fin hm ?_
    unfold cComph at h
    split at h
    · obtain ⟨h1, h7⟩ := and2 h
      obtain ⟨h1, h6⟩ := and2 h1
      obtain ⟨h1, h5⟩ := and2 h1
      obtain ⟨h1, h4⟩ := and2 h1
      obtain ⟨h1, h3⟩ := and2 h1
      obtain ⟨h1, h2⟩ := and2 h1
      obtain ⟨own, rfl, ok, b1⟩ := blkH_of G0 h1
      obtain ⟨hot, hst⟩ := (G0.su b1).hot
      have GB := fun s0 H C cl fp => G0.hblk ok.kind s0 H C cl fp
      exact r_comph hot hst (by rw [G0.N]; exact G0.nd) (ck_ok (s := a) (m := .v) G0 h3) ok (fun s0 H C cl fp => ckG_ok (GB s0 H C cl fp) h4) (within_of h5) (fun s0 H C cl fp => ifs_ok h6 rfl fun u hu => ck_ok (s := t) (m := .t) (GB s0 H C cl fp) hu)
        (fun s0 H C cl fp => ck_ok (s := s) (m := .v) (GB s0 H C cl fp) h7) fun x => set_of h2
    · cases h
  | .hlen a, m, X, Γ, xa, ea, c, Wx, e, G0, h => by
    rw [ck] at h
    obtain ⟨hm, h⟩ := and2 h
    refine fin hm ?_
    unfold cHlen at h
    split at h
    · obtain ⟨h1, h3⟩ := and2 h
      obtain ⟨h1, h2⟩ := and2 h1
      obtain ⟨hx, hg, hm', hd⟩ := nm_of G0 h1
      subst hx
      exact r_hlen hg hm' (ck_ok (s := a) (m := .v) G0 h3) (star_of h2)
    · cases h
  | .pos a i, m, X, Γ, xa, ea, c, Wx, e, G0, h => by
    rw [ck] at h
    obtain ⟨hm, h⟩ := and2 h
    refine fin hm ?_
    unfold cPos at h
    split at h
    · obtain ⟨h1, h5⟩ := and2 h
      obtain ⟨h1, h4⟩ := and2 h1
      obtain ⟨h1, h3⟩ := and2 h1
      obtain ⟨h1, h2⟩ := and2 h1
      have h1 := of_decide_eq_true h1
      subst h1
      exact r_pos G0.hu (ck_ok (s := a) (m := .v) G0 h4) (ck_ok (s := i) (m := .v) G0 h5) rfl (star_of h2) h3
    · cases h
  | .comp vs g it t s, m, X, Γ, xa, ea, c, Wx, e, G0, h => by
    rw [ck] at h
    obtain ⟨hm, h⟩ := and2 h
    refine fin hm ?_
    unfold cComp at h
    split at h
    · obtain ⟨h1, h7⟩ := and2 h
      obtain ⟨h1, h6⟩ := and2 h1
      obtain ⟨h1, h5⟩ := and2 h1
      obtain ⟨h1, h4⟩ := and2 h1
      obtain ⟨h1, h3⟩ := and2 h1
      obtain ⟨h1, h2⟩ := and2 h1
      obtain ⟨own, rfl, ok, hc, hc'⟩ := blk_of G0 h1
      have GB := G0.blk hc' (calm_sx G0 hc) ok.kind
      exact r_comp hc (by rw [G0.N]; exact G0.nd) (ckI_ok G0 h3) ok (fun s0 H C cl fp => ckG_ok (GB s0 H C cl fp) h4) (within_of h5) (fun s0 H C cl fp => ifs_ok h6 rfl fun u hu => ck_ok (s := t) (m := .t) (GB s0 H C cl fp) hu)
        (fun s0 H C cl fp => ck_ok (s := s) (m := .v) (GB s0 H C cl fp) h7) fun x => set_of h2
    · cases h
  | .dcomp tk vs g it t k s, m, X, Γ, xa, ea, c, Wx, e, G0, h => by
    rw [ck] at h
    obtain ⟨hm, h⟩ := and2 h
    refine fin hm ?_
    unfold cDcomp at h
    split at h
    · obtain ⟨h1, h8⟩ := and2 h
      obtain ⟨h1, h7⟩ := and2 h1
      obtain ⟨h1, h6⟩ := and2 h1
      obtain ⟨h1, h5⟩ := and2 h1
      obtain ⟨h1, h4⟩ := and2 h1
      obtain ⟨h1, h3⟩ := and2 h1
      obtain ⟨h1, h2⟩ := and2 h1
      obtain ⟨own, rfl, ok, hc, hc'⟩ := blk_of G0 h1
      have GB := G0.blk hc' (calm_sx G0 hc) ok.kind
      exact r_dcomp G0.hu hc (by rw [G0.N]; exact G0.nd) (ckI_ok G0 h3) ok (fun s0 H C cl fp => ckG_ok (GB s0 H C cl fp) h4) (within_of h5) (fun s0 H C cl fp => ifs_ok h6 rfl fun u hu => ck_ok (s := t) (m := .t) (GB s0 H C cl fp) hu)
        (fun s0 H C cl fp => ck_ok (s := k) (m := .v) (GB s0 H C cl fp) h7) (fun s0 H C cl fp => ck_ok (s := s) (m := .v) (GB s0 H C cl fp) h8) fun x => set_of h2
    · cases h
  | .comp2 vs vs1 g it t g1 it1 t1 s, m, X, Γ, xa, ea, c, Wx, e, G0, h => by
    rw [ck] at h
    obtain ⟨hm, h⟩ := and2 h
    refine fin hm ?_
    unfold cComp2 at h
    split at h
    · obtain ⟨h1, h13⟩ := and2 h
      obtain ⟨h1, h12⟩ := and2 h1
      obtain ⟨h1, h11⟩ := and2 h1
      obtain ⟨h1, h10⟩ := and2 h1
      obtain ⟨h1, h9⟩ := and2 h1
      obtain ⟨h1, h8⟩ := and2 h1
      obtain ⟨h1, h7⟩ := and2 h1
      obtain ⟨h1, h6⟩ := and2 h1
      obtain ⟨h1, h5⟩ := and2 h1
      obtain ⟨h1, h4⟩ := and2 h1
      obtain ⟨h1, h3⟩ := and2 h1
      obtain ⟨h1, h2⟩ := and2 h1
      obtain ⟨own, rfl, ok, hc, hc'⟩ := blk_of G0 h1
      have GB := G0.blk hc' (calm_sx G0 hc) ok.kind
      exact r_comp2 hc (by rw [G0.N]; exact G0.nd) (ckI_ok G0 h5) ok (within_of h2) (fun s0 H C cl fp => ckG_ok (GB s0 H C cl fp) h6) (within_of h7) (fun s0 H C cl fp => ifs_ok h8 rfl fun u hu => ck_ok (s := t) (m := .t) (GB s0 H C cl fp) hu)
        (fun s0 H C cl fp => ckI_ok (GB s0 H C cl fp) h9) (fun s0 H C cl fp => ckG_ok (GB s0 H C cl fp) h10) (within_of h11) (fun s0 H C cl fp => ifs_ok h12 rfl fun u hu => ck_ok (s := t1) (m := .t) (GB s0 H C cl fp) hu)
        (fun s0 H C cl fp => ck_ok (s := s) (m := .v) (GB s0 H C cl fp) h13) (fun x => set_of h3) fun env x => set_of h4
    · cases h
  | .irng _ _, m, X, Γ, xa, ea, c, Wx, e, G0, h => by rw [ck] at h; cases h
  | .irng3 _ _ _, m, X, Γ, xa, ea, c, Wx, e, G0, h => by rw [ck] at h; cases h
  | .ienum _, m, X, Γ, xa, ea, c, Wx, e, G0, h => by rw [ck] at h; cases h
  | .izip _ _, m, X, Γ, xa, ea, c, Wx, e, G0, h => by rw [ck] at h; cases h
  | .irev _, m, X, Γ, xa, ea, c, Wx, e, G0, h => by rw [ck] at h; cases h
theorem cks_ok : ∀ {ss : List S} {X : Cx} {Γ : Ct} {xa : Xa} {ea : Ec → Addr} {c : Cn} {Wx : WX} {es : List Expr}, Fit X Γ xa ea c Wx → cks ss Γ es = true → PA X es (tEs (lx X xa ea c) Wx ss)
  | [], X, Γ, xa, ea, c, Wx, es, G0, h => by
    rw [cks] at h
    unfold cNil at h
    split at h
    · exact r_nil
    · cases h
  | s :: ss, X, Γ, xa, ea, c, Wx, es, G0, h => by
    rw [cks] at h
    unfold cHd at h
    split at h
    · obtain ⟨h1, h3⟩ := and2 h
      obtain ⟨h1, h2⟩ := and2 h1
      exact r_cons (ck_ok (s := s) (m := .v) G0 h2) (cks_ok G0 h3) (star_of h1)
    · cases h
theorem ckD_ok : ∀ {ss : List S} {X : Cx} {Γ : Ct} {xa : Xa} {ea : Ec → Addr} {c : Cn} {Wx : WX} {keys : List (Option Expr)} {values : List Expr} {pos : Pos}, Fit X Γ xa ea c Wx → cks ss Γ (interE keys values) = true → keys.all (·.isSome) = true → keys.length = values.length → ss.length = 2 * keys.length → PPs X pos keys values (trsOf (lx X xa ea c) Wx ss)
  | [], X, Γ, xa, ea, c, Wx, keys, values, pos, G0, h, ha, hl, hn => by
    have : keys = [] := List.length_eq_zero_iff.mp (by simp at hn; omega)
    subst this
    have : values = [] := List.length_eq_zero_iff.mp hl.symm
    subst this
    exact pps_nil
  | [_], X, Γ, xa, ea, c, Wx, keys, values, pos, G0, h, ha, hl, hn => by simp at hn; omega
  | s :: s2 :: ss, X, Γ, xa, ea, c, Wx, keys, values, pos, G0, h, ha, hl, hn => by
    match keys, values with
    | [], _ => simp at hn
    | none :: _, _ => simp at ha
    | some k :: ks, [] => simp at hl
    | some k :: ks, v :: vs =>
      simp only [interE] at h
      rw [cks] at h
      unfold cHd at h
      obtain ⟨h1, h3⟩ := and2 h
      obtain ⟨_, h2⟩ := and2 h1
      rw [cks] at h3
      unfold cHd at h3
      obtain ⟨h4, h6⟩ := and2 h3
      obtain ⟨_, h5⟩ := and2 h4
      exact pps_cons (ck_ok (s := s) (m := .v) G0 h2) (ck_ok (s := s2) (m := .v) G0 h5) (ckD_ok G0 h6 (by simpa using ha) (by simpa using hl) (by simp at hn; omega))
theorem ckO_ok : ∀ {s : Option S} {X : Cx} {Γ : Ct} {xa : Xa} {ea : Ec → Addr} {c : Cn} {Wx : WX} {e : Option Expr}, Fit X Γ xa ea c Wx → ckO s Γ e = true → PO X e (tO (lx X xa ea c) Wx s)
  | none, X, Γ, xa, ea, c, Wx, e, G0, h => by
    rw [ckO] at h
    unfold cNone at h
    split at h
    · cases h
    · exact o_none
  | some s, X, Γ, xa, ea, c, Wx, e, G0, h => by
    rw [ckO] at h
    unfold cSome at h
    split at h
    · exact o_some (ck_ok (s := s) (m := .v) G0 h)
    · cases h
theorem ckI_ok : ∀ {s : S} {st : Bool} {X : Cx} {Γ : Ct} {xa : Xa} {ea : Ec → Addr} {c : Cn} {Wx : WX} {tg e : Expr}, Fit X Γ xa ea c Wx → ckI s Γ tg e = true → PI X tg e (tI (lx X xa ea c) Wx st s)
  | .iseq a, st, X, Γ, xa, ea, c, Wx, tg, e, G0, h => by
    rw [ckI] at h
    exact i_seq (ck_ok (s := a) (m := .v) G0 h)
  | .irng a b, st, X, Γ, xa, ea, c, Wx, tg, e, G0, h => by
    rw [ckI] at h
    unfold cRng at h
    split at h
    · obtain ⟨h1, h4⟩ := and2 h
      obtain ⟨h1, h3⟩ := and2 h1
      obtain ⟨h1, h2⟩ := and2 h1
      obtain ⟨rfl, x2, x3, x4⟩ := nm_of G0 h1
      have : a = .int 0 := by unfold is0 at h2; split at h2 <;> first | rfl | cases h2
      subst this
      exact i_rng1 x2 x3 (ck_ok (s := b) (m := .v) G0 h4) (star_of h3)
    · obtain ⟨h1, h5⟩ := and2 h
      obtain ⟨h1, h4⟩ := and2 h1
      obtain ⟨h1, h3⟩ := and2 h1
      obtain ⟨h1, h2⟩ := and2 h1
      obtain ⟨rfl, x2, x3, x4⟩ := nm_of G0 h1
      exact i_rng x2 x3 (ck_ok (s := a) (m := .v) G0 h4) (ck_ok (s := b) (m := .v) G0 h5) (star_of h2) (star_of h3)
    · cases h
  | .irng3 a b d, st, X, Γ, xa, ea, c, Wx, tg, e, G0, h => by
    rw [ckI] at h
    unfold cRng3 at h
    split at h
    · obtain ⟨h1, h7⟩ := and2 h
      obtain ⟨h1, h6⟩ := and2 h1
      obtain ⟨h1, h5⟩ := and2 h1
      obtain ⟨h1, h4⟩ := and2 h1
      obtain ⟨h1, h3⟩ := and2 h1
      obtain ⟨h1, h2⟩ := and2 h1
      obtain ⟨rfl, x2, x3, x4⟩ := nm_of G0 h1
      exact i_rng3 x2 x3 (ck_ok (s := a) (m := .v) G0 h5) (ck_ok (s := b) (m := .v) G0 h6) (ck_ok (s := d) (m := .v) G0 h7) (star_of h2) (star_of h3) (star_of h4) (stars_no (by unfold nst; rw [List.all_cons, List.all_cons, h3, h4]; rfl))
    · cases h
  | .ienum a, st, X, Γ, xa, ea, c, Wx, tg, e, G0, h => by
    rw [ckI] at h
    unfold cEnum at h
    split at h
    · obtain ⟨h1, h4⟩ := and2 h
      obtain ⟨h1, h3⟩ := and2 h1
      obtain ⟨h1, h2⟩ := and2 h1
      obtain ⟨rfl, x2, x3, x4⟩ := nm_of G0 h1
      unfold isTup at h2
      split at h2
      · exact i_enum x2 x3 (ck_ok (s := a) (m := .v) G0 h4) (star_of h3)
      · cases h2
    · cases h
  | .izip a b, st, X, Γ, xa, ea, c, Wx, tg, e, G0, h => by
    rw [ckI] at h
    unfold cZip at h
    split at h
    · obtain ⟨h1, h6⟩ := and2 h
      obtain ⟨h1, h5⟩ := and2 h1
      obtain ⟨h1, h4⟩ := and2 h1
      obtain ⟨h1, h3⟩ := and2 h1
      obtain ⟨h1, h2⟩ := and2 h1
      obtain ⟨rfl, x2, x3, x4⟩ := nm_of G0 h1
      unfold isTup at h2
      split at h2
      · exact i_zip x2 x3 (ck_ok (s := a) (m := .v) G0 h5) (ck_ok (s := b) (m := .v) G0 h6) (star_of h3) (star_of h4) (stars_no (by unfold nst; rw [List.all_cons, h4]; rfl))
      · cases h2
    · cases h
  | .irev a, st, X, Γ, xa, ea, c, Wx, tg, e, G0, h => by
    rw [ckI] at h
    unfold cIRev at h
    split at h
    · obtain ⟨h1, h3⟩ := and2 h
      obtain ⟨h1, h2⟩ := and2 h1
      obtain ⟨rfl, x2, x3, x4⟩ := nm_of G0 h1
      exact i_rev x2 x3 (ck_ok (s := a) (m := .v) G0 h3) (star_of h2)
    · cases h
  | .non, st, X, Γ, xa, ea, c, Wx, tg, e, G0, h => by cases h
  | .any, st, X, Γ, xa, ea, c, Wx, tg, e, G0, h => by cases h
  | .dic _ _, st, X, Γ, xa, ea, c, Wx, tg, e, G0, h => by cases h
  | .dget _ _, st, X, Γ, xa, ea, c, Wx, tg, e, G0, h => by cases h
  | .din _ _ _, st, X, Γ, xa, ea, c, Wx, tg, e, G0, h => by cases h
  | .dlen _, st, X, Γ, xa, ea, c, Wx, tg, e, G0, h => by cases h
  | .dgt _ _, st, X, Γ, xa, ea, c, Wx, tg, e, G0, h => by cases h
  | .bl _, st, X, Γ, xa, ea, c, Wx, tg, e, G0, h => by cases h
  | .int _, st, X, Γ, xa, ea, c, Wx, tg, e, G0, h => by cases h
  | .str _, st, X, Γ, xa, ea, c, Wx, tg, e, G0, h => by cases h
  | .con _ _, st, X, Γ, xa, ea, c, Wx, tg, e, G0, h => by cases h
  | .var _, st, X, Γ, xa, ea, c, Wx, tg, e, G0, h => by cases h
  | .tup _, st, X, Γ, xa, ea, c, Wx, tg, e, G0, h => by cases h
  | .lst _, st, X, Γ, xa, ea, c, Wx, tg, e, G0, h => by cases h
  | .bin _ _ _, st, X, Γ, xa, ea, c, Wx, tg, e, G0, h => by cases h
  | .neg _, st, X, Γ, xa, ea, c, Wx, tg, e, G0, h => by cases h
  | .not _, st, X, Γ, xa, ea, c, Wx, tg, e, G0, h => by cases h
  | .cmp _ _ _, st, X, Γ, xa, ea, c, Wx, tg, e, G0, h => by cases h
  | .chn _ _ _ _ _, st, X, Γ, xa, ea, c, Wx, tg, e, G0, h => by cases h
  | .and _ _, st, X, Γ, xa, ea, c, Wx, tg, e, G0, h => by cases h
  | .or _ _, st, X, Γ, xa, ea, c, Wx, tg, e, G0, h => by cases h
  | .ite _ _ _, st, X, Γ, xa, ea, c, Wx, tg, e, G0, h => by cases h
  | .tru _, st, X, Γ, xa, ea, c, Wx, tg, e, G0, h => by cases h
  | .ix _ _, st, X, Γ, xa, ea, c, Wx, tg, e, G0, h => by cases h
  | .sl _ _ _, st, X, Γ, xa, ea, c, Wx, tg, e, G0, h => by cases h
  | .rev _, st, X, Γ, xa, ea, c, Wx, tg, e, G0, h => by cases h
  | .call _ _, st, X, Γ, xa, ea, c, Wx, tg, e, G0, h => by cases h
  | .inrg _ _ _, st, X, Γ, xa, ea, c, Wx, tg, e, G0, h => by cases h
  | .lrg _ _ _ _, st, X, Γ, xa, ea, c, Wx, tg, e, G0, h => by cases h
  | .rgv _ _, st, X, Γ, xa, ea, c, Wx, tg, e, G0, h => by cases h
  | .fld _ _, st, X, Γ, xa, ea, c, Wx, tg, e, G0, h => by cases h
  | .rmeth _ _ _ _ _, st, X, Γ, xa, ea, c, Wx, tg, e, G0, h => by cases h
  | .mk _ _, st, X, Γ, xa, ea, c, Wx, tg, e, G0, h => by cases h
  | .blt _ _, st, X, Γ, xa, ea, c, Wx, tg, e, G0, h => by cases h
  | .isE _ _, st, X, Γ, xa, ea, c, Wx, tg, e, G0, h => by cases h
  | .comp _ _ _ _ _, st, X, Γ, xa, ea, c, Wx, tg, e, G0, h => by cases h
  | .comph _ _ _ _ _, st, X, Γ, xa, ea, c, Wx, tg, e, G0, h => by cases h
  | .hlen _, st, X, Γ, xa, ea, c, Wx, tg, e, G0, h => by cases h
  | .pos _ _, st, X, Γ, xa, ea, c, Wx, tg, e, G0, h => by cases h
  | .comp2 _ _ _ _ _ _ _ _ _, st, X, Γ, xa, ea, c, Wx, tg, e, G0, h => by cases h
  | .dcomp _ _ _ _ _ _ _, st, X, Γ, xa, ea, c, Wx, tg, e, G0, h => by cases h
end
end Ds

namespace Ds
open PySem PySem.Spec PyProof.Rows L2
/-! ## 17. Stores into a list within an owned list; pop -/
section
variable {K : Kx} {H H' : Hp} {W W' : Addr → Prop}
theorem splice {Wc : Addr → Prop} {ρ : Rho} {σ : L2.St} {as a0 a1 kids kids' bs : List Addr} {p : Addr} (h : St1 K Wc H ρ σ as) (ea : as = a0 ++ (p :: kids) ++ a1) (nd' : (p :: kids').Nodup) (sub : ∀ a ∈ kids', a ∈ kids ∨ a ∈ bs) (f : Fresh H bs) :
    (a0 ++ (p :: kids') ++ a1).Nodup ∧ (∀ a ∈ a0 ++ (p :: kids') ++ a1, a ∈ as ∨ a ∈ bs) ∧ (∀ a ∈ a0 ++ a1, a ≠ p) ∧ p ∈ as ∧ (∀ a ∈ kids', a ≠ p) := by
  have nd := h.nd
  rw [ea] at nd
  have n0 := List.nodup_append.mp nd
  have n1 := List.nodup_append.mp n0.1
  have p0 : ∀ a ∈ a0, a ≠ p := fun a m e => n1.2.2 a m p (by simp) e
  have p1 : ∀ a ∈ a1, a ≠ p := fun a m e => n0.2.2 p (by simp) a m e.symm
  have tr : ∀ a ∈ as, H a ≠ none := fun a m q => by
    obtain ⟨vs, e, _⟩ := h.wk a (.inr m)
    rw [q] at e
    cases e
  refine ⟨?_, fun a m => ?_, fun a m => (List.mem_append.mp m).elim (p0 a) (p1 a), by rw [ea]; simp, fun a m e => (List.nodup_cons.mp nd').1 (e ▸ m)⟩
  · refine List.nodup_append.mpr ⟨List.nodup_append.mpr ⟨n1.1, nd', fun a m b m' e => ?_⟩, n0.2.1, fun a m b m' e => ?_⟩
    · subst e
      rcases List.mem_cons.mp m' with m' | m'
      · exact p0 a m m'
      · rcases sub a m' with m' | m'
        · exact n1.2.2 a m a (List.mem_cons_of_mem _ m') rfl
        · exact tr a (by rw [ea]; simp [m]) (f a m')
    · subst e
      rcases List.mem_append.mp m with m | m
      · exact n0.2.2 a (by simp [m]) a m' rfl
      · rcases List.mem_cons.mp m with m | m
        · exact p1 a m' m
        · rcases sub a m with m | m
          · exact n0.2.2 a (by simp [m]) a m' rfl
          · exact tr a (by rw [ea]; simp [m']) (f a m)
  · rw [ea]
    rcases List.mem_append.mp m with m | m
    · rcases List.mem_append.mp m with m | m
      · exact .inl (by simp [m])
      · rcases List.mem_cons.mp m with m | m
        · exact .inl (by simp [m])
        · rcases sub a m with m | m
          · exact .inl (by simp [m])
          · exact .inr m
    · exact .inl (by simp [m])
/-- slot x holds an owned list that owns a list: that is written -/
theorem write_slot2 {Wc : Addr → Prop} {ρ : Rho} {σ : L2.St} {as : List Addr} {x j : Nat} {xs ys : List D} (h : St1 K Wc H ρ σ as) (hx : ρ[x]? = some (some (.lst .ow xs))) (hj : xs[j]? = some (.lst .ow ys)) :
    ∃ p vs q ws kq a0 a1, as = a0 ++ (q :: kq) ++ a1 ∧ σ[x]? = some (some (.ref p)) ∧ H p = some (.lst vs) ∧ p ≠ q ∧ vs.length = xs.length ∧ vs[j]? = some (.ref q) ∧ H q = some (.lst ws) ∧ ws.length ≤ sizeLine ∧ Os K H (plus Wc as) ys ws kq ∧
      ∀ (H1 : Hp) (bs : List Addr) (ys' : List D) (ws' : List V) (kids' : List Addr), Same H H1 → Fresh H bs → Os K H1 (plus (plus Wc as) bs) ys' ws' kids' → ws'.length ≤ sizeLine → (q :: kids').Nodup → (∀ a ∈ kids', a ∈ kq ∨ a ∈ bs) →
        ∃ as', St1 K Wc (upd H1 q (.lst ws')) (ρ.set x (some (.lst .ow (xs.set j (.lst .ow ys'))))) σ as' ∧ Step H as (upd H1 q (.lst ws')) as' := by
  have lx : x < ρ.length := (List.getElem?_eq_some_iff.mp hx).1
  have lj : j < xs.length := (List.getElem?_eq_some_iff.mp hj).1
  obtain ⟨a0, ax, a1, ea, g, q⟩ := h.sl.at lx
  obtain ⟨v, ev, o⟩ := g _ hx
  cases o with
  | fz f => cases f
  | ow hp z r =>
    rename_i p vs kids
    obtain ⟨k0, kj, k1, ek, ⟨dj, vj, e1, e2, oj⟩, qs⟩ := Os.set r lj
    rw [hj] at e1
    cases e1
    cases oj with
    | fz f => cases f
    | ow hq zq rq =>
      rename_i qa ws kq
      have ea2 : as = (a0 ++ (p :: k0)) ++ (qa :: kq) ++ (k1 ++ a1) := by rw [ea, ek]; simp
      have pq0 : p ≠ qa := by
        have nd := h.nd
        rw [ea2] at nd
        intro e
        exact (List.nodup_append.mp (List.nodup_append.mp nd).1).2.2 p (by simp) qa (by simp) e
      refine ⟨p, vs, qa, ws, kq, _, _, ea2, ev, hp, pq0, r.length.symm, e2, hq, zq, rq, fun H1 bs ys' ws' kids' s f r' z' nd' sub => ?_⟩
      obtain ⟨nd2, subA, npq, hqa, kn⟩ := splice h ea2 nd' sub f
      have kp : ∀ a o, H a = some o → a ≠ qa → upd H1 qa (.lst ws') a = some o := fun a o e n => by rw [upd_ne n]; exact s a o e
      have mem0 : ∀ a ∈ a0 ++ a1, a ≠ qa := fun a m => npq a (by rcases List.mem_append.mp m with m | m <;> simp [m])
      have memk : ∀ a ∈ k0 ++ k1, a ≠ qa := fun a m => npq a (by rcases List.mem_append.mp m with m | m <;> simp [m])
      have pq : p ≠ qa := npq p (by simp)
      have wle : ∀ a, plus Wc ((a0 ++ (p :: k0)) ++ (qa :: kids') ++ (k1 ++ a1)) a → plus Wc as a ∨ H a = none := fun a m => by
        rcases m with m | m
        · exact .inl (.inl m)
        · exact (subA a m).elim (fun m => .inl (.inr m)) fun m => .inr (f a m)
      have newQ : O K (upd H1 qa (.lst ws')) (plus Wc ((a0 ++ (p :: k0)) ++ (qa :: kids') ++ (k1 ++ a1))) (.lst .ow ys') (.ref qa) (qa :: kids') := by
        refine .ow upd_same z' (r'.keep (fun a o e n => ?_) (fun a m => ?_) fun a m o e => ?_)
        · rw [upd_ne fun q => n (by rw [q]; exact .inl (.inr hqa))]; exact e
        · rcases m with m | m
          · exact .inl (.inl (.inl m))
          · exact (subA a m).elim (fun m => .inl (.inl (.inr m))) fun m => .inl (.inr m)
        · rw [upd_ne (kn a m)]; exact e
      have newOs := qs (upd H1 qa (.lst ws')) _ (fun a o e n => kp a o e fun q => n (by rw [q]; exact .inr hqa)) wle (fun a m o e => kp a o e (memk a m)) _ _ _ newQ
      rw [set_same e2] at newOs
      have newP : O K (upd H1 qa (.lst ws')) (plus Wc ((a0 ++ (p :: k0)) ++ (qa :: kids') ++ (k1 ++ a1))) (.lst .ow (xs.set j (.lst .ow ys'))) (.ref p) (p :: (k0 ++ (qa :: kids') ++ k1)) := .ow (kp p _ hp pq) z newOs
      obtain ⟨_, q⟩ := q (upd H1 qa (.lst ws')) (plus Wc ((a0 ++ (p :: k0)) ++ (qa :: kids') ++ (k1 ++ a1))) (fun a o e n => kp a o e fun q => n (by rw [q]; exact .inr hqa)) wle fun a m o e => kp a o e (mem0 a m)
      have sl' := q _ _ _ newP
      rw [set_same ev] at sl'
      have ee : a0 ++ (p :: (k0 ++ (qa :: kids') ++ k1)) ++ a1 = (a0 ++ (p :: k0)) ++ (qa :: kids') ++ (k1 ++ a1) := by simp
      rw [ee] at sl'
      have sb : ∀ a ∈ (a0 ++ (p :: k0)) ++ (qa :: kids') ++ (k1 ++ a1), a ∈ as ∨ H a = none := fun a m => (subA a m).imp id fun m => f a m
      refine ⟨_, ⟨sl', nd2, dj_new h.wk h.dj sb, wk_new (fun a m => ?_) sl'⟩, ⟨fun a o e n => kp a o e fun q => n (by rw [q]; exact hqa), sb⟩⟩
      obtain ⟨vs, e, wz⟩ := h.wk a (.inl m)
      exact ⟨vs, kp a _ e fun q => h.dj qa hqa (q ▸ m), wz⟩
end
section
variable {X : Cx} {xa : Xa} {ea : Ec → Addr} {c : Cn} {Wx : WX} {n : Nat} {pos : Pos} {e i j : Expr} {se si sj : S}
/-- x[i][j] = e -/
theorem s_seti2 {x : Nat} {nm : Str} {p spos spos2 : Pos} (hN : X.N[x]? = some nm) (hv : Vis X.env.scope nm) (hd : (nm == ("__debug__" : Str)) = false) (hcd : (nm == ("__classdict__" : Str)) = false) (he : PE X e (tE (lx X xa ea c) Wx se)) (hi : PE X i (tE (lx X xa ea c) Wx si)) (hj : PE X j (tE (lx X xa ea c) Wx sj))
    (hs : swapsWithSole [.Subscript (.Subscript (.Name nm p) i spos2) j spos] e pos.line X.env = pure false) (hw : swappedStores [.Subscript (.Subscript (.Name nm p) i spos2) j spos] e X.env = pure none) (hsl : PlainIx i) (hsl2 : ∀ l u s q, j ≠ .Slice l u s q) :
    PS X (.Assign [.Subscript (.Subscript (.Name nm p) i spos2) j spos] e pos) (tS (kx X xa) ea Wx (ex c n (.seti2 x si sj se))) := by
  refine ps_imp (ps_asg he (pg_sub (pe_ix ix_list (pe_var hN hv hd hcd) hi hsl) hj set_list (plain_sub hsl2)) hs hw rfl) fun D σ H ⟨ρ, as, Wc, h, a⟩ => ?_
  simp only [ex] at a
  refine tS_e h a fun d H1 v bs _ s1 e1 f1 n1 l1 h1 a => ?_
  split at a
  · exact a.elim
  · rename_i nb
    split at a
    · rename_i xs hx
      obtain ⟨pa, vsa, _, _, _, _, ea2, hpa, _⟩ := write_slot h hx
      refine ⟨_, ea2, ?_⟩
      refine tE_go l1 (h1.wk.plus e1.there) ?_
      cases q : ev c si ρ with
      | st => rw [q] at a; exact a.elim
      | er er => rw [q] at a; exact fun H' s => a σ H' as (h.same (s1.trans s)) (Step.same (s1.trans s) fun a m => .inl m)
      | ok k =>
        rw [q] at a
        simp only [of_ok] at a
        intro H2 vk bk s2 ek _ _ l2 w2
        split at a
        · rename_i ys hk
          obtain ⟨kk, rfl, k0, k1, hkk, lk'⟩ := atII_out hk
          obtain ⟨rfl, _⟩ := ek.i
          obtain ⟨p, vs, q', ws, kq, a0, a1, ea', e2, hp, _, lv, hvj, hq, zq, rq, wr⟩ := write_slot2 h hx hkk
          rw [ea2] at e2
          cases e2
          rw [hpa] at hp
          cases hp
          have s12 := s1.trans s2
          have hat : atI vsa kk = some (.ref q') := by
            have := hvj
            unfold atI ixN
            rw [if_pos k0, if_pos (by rw [lv]; omega)]
            simpa using this
          refine ⟨pa, vsa, kk, _, rfl, rfl, SqL.of (s12 _ _ hpa), hat, ?_⟩
          refine tE_go l2 ?_ ?_
          · exact w2
          cases q2 : ev c sj ρ with
          | st => rw [q2] at a; exact a.elim
          | er er => rw [q2] at a; exact fun H' s => a σ H' as (h.same (s12.trans s)) (Step.same (s12.trans s) fun a m => .inl m)
          | ok l =>
            rw [q2] at a
            simp only [of_ok] at a
            intro H3 vl bl s3 el _ _ _ _
            have s13 := s12.trans s3
            obtain ⟨zs, hzs, a⟩ := aft_lo a
            obtain ⟨xs', hxs', a⟩ := aft_lo a
            obtain ⟨kl, jl, rfl, hjl, rfl, ljl⟩ := setI_out hzs
            obtain ⟨kk2, j2, ekk2, hj2, rfl, lj2⟩ := setI_out hxs'
            cases ekk2
            obtain ⟨rfl, _⟩ := el.i
            obtain ⟨ndk, kin⟩ := own_kids h ea'
            have od : O (kx X xa) H3 (plus (plus Wc as) bs) d v bs := (O.ofE e1 (by simpa using nb)).keep (fun a o e _ => s3 a o (s2 a o e)) (fun a q => .inl q) fun a _ o e => s3 a o (s2 a o e)
            obtain ⟨kids', r', nd', sub'⟩ := set_os rq ndk (fun a m => fresh_as h f1 a (kin a m)) s13 f1 n1 od ljl
            obtain ⟨as', h', st⟩ := wr H3 bs _ (ws.set jl v) kids' s13 f1 r' (by rw [List.length_set]; exact zq) nd' sub'
            have ej : j2 = kk.toNat := by
              unfold ixN at hj2
              rw [if_pos k0] at hj2
              split at hj2
              · simp at hj2; omega
              · cases hj2
            subst ej
            exact ⟨q', ws, kl, jl, rfl, rfl, s13 _ _ hq, by rw [← rq.length]; exact hjl, a σ _ as' h' st⟩
        · exact a.elim
    · exact a.elim
theorem Os.init {K : Kx} {H : Hp} {W : Addr → Prop} : ∀ {ds : List D} {vs : List V} {as : List Addr}, Os K H W ds vs as → ∃ as', Os K H W ds.dropLast vs.dropLast as' ∧ as'.Sublist as
  | [], _, _, h => by cases h; exact ⟨[], .nil, List.Sublist.refl _⟩
  | [_], _, _, h => by
    cases h with
    | cons h t => cases t; exact ⟨[], .nil, List.nil_sublist _⟩
  | _ :: _ :: _, _, _, h => by
    cases h with
    | cons h t =>
      obtain ⟨as', o, s⟩ := Os.init t
      cases t with
      | cons h2 t => exact ⟨_, .cons h o, (List.Sublist.refl _).append s⟩
theorem O.flat {K : Kx} {H : Hp} {W : Addr → Prop} {d : D} {v : V} {as : List Addr} (h : O K H W d v as) (f : isF1 d = true) : F K H W d v := by
  cases h with
  | fz h => exact h
  | ow _ _ _ => cases f
  | dk _ _ _ _ _ => cases f
  | dn _ _ _ _ _ _ _ => cases f
  | ob _ _ _ => cases f
  | sb _ _ _ _ => cases f
/-- y = x.pop() -/
theorem s_apop {i x : Nat} {nm y : Str} {p py apos cpos : Pos} (hnd : X.N.Nodup) (hi : X.N[i]? = some y) (hy : L2.Loc X.env.scope y) (hf : X.fn y = true ∨ X.env.scope.names.lookup y = some .local) (hN : X.N[x]? = some nm) (hv : Vis X.env.scope nm) (hd : (nm == ("__debug__" : Str)) = false) (hcd : (nm == ("__classdict__" : Str)) = false)
    (hl : (apos.endLine == cpos.line) = true) : PS X (.Assign [.Name y py] (.Call (.Attribute (.Name nm p) "pop" apos) [] [] cpos) pos) (tS (kx X xa) ea Wx (ex c n (.apop i x))) := by
  refine ps_imp (ps_asg (pe_bm0 PySem.F.plainAttrs_list PySem.F.slot_list_pop PySem.F.type_list_pop mt_pop (pe_var hN hv hd hcd) rfl hl) (pg_name hnd hi hy hf) rfl rfl rfl) fun D σ H ⟨ρ, as, Wc, h, a⟩ => ?_
  simp only [ex] at a
  split at a
  · rename_i xs hx
    split at a
    · rename_i d hlast
      split at a
      · rename_i hc
        obtain ⟨f1, ne⟩ := and2 hc
        obtain ⟨p, vs, kids, a0, a1, ea', e1, hp, z, r, wr⟩ := write_slot h hx
        have lv : xs.length = vs.length := r.length
        obtain ⟨v, bs, hvl, od⟩ := r.get hlast
        have fd := od.flat f1
        obtain ⟨kids', o', sb⟩ := r.init
        obtain ⟨ndk, kin⟩ := own_kids h ea'
        have f0 : Fresh H [] := fun _ m => nomatch m
        have subk : ∀ a ∈ kids', a ∈ kids := fun a m => sb.subset m
        obtain ⟨as', h', st⟩ := wr H [] xs.dropLast vs.dropLast kids' (Same.refl H) f0 (o'.later (Same.refl H) f0) (by rw [List.length_dropLast]; omega) (List.nodup_cons.mpr ⟨fun m => (List.nodup_cons.mp ndk).1 (subk _ m), sb.nodup (List.nodup_cons.mp ndk).2⟩) fun a m => .inl (subk a m)
        have fd' : F (kx X xa) (upd H p (.lst vs.dropLast)) (plus Wc as') d v := fd.keep (fun a o e n => by
          rw [upd_ne fun q => n (by rw [q]; exact .inr (kin p List.mem_cons_self))]; exact e) fun a q => by
            rcases q with q | q
            · exact .inl (.inl q)
            · exact (st.sub a q).elim (fun m => .inl (.inr m)) .inr
        obtain ⟨as2, e2, sp2⟩ := set_sl h'.sl (O.fz fd') i
        have f00 : Fresh (upd H p (.lst vs.dropLast)) [] := fun _ m => nomatch m
        obtain ⟨h2, st2⟩ := h'.store (Same.refl _) f00 List.nodup_nil (e2.keep (fun _ _ q _ => q) (fun a q => .inl (plus_nil q)) fun _ _ _ q => q) sp2
        refine ⟨_, e1, .inl ⟨rfl, vs, SqL.of hp⟩, p, vs, v, rfl, rfl, hp, by rw [← lv]; exact hvl, ?_⟩
        exact a _ _ _ h2 (st.trans st2)
      · exact a.elim
    · exact a.elim
  · exact a.elim
theorem s_augpop {i x : Nat} {op : Bop} {j : Int} {nm y : Str} {p py apos cpos jp spos : Pos} {jq : Nat} (hnd : X.N.Nodup) (hi : X.N[i]? = some y) (hy : L2.Loc X.env.scope y) (hf : X.fn y = true ∨ X.env.scope.names.lookup y = some .local) (hN : X.N[x]? = some nm) (hv : Vis X.env.scope nm) (hd : (nm == ("__debug__" : Str)) = false) (hcd : (nm == ("__classdict__" : Str)) = false)
    (hl : (apos.endLine == cpos.line) = true) : PS X (.AugAssign (.Name y py) (opOf op) (.Subscript (.Call (.Attribute (.Name nm p) "pop" apos) [] [] cpos) (.Constant (.int j) jq jp) spos) pos) (tS (kx X xa) ea Wx (ex c n (.augpop i op x j))) := by
  refine ps_imp (ps_aug hnd hi hy (pe_ix ix_tup (pe_bm0 PySem.F.plainAttrs_list PySem.F.slot_list_pop PySem.F.type_list_pop mt_pop (pe_var hN hv hd hcd) rfl hl) pe_int (fun _ _ => rfl)) (ip_aug op) hf) fun D σ H ⟨ρ, as, Wc, h, a⟩ => ?_
  simp only [ex] at a
  split at a
  · rename_i k xs hk hx
    unfold augpopD at a
    split at a
    · rename_i ys hlast
      split at a
      · rename_i b hb
        split at a
        · rename_i ne
          obtain ⟨vk, bk, ek, ok, _⟩ := h.sl.get' hk
          cases ok with
          | fz f =>
            cases f
            obtain ⟨p, vs, kids, a0, a1, ea', e1, hp, z, r, wr⟩ := write_slot h hx
            have lv : xs.length = vs.length := r.length
            obtain ⟨v, bs, hvl, od⟩ := r.get hlast
            have fd := od.flat rfl
            obtain ⟨kids', o', sb⟩ := r.init
            obtain ⟨ndk, kin⟩ := own_kids h ea'
            have f0 : Fresh H [] := fun _ m => nomatch m
            have subk : ∀ a ∈ kids', a ∈ kids := fun a m => sb.subset m
            obtain ⟨as', h', st⟩ := wr H [] xs.dropLast vs.dropLast kids' (Same.refl H) f0 (o'.later (Same.refl H) f0) (by rw [List.length_dropLast]; omega) (List.nodup_cons.mpr ⟨fun m => (List.nodup_cons.mp ndk).1 (subk _ m), sb.nodup (List.nodup_cons.mp ndk).2⟩) fun a m => .inl (subk a m)
            have fd' : F (kx X xa) (upd H p (.lst vs.dropLast)) (plus Wc as) (.tup ys) v := fd.keep (fun a o e n => by
              rw [upd_ne fun q => n (by rw [q]; exact .inr (kin p List.mem_cons_self))]; exact e) fun a q => .inl q
            obtain ⟨q, us, rfl, sq, zq, ru⟩ := F.t fd'
            obtain ⟨w, hw, fw⟩ := at_F ru hb
            cases fw
            refine ⟨_, ek, ⟨_, e1, .inl ⟨rfl, vs, SqL.of hp⟩, p, vs, _, rfl, rfl, hp, by rw [← lv]; exact hvl, q, us, j, _, rfl, rfl, sq, hw, ?_⟩⟩
            obtain ⟨m, a, g⟩ := aug_out a
            refine g _ _ ?_
            obtain ⟨as2, e2, sp2⟩ := set_sl h'.sl (O.fz (F.int m)) i
            have f00 : Fresh (upd H p (.lst vs.dropLast)) [] := fun _ m => nomatch m
            obtain ⟨h2, st2⟩ := h'.store (Same.refl _) f00 List.nodup_nil (e2.keep (fun _ _ q _ => q) (fun a q => .inl (plus_nil q)) fun _ _ _ q => q) sp2
            exact a _ _ _ h2 (st.trans st2)
        · exact a.elim
      · exact a.elim
    · exact a.elim
  · exact a.elim
end
/-! ### for y in x: y[i] = e -/
theorem Sl.junk {K : Kx} {H : Hp} {W : Addr → Prop} : ∀ {ρ : Rho} {σ : L2.St} {as : List Addr} {y : Nat} {u : Option V}, Sl K H W ρ σ as → ρ[y]? = some none → Sl K H W ρ (σ.set y u) as
  | _, _, _, _, _, .nil, h => by simp at h
  | _, _, _, 0, u, .em t, _ => .em t
  | _, _, _, 0, u, .fu h t, e => by simp at e
  | _, _, _, y + 1, u, .em t, e => .em (Sl.junk t (by simpa using e))
  | _, _, _, y + 1, u, .fu h t, e => .fu h (Sl.junk t (by simpa using e))
theorem St1.junk {K : Kx} {Wc : Addr → Prop} {H : Hp} {ρ : Rho} {σ : L2.St} {as : List Addr} {y : Nat} {u : Option V} (h : St1 K Wc H ρ σ as) (e : ρ[y]? = some none) : St1 K Wc H ρ (σ.set y u) as := ⟨h.sl.junk e, h.nd, h.dj, h.wk⟩
theorem noEr_out {α : Type} {r : Re α} {a : α} (h : noEr r = .ok a) : r = .ok a := by
  cases r with
  | ok b => exact h
  | er _ => cases h
  | st => cases h
/-- what a turn tells -/
theorem fsItem_out {c : Cn} {y : Nat} {i e : S} {ρ : Rho} {d d' : D} (h : fsItem c y i e ρ d = .ok d') : ∃ ys u k zs, d = .lst .ow ys ∧ ev c e (ρ.set y (some d)) = .ok u ∧ ev c i (ρ.set y (some d)) = .ok k ∧ isF1 u = true ∧ isBo u = false ∧ setI ys k u = some zs ∧ d' = .lst .ow zs := by
  unfold fsItem at h
  split at h
  · rename_i ys
    cases q1 : noEr (ev c e (ρ.set y (some (.lst .ow ys)))) with
    | er _ => rw [q1] at h; cases h
    | st => rw [q1] at h; cases h
    | ok u =>
      rw [q1] at h
      simp only [bind_ok] at h
      cases q2 : noEr (ev c i (ρ.set y (some (.lst .ow ys)))) with
      | er _ => rw [q2] at h; cases h
      | st => rw [q2] at h; cases h
      | ok k =>
        rw [q2] at h
        simp only [bind_ok] at h
        split at h
        · rename_i hc
          cases q3 : setI ys k u with
          | none => rw [q3] at h; cases h
          | some zs =>
            rw [q3] at h
            simp only [lift_some, bind_ok, Re.ok.injEq] at h
            obtain ⟨h1, h2⟩ := and2 hc
            exact ⟨ys, u, k, zs, rfl, noEr_out q1, noEr_out q2, h1, not_true h2, q3, h.symm⟩
        · cases h
  · cases h
theorem fsItem_er {c : Cn} {y : Nat} {i e : S} {ρ : Rho} {d : D} {er : Ec} : fsItem c y i e ρ d ≠ .er er := by
  intro h
  unfold fsItem at h
  split at h
  · rename_i ys
    cases q1 : noEr (ev c e (ρ.set y (some (.lst .ow ys)))) with
    | er _ => cases q : ev c e (ρ.set y (some (.lst .ow ys))) <;> rw [q] at q1 <;> cases q1
    | st => rw [q1] at h; cases h
    | ok u =>
      rw [q1] at h
      simp only [bind_ok] at h
      cases q2 : noEr (ev c i (ρ.set y (some (.lst .ow ys)))) with
      | er _ => cases q : ev c i (ρ.set y (some (.lst .ow ys))) <;> rw [q] at q2 <;> cases q2
      | st => rw [q2] at h; cases h
      | ok k =>
        rw [q2] at h
        simp only [bind_ok] at h
        split at h
        · cases q3 : setI ys k u <;> rw [q3] at h <;> cases h
        · cases h
  · cases h
section
variable {X : Cx} {xa : Xa} {ea : Ec → Addr} {c : Cn} {Wx : WX} {n : Nat} {pos : Pos} {e i : Expr} {se si : S}
theorem s_fset {x y : Nat} {nm ny : Str} {p py py2 spos pos2 : Pos} (hp : PassesOwn (model X.prog X.w) X.A X.env X.xe) (hc : X.calm = true) (hnd : X.N.Nodup) (hN : X.N[x]? = some nm) (hv : Vis X.env.scope nm) (hd : (nm == ("__debug__" : Str)) = false) (hcd : (nm == ("__classdict__" : Str)) = false)
    (hy : X.N[y]? = some ny) (hly : L2.Loc X.env.scope ny) (hfy : X.fn ny = true ∨ X.env.scope.names.lookup ny = some .local) (hvy : Vis X.env.scope ny) (hdy : (ny == ("__debug__" : Str)) = false) (hcy : (ny == ("__classdict__" : Str)) = false)
    (he : PE X e (tE (lx X xa ea c) Wx se)) (hi : PE X i (tE (lx X xa ea c) Wx si)) (hs : swapsWithSole [.Subscript (.Name ny py2) i spos] e pos2.line X.env = pure false) (hw : swappedStores [.Subscript (.Name ny py2) i spos] e X.env = pure none) (hsl : ∀ l u s q, i ≠ .Slice l u s q) :
    PS X (.For (.Name ny py) (.Name nm p) [.Assign [.Subscript (.Name ny py2) i spos] e pos2] [] pos) (tS (kx X xa) ea Wx (ex c n (.fset x y si se))) := by
  refine ps_imp (ps_for hp hc (pi_list (pe_var hN hv hd hcd)) (pg_name hnd hy hly hfy) (pss_one (ps_asg he (pg_sub (pe_var hy hvy hdy hcy) hi set_list (plain_sub hsl)) hs hw rfl)) fun _ => rfl) fun D σ H ⟨ρ, as, Wc, h, a⟩ => ?_
  simp only [ex] at a
  split at a
  · rename_i xs hx
    by_cases hxy' : x = y ∨ ρ.length ≤ y
    · rw [if_pos hxy'] at a; exact a.elim
    rw [if_neg hxy'] at a
    have hxy : ¬ x = y := fun e => hxy' (.inl e)
    have hyl : y < ρ.length := Nat.lt_of_not_le fun e => hxy' (.inr e)
    obtain ⟨pa, vs, kids, a0, a1, ea', e1, hpa, z, r, wr⟩ := write_slot h hx
    cases qm : mapRe (fsItem c y si se (ρ.set x none)) xs with
    | st => rw [qm] at a; exact a.elim
    | er er => exact absurd qm (mapRe_er fun a => fsItem_er)
    | ok ys =>
      rw [qm] at a
      simp only [of_ok] at a
      refine ⟨_, e1, pa, rfl, ⟨vs, SqL.of hpa⟩, ?_⟩
      obtain ⟨lys, gys⟩ := mapRe_get qm
      have lv : xs.length = vs.length := r.length
      obtain ⟨as0, e0, s0, nd0⟩ := set_none y h.sl
      refine ⟨fun k m σ' H' => m = xs.length - k ∧ k ≤ xs.length ∧ ∃ as2, St1 (kx X xa) Wc H' ((ρ.set x (some (.lst .ow (ys.take k ++ xs.drop k)))).set y none) σ' as2 ∧ Step H as H' as2 ∧ σ'[x]? = some (some (.ref pa)) ∧ H' pa = some (.lst vs), ?_, ?_⟩
      · have sly : Sl (kx X xa) H (plus Wc as) (ρ.set y none) σ as0 := by
          have ll : σ.length = ρ.length := h.sl.length.symm
          by_cases hy2 : y < σ.length
          · have j := e0.junk (y := y) (u := σ[y]) (by rw [List.getElem?_set_self (by rw [← ll]; exact hy2)])
            rw [List.set_set, List.set_getElem_self] at j
            exact j
          · have eσ : σ.set y none = σ := List.set_eq_of_length_le (by omega)
            rw [eσ] at e0
            exact e0
        refine ⟨_, rfl, Nat.zero_le _, as0, ?_, ⟨fun _ _ e _ => e, fun a m => .inl (s0 a m)⟩, e1, hpa⟩
        rw [List.take_zero, List.drop_zero, List.nil_append, set_same hx]
        exact h.less sly (nd0 h.nd) s0
      · rintro k m σ' H' ⟨rfl, hk, as2, h2, st2, hsx, hp2⟩
        by_cases q : k = xs.length
        · subst q
          refine .inl ⟨⟨vs, SqL.of hp2, by rw [lv]; exact Nat.le_refl _⟩, ?_⟩
          rw [List.take_of_length_le (by rw [lys]; exact Nat.le_refl _), List.drop_length, List.append_nil] at h2
          exact a σ' H' as2 h2 st2
        · have lt : k < xs.length := by omega
          refine .inr ⟨⟨vs, vs[k]'(by omega), SqL.of hp2, by simp⟩, fun σ3 H3 => ∃ as2, St1 (kx X xa) Wc H3 ((ρ.set x (some (.lst .ow (ys.take (k + 1) ++ xs.drop (k + 1))))).set y none) σ3 as2 ∧ Step H as H3 as2 ∧ σ3[x]? = some (some (.ref pa)) ∧ H3 pa = some (.lst vs), fun σ3 H3 w => ⟨_, ?_, rfl, lt, w⟩, ?_⟩
          · omega
          · rintro v H3 ⟨rfl, hv3⟩
            have hcx : ((ρ.set x (some (.lst .ow (ys.take k ++ xs.drop k)))).set y none)[x]? = some (some (.lst .ow (ys.take k ++ xs.drop k))) := by
              have lx : x < ρ.length := (List.getElem?_eq_some_iff.mp hx).1
              rw [List.getElem?_set_ne (fun e => hxy e.symm), List.getElem?_set_self lx]
            obtain ⟨d', hd', hf⟩ := gys k xs[k] (by simp [lt])
            obtain ⟨yk, u, kk, zs, exk, ev1, ev2, f1, nb, hset, rfl⟩ := fsItem_out hf
            have hck : (ys.take k ++ xs.drop k)[k]? = some (.lst .ow yk) := by
              rw [List.getElem?_append_right (by rw [List.length_take]; omega), List.length_take, lys]
              have : k - min k xs.length = 0 := by omega
              rw [this, List.getElem?_drop]
              simp [lt, exk]
            obtain ⟨p', vs', q', ws, kq, b0, b1, eb, g1, g2, npq, g3, g4, hq, zq, rq, wr2⟩ := write_slot2 h2 hcx hck
            rw [hsx] at g1
            cases g1
            rw [hp2] at g2
            cases g2
            have evv : v = .ref q' := by
              have := hv3 _ (SqL.of hp2)
              rw [g4] at this
              cases this; rfl
            subst evv
            obtain ⟨as3, e3, s3, _⟩ := set_none x h2.sl
            have ll2 : ((ρ.set x (some (.lst .ow (ys.take k ++ xs.drop k)))).set y none).length = σ'.length := h2.sl.length
            have lx2 : x < σ'.length := (List.getElem?_eq_some_iff.mp hsx).1
            have j := e3.junk (y := x) (u := some (.ref pa)) (by rw [List.getElem?_set_self (by rw [ll2]; exact lx2)])
            rw [List.set_set, set_same hsx] at j
            obtain ⟨as4, e4, _⟩ := set_sl j (O.ow hq zq rq) y
            have eρ : ((((ρ.set x (some (.lst .ow (ys.take k ++ xs.drop k)))).set y none).set x none).set y (some (.lst .ow yk))) = (ρ.set x none).set y (some (.lst .ow yk)) := by
              rw [List.set_comm _ _ (fun e => hxy e.symm), List.set_set, List.set_set]
            rw [eρ] at e4
            rw [exk] at ev1 ev2
            have ly2 : y < σ'.length := by
              rw [← ll2, List.length_set, List.length_set]
              exact hyl
            refine tE_go e4 h2.wk ?_
            show Aft (ev c se _) _ _
            rw [ev1]
            intro H4 vu bu s4 eu fu nu l4 w4
            refine ⟨.ref q', List.getElem?_set_self ly2, tE_go l4 w4 ?_⟩
            show Aft (ev c si _) _ _
            rw [ev2]
            intro H5 vk bk s5 ek _ _ _ _
            have s45 := s4.trans s5
            obtain ⟨kk', jj, rfl, hj, rfl, lj⟩ := setI_out hset
            obtain ⟨rfl, _⟩ := ek.i
            refine ⟨q', ws, kk', jj, rfl, rfl, s45 _ _ hq, by rw [← rq.length]; exact hj, ?_⟩
            have od : O (kx X xa) H5 (plus (plus Wc as2) bu) u vu bu := (O.ofE eu nb).keep (fun a o e _ => s5 a o e) (fun a q => .inl (q.elim .inl .inr)) fun a _ o e => s5 a o e
            obtain ⟨ndk, kin⟩ := own_kids h2 eb
            obtain ⟨kids', r', nd', sub'⟩ := set_os rq ndk (fun a m => fresh_as h2 fu a (kin a m)) s45 fu nu od lj
            obtain ⟨as5, h5, st5⟩ := wr2 H5 bu _ (ws.set jj vu) kids' s45 fu r' (by rw [List.length_set]; exact zq) nd' sub'
            have ecur : (ys.take k ++ xs.drop k).set k (.lst .ow (yk.set jj u)) = ys.take (k + 1) ++ xs.drop (k + 1) := by
              have lk : k < ys.length := by rw [lys]; exact lt
              have lt' : (ys.take k).length = k := by rw [List.length_take]; omega
              rw [List.set_append_right _ _ (by rw [lt']; exact Nat.le_refl _), lt', Nat.sub_self, List.drop_eq_getElem_cons lt, List.set_cons_zero, List.take_succ_eq_append_getElem lk, List.append_assoc]
              congr 2
              rw [List.getElem?_eq_getElem lk] at hd'
              have e9 := Option.some.inj hd'
              rw [← e9]
            have eρ2 : ((ρ.set x (some (.lst .ow (ys.take k ++ xs.drop k)))).set y none).set x (some (.lst .ow ((ys.take k ++ xs.drop k).set k (.lst .ow (yk.set jj u))))) = (ρ.set x (some (.lst .ow (ys.take (k + 1) ++ xs.drop (k + 1))))).set y none := by
              rw [List.set_comm _ _ (fun e => hxy e.symm), List.set_set, ecur]
            rw [eρ2] at h5
            refine ⟨as5, h5.junk ?_, st2.trans st5, ?_, ?_⟩
            · rw [List.getElem?_set_self (by rw [List.length_set]; have := ll2; rw [List.length_set, List.length_set] at this; omega)]
            · rw [List.getElem?_set_ne (fun e => hxy e.symm)]; exact hsx
            · rw [upd_ne npq]; exact s45 _ _ hp2
  · exact a.elim
end
end Ds

namespace Ds
open PySem PySem.Spec PyProof.Rows L2
/-! ## 17b. Statements that write into instances -/
/-- slot x holds an object that may be written -/
theorem write_obj {K : Kx} {H : Hp} {Wc : Addr → Prop} {ρ : Rho} {σ : L2.St} {as : List Addr} {x : Nat} {o : Ow} {k : Nat} {ns : List Str} {ds : List D} (h : St1 K Wc H ρ σ as) (hx : objOf ρ[x]? = some (o, k, ns, ds)) :
    ∃ p dx vs kids a0 a1, as = a0 ++ (p :: kids) ++ a1 ∧ σ[x]? = some (some (.ref p)) ∧ H p = some (.ins (clA K.k k) dx (ns.zip vs)) ∧ ns.length = vs.length ∧ Os K H (plus Wc as) ds vs kids ∧ ρ[x]? = some (some (.obj o k ns ds)) ∧ (o = .lk → K.xa = some (true, p)) ∧
      (∀ (H' : Hp) (bs : List Addr) (k' : Nat) (ns' : List Str) (ds' : List D) (dx' : Addr) (vs' : List V) (kids' : List Addr), (∀ a u, H a = some u → a ∉ p :: kids → H' a = some u) → Fresh H bs → H' p = some (.ins (clA K.k k') dx' (ns'.zip vs')) → ns'.length = vs'.length → Os K H' (plus Wc (a0 ++ (p :: kids') ++ a1)) ds' vs' kids' → (p :: kids').Nodup → (∀ a ∈ kids', a ∈ kids ∨ a ∈ bs) →
        ∃ as', St1 K Wc H' (ρ.set x (some (.obj o k' ns' ds'))) σ as' ∧ Step H as H' as') ∧
      ∀ (H' : Hp), (∀ a u, H a = some u → a ∉ p :: kids → H' a = some u) → ∃ as', St1 K Wc H' (ρ.set x none) σ as' ∧ Step H as H' as' := by
  have hx' : ρ[x]? = some (some (.obj o k ns ds)) ∧ (o = .ow ∨ o = .lk) := by
    unfold objOf at hx
    split at hx
    · rename_i e; cases hx; exact ⟨e, .inl rfl⟩
    · rename_i e; cases hx; exact ⟨e, .inr rfl⟩
    · cases hx
  obtain ⟨hx, ho⟩ := hx'
  have lx : x < ρ.length := (List.getElem?_eq_some_iff.mp hx).1
  obtain ⟨a0, ax, a1, ea, g, q⟩ := h.sl.at lx
  obtain ⟨v, ev, ob⟩ := g _ hx
  have main : ∀ {p dx : Addr} {vs : List V} {kids : List Addr}, as = a0 ++ (p :: kids) ++ a1 → v = .ref p → H p = some (.ins (clA K.k k) dx (ns.zip vs)) → ns.length = vs.length → Os K H (plus Wc as) ds vs kids → (o = .lk → K.xa = some (true, p)) →
      ∃ p dx vs kids a0 a1, as = a0 ++ (p :: kids) ++ a1 ∧ σ[x]? = some (some (.ref p)) ∧ H p = some (.ins (clA K.k k) dx (ns.zip vs)) ∧ ns.length = vs.length ∧ Os K H (plus Wc as) ds vs kids ∧ ρ[x]? = some (some (.obj o k ns ds)) ∧ (o = .lk → K.xa = some (true, p)) ∧
      (∀ (H' : Hp) (bs : List Addr) (k' : Nat) (ns' : List Str) (ds' : List D) (dx' : Addr) (vs' : List V) (kids' : List Addr), (∀ a u, H a = some u → a ∉ p :: kids → H' a = some u) → Fresh H bs → H' p = some (.ins (clA K.k k') dx' (ns'.zip vs')) → ns'.length = vs'.length → Os K H' (plus Wc (a0 ++ (p :: kids') ++ a1)) ds' vs' kids' → (p :: kids').Nodup → (∀ a ∈ kids', a ∈ kids ∨ a ∈ bs) →
        ∃ as', St1 K Wc H' (ρ.set x (some (.obj o k' ns' ds'))) σ as' ∧ Step H as H' as') ∧
      ∀ (H' : Hp), (∀ a u, H a = some u → a ∉ p :: kids → H' a = some u) → ∃ as', St1 K Wc H' (ρ.set x none) σ as' ∧ Step H as H' as' := by
    intro p dx vs kids ea ev' hp hl r hself
    subst ev'
    have nd := h.nd
    rw [ea] at nd
    have n0 := List.nodup_append.mp nd
    have n1 := List.nodup_append.mp n0.1
    have pin : ∀ a ∈ p :: kids, a ∈ as := fun a m => by rw [ea]; exact List.mem_append_left _ (List.mem_append_right _ m)
    have p0 : ∀ a ∈ a0, a ∉ p :: kids := fun a m m' => n1.2.2 a m a m' rfl
    have p1 : ∀ a ∈ a1, a ∉ p :: kids := fun a m m' => n0.2.2 a (List.mem_append_right _ m') a m rfl
    have ka : ∀ (H' : Hp), (∀ a u, H a = some u → a ∉ p :: kids → H' a = some u) → ∀ a ∈ a0 ++ a1, ∀ o, H a = some o → H' a = some o := fun H' kp a m o e => kp a o e (by
      rcases List.mem_append.mp m with m | m
      · exact p0 a m
      · exact p1 a m)
    have tr : ∀ a ∈ as, H a ≠ none := fun a m q => by
      obtain ⟨vs, e, _⟩ := h.wk a (.inr m)
      rw [q] at e
      cases e
    refine ⟨p, dx, vs, kids, a0, a1, ea, ev, hp, hl, r, hx, hself, fun H' bs k' ns' ds' dx' vs' kids' kp f hp' hl' r' nd' sub => ?_, fun H' kp => ?_⟩
    · have subA : ∀ a ∈ a0 ++ (p :: kids') ++ a1, a ∈ as ∨ a ∈ bs := fun a m => by
        rw [ea]
        rcases List.mem_append.mp m with m | m
        · rcases List.mem_append.mp m with m | m
          · exact .inl (by simp [m])
          · rcases List.mem_cons.mp m with m | m
            · exact .inl (by simp [m])
            · rcases sub a m with m | m
              · exact .inl (by simp [m])
              · exact .inr m
        · exact .inl (by simp [m])
      obtain ⟨_, q⟩ := q H' (plus Wc (a0 ++ (p :: kids') ++ a1)) (fun a o e n => kp a o e fun m => n (.inr (pin a m))) (fun a m => by
        rcases m with m | m
        · exact .inl (.inl m)
        · exact (subA a m).elim (fun m => .inl (.inr m)) fun m => .inr (f a m)) (ka H' kp)
      have r2 := r'
      have newO : O K H' (plus Wc (a0 ++ (p :: kids') ++ a1)) (.obj o k' ns' ds') (.ref p) (p :: kids') := by
        cases o with
        | ow => exact .ob hp' hl' r2
        | lk => exact .sb (hself rfl) hp' hl' r2
        | fr => rcases ho with ho | ho <;> cases ho
        | bo => rcases ho with ho | ho <;> cases ho
      have sl' := q _ _ _ newO
      rw [set_same ev] at sl'
      have nd2 : (a0 ++ (p :: kids') ++ a1).Nodup := by
        refine List.nodup_append.mpr ⟨List.nodup_append.mpr ⟨n1.1, nd', fun a m b m' e => ?_⟩, n0.2.1, fun a m b m' e => ?_⟩
        · subst e
          rcases List.mem_cons.mp m' with m' | m'
          · exact p0 a m (by rw [m']; exact List.mem_cons_self)
          · rcases sub a m' with m' | m'
            · exact p0 a m (List.mem_cons_of_mem _ m')
            · exact tr a (by rw [ea]; simp [m]) (f a m')
        · subst e
          rcases List.mem_append.mp m with m | m
          · exact n0.2.2 a (by simp [m]) a m' rfl
          · rcases List.mem_cons.mp m with m | m
            · exact p1 a m' (by rw [m]; exact List.mem_cons_self)
            · rcases sub a m with m | m
              · exact p1 a m' (List.mem_cons_of_mem _ m)
              · exact tr a (by rw [ea]; simp [m']) (f a m)
      have sb : ∀ a ∈ a0 ++ (p :: kids') ++ a1, a ∈ as ∨ H a = none := fun a m => (subA a m).imp id fun m => f a m
      refine ⟨_, ⟨sl', nd2, dj_new h.wk h.dj sb, wk_new (fun a m => ?_) sl'⟩, ⟨fun a o e n => kp a o e fun q => n (pin a q), sb⟩⟩
      obtain ⟨vs, e, wz⟩ := h.wk a (.inl m)
      exact ⟨vs, kp a _ e fun q => h.dj a (pin a q) m, wz⟩
    · obtain ⟨q, _⟩ := q H' (plus Wc (a0 ++ a1)) (fun a o e n => kp a o e fun m => n (.inr (pin a m))) (fun a m => by
        rcases m with m | m
        · exact .inl (.inl m)
        · refine .inl (.inr ?_)
          rw [ea]
          rcases List.mem_append.mp m with m | m
          · simp [m]
          · simp [m]) (ka H' kp)
      have sub2 : ∀ a ∈ a0 ++ a1, a ∈ as := fun a m => by
        rw [ea]
        rcases List.mem_append.mp m with m | m
        · simp [m]
        · simp [m]
      have nd2 : (a0 ++ a1).Nodup := List.nodup_append.mpr ⟨n1.1, n0.2.1, fun a m b m' e => n0.2.2 a (List.mem_append_left _ m) b m' e⟩
      refine ⟨_, ⟨q, nd2, fun a m => h.dj a (sub2 a m), wk_new (fun a m => ?_) q⟩, ⟨fun a o e n => kp a o e fun q => n (pin a q), fun a m => .inl (sub2 a m)⟩⟩
      obtain ⟨vs, e, wz⟩ := h.wk a (.inl m)
      exact ⟨vs, kp a _ e fun q => h.dj a (pin a q) m, wz⟩
  cases ob with
  | fz f =>
    cases f with
    | ob _ _ _ _ => rcases ho with ho | ho <;> cases ho
  | ob hp hl r => exact main ea rfl hp hl r fun e => nomatch e
  | sb e hp hl r => exact main ea rfl hp hl r fun _ => e

section
variable {X : Cx} {xa : Xa} {ea : Ec → Addr} {c : Cn} {Wx : WX} {n : Nat} {pos : Pos} {e i : Expr} {se si : S}
/-- what is left may be written at fewer places -/
theorem Os.less {K : Kx} {H : Hp} {W W' : Addr → Prop} {ds : List D} {vs : List V} {as : List Addr} (r : Os K H W ds vs as) (s : ∀ a, W' a → W a) : Os K H W' ds vs as := r.keep (fun _ _ q _ => q) (fun a q => .inl (s a q)) fun _ _ _ q => q
theorem sub_as {Wc : Addr → Prop} {as bs a0 a1 kids kids' : List Addr} {p : Addr} (ea : as = a0 ++ (p :: kids) ++ a1) (sub : ∀ a ∈ kids', a ∈ kids ∨ a ∈ bs) : ∀ a, plus Wc (a0 ++ (p :: kids') ++ a1) a → plus (plus Wc as) bs a := by
  intro a m
  rcases m with m | m
  · exact .inl (.inl m)
  · rcases List.mem_append.mp m with m | m
    · rcases List.mem_append.mp m with m | m
      · exact .inl (.inr (by rw [ea]; simp [m]))
      · rcases List.mem_cons.mp m with m | m
        · exact .inl (.inr (by rw [ea]; simp [m]))
        · rcases sub a m with m | m
          · exact .inl (.inr (by rw [ea]; simp [m]))
          · exact .inr m
    · exact .inl (.inr (by rw [ea]; simp [m]))
theorem getF_none {α β : Type} {x : Str} : ∀ {ns : List Str} {ds : List α} {vs : List β}, ns.length = ds.length → ds.length = vs.length → getF ns ds x = none → (∀ d, putA ns ds x d = ds ++ [d]) ∧ ∀ v, putA ns vs x v = vs ++ [v]
  | [], [], [], _, _, _ => ⟨fun _ => rfl, fun _ => rfl⟩
  | n :: ns, d :: ds, v :: vs, l, l2, h => by
    simp only [getF] at h
    split at h
    · cases h
    · rename_i q
      obtain ⟨h1, h2⟩ := getF_none (ns := ns) (ds := ds) (vs := vs) (by simpa using l) (by simpa using l2) h
      exact ⟨fun d => by simp only [putA]; rw [if_neg q, h1]; rfl, fun v => by simp only [putA]; rw [if_neg q, h2]; rfl⟩
  | [], _ :: _, _, l, _, _ => by simp at l
  | _ :: _, [], _, l, _, _ => by simp at l
  | _, [], _ :: _, _, l, _ => by simp at l
  | _, _ :: _, [], _, l, _ => by simp at l
/-- an attribute is set -/
theorem putA_os {K : Kx} {H H1 : Hp} {W : Addr → Prop} {ns : List Str} {ds : List D} {vs : List V} {kids bs : List Addr} {p : Addr} {x : Str} {d : D} {v : V} (hl : ns.length = vs.length) (r : Os K H W ds vs kids) (nd : (p :: kids).Nodup) (dj : ∀ a ∈ p :: kids, a ∉ bs) (s : Same H H1) (f : Fresh H bs) (nb : bs.Nodup) (o : O K H1 (plus W bs) d v bs) :
    ∃ kids', Os K H1 (plus W bs) (putA ns ds x d) (putA ns vs x v) kids' ∧ (p :: kids').Nodup ∧ ∀ a ∈ kids', a ∈ kids ∨ a ∈ bs := by
  cases q : getF ns ds x with
  | none =>
    obtain ⟨h1, h2⟩ := getF_none (by rw [hl, r.length]) r.length q
    have on : Os K H1 (plus W bs) [d] [v] bs := by
      have := Os.cons o .nil
      rw [List.append_nil] at this
      exact this
    refine ⟨kids ++ bs, by rw [h1, h2]; exact Os.append (r.later s f) on, ?_, fun a m => List.mem_append.mp m⟩
    exact List.nodup_append.mpr ⟨nd, nb, fun a m b m' e => dj a m (e ▸ m')⟩
  | some d0 =>
    obtain ⟨j, v0, _, hj, _, _, h5, h6⟩ := lookup_getF (H := H) r.length q
    rw [h5, h6]
    exact set_os r nd dj s f nb o (List.getElem?_eq_some_iff.mp hj).1
/-- x.f = e -/
theorem s_oset {x : Nat} {nm f : Str} {p ap : Pos} (hf : FldsOk X.K c.flds) (hN : X.N[x]? = some nm) (hv : Vis X.env.scope nm) (hd : (nm == ("__debug__" : Str)) = false) (hcd : (nm == ("__classdict__" : Str)) = false) (he : PE X e (tE (lx X xa ea c) Wx se))
    (hs : swapsWith e (some (.Attribute (.Name nm p) f ap)) pos.line X.env = pure false) : PS X (.Assign [.Attribute (.Name nm p) f ap] e pos) (tS (kx X xa) ea Wx (ex c n (.oset x f se))) := by
  refine ps_imp (ps_fld (pe_var hN hv hd hcd) he hs) fun D σ H ⟨ρ, as, Wc, h, a⟩ => ?_
  simp only [ex] at a
  refine tS_e h a fun d H1 v bs _ s1 e1 f1 n1 l1 h1 a => ?_
  split at a
  · exact a.elim
  · rename_i nb
    split at a
    · rename_i o k ns ds hx
      split at a
      · rename_i hc
        simp only [Bool.and_eq_true, decide_eq_true_eq] at hc
        obtain ⟨p, dx, vs, kids, a0, a1, ea', e2, hp, hl, r, _, _, wr, _⟩ := write_obj h hx
        obtain ⟨ndk, kin⟩ := own_kids h ea'
        have od := O.ofE e1 (by simpa using nb)
        obtain ⟨kids', r', nd', sub'⟩ := putA_os (x := f) hl r ndk (fun a m => fresh_as h f1 a (kin a m)) s1 f1 n1 od
        obtain ⟨hz, hl'⟩ := putF_zip (x := f) (v := v) hl
        have kp : ∀ (u : HO) b o, H b = some o → b ∉ p :: kids → upd H1 p u b = some o := fun u b o eb nm => by rw [upd_ne fun q => nm (by rw [q]; exact List.mem_cons_self)]; exact s1 b o eb
        have r2 : Os (kx X xa) (upd H1 p (.ins (clA X.K k) dx ((putNs ns f).zip (putA ns vs f v)))) (plus Wc (a0 ++ (p :: kids') ++ a1)) (putA ns ds f d) (putA ns vs f v) kids' := by
          refine (r'.less (sub_as ea' sub')).keep (fun b o eb nw => ?_) (fun b q => .inl q) fun b m o eb => ?_
          · rw [upd_ne fun q => nw (by rw [q]; exact .inr (by simp))]; exact eb
          · rw [upd_ne fun q => (List.nodup_cons.mp nd').1 (by rw [← q]; exact m)]; exact eb
        obtain ⟨as', h', st⟩ := wr (upd H1 p (.ins (clA X.K k) dx ((putNs ns f).zip (putA ns vs f v)))) bs k _ _ dx _ kids' (kp _) f1 upd_same hl' r2 nd' sub'
        refine ⟨_, e2, p, clA X.K k, dx, ns.zip vs, rfl, s1 _ _ hp, (hf k f hc.1).1, (hf k f hc.1).2, ?_, ?_⟩
        · rw [List.length_zip]; omega
        · rw [hz]; exact a σ _ as' h' st
      · exact a.elim
    · exact a.elim
/-- an owned list among the attributes -/
theorem fld_lst {K : Kx} {H : Hp} {W : Addr → Prop} {ns : List Str} {ds : List D} {vs : List V} {kids : List Addr} {f : Str} {xs : List D} {p : Addr} (hl : ns.length = vs.length) (r : Os K H W ds vs kids) (nd : (p :: kids).Nodup) (hg : getF ns ds f = some (.lst .ow xs)) :
    ∃ q xv qk, (ns.zip vs).lookup f = some (.ref q) ∧ H q = some (.lst xv) ∧ xv.length ≤ sizeLine ∧ Os K H W xs xv qk ∧ (q :: qk).Nodup ∧ q ∈ kids ∧ q ≠ p ∧ (∀ a ∈ qk, a ∈ kids) ∧
      ∀ (H1 : Hp) (bs : List Addr) (xs' : List D) (xv' : List V) (qk' : List Addr), Same H H1 → Fresh H bs → (∀ a ∈ p :: kids, a ∉ bs) → Os K H1 (plus W bs) xs' xv' qk' → xv'.length ≤ sizeLine → (q :: qk').Nodup → (∀ a ∈ qk', a ∈ qk ∨ a ∈ bs) → (∀ a, W a → a ∉ bs) → W q →
        ∃ kids', Os K (upd H1 q (.lst xv')) (plus W bs) (putA ns ds f (.lst .ow xs')) vs kids' ∧ (p :: kids').Nodup ∧ (∀ a ∈ kids', a ∈ kids ∨ a ∈ bs) := by
  obtain ⟨j, v, hlk, hj, hv, _, h5, _⟩ := lookup_getF (H := H) r.length hg
  obtain ⟨k0, kj, k1, ek, ⟨dj, vj, ej1, ej2, oj⟩, q⟩ := r.set (List.getElem?_eq_some_iff.mp hj).1
  rw [hj] at ej1
  rw [hv] at ej2
  cases ej1
  cases ej2
  cases oj with
  | fz f => cases f
  | ow hq z rx =>
    rename_i q0 xv qk
    have nk := (List.nodup_cons.mp nd).2
    rw [ek] at nk
    have n0 := List.nodup_append.mp nk
    have n1 := List.nodup_append.mp n0.1
    have qin : ∀ a ∈ q0 :: qk, a ∈ kids := fun a m => by rw [ek]; simp only [List.mem_append]; exact .inl (.inr m)
    refine ⟨q0, xv, qk, hlk, hq, z, rx, n1.2.1, qin _ List.mem_cons_self, fun e => (List.nodup_cons.mp nd).1 (e ▸ qin _ List.mem_cons_self), fun a m => qin a (List.mem_cons_of_mem _ m), fun H1 bs xs' xv' qk' s f dk rx' z' nd' sub wb wq => ?_⟩
    have kn : ∀ a ∈ qk', a ≠ q0 := fun a m e => (List.nodup_cons.mp nd').1 (e ▸ m)
    have newO : O K (upd H1 q0 (.lst xv')) (plus W bs) (.lst .ow xs') (.ref q0) (q0 :: qk') := by
      refine .ow upd_same z' (rx'.keep (fun a o e n => ?_) (fun a m => .inl m) fun a m o e => ?_)
      · rw [upd_ne fun q => n (by rw [q]; exact .inl wq)]; exact e
      · rw [upd_ne (kn a m)]; exact e
    have oth : ∀ a ∈ k0 ++ k1, a ≠ q0 := fun a m e => by
      subst e
      rcases List.mem_append.mp m with m | m
      · exact n1.2.2 a m a List.mem_cons_self rfl
      · exact n0.2.2 a (List.mem_append_right _ List.mem_cons_self) a m rfl
    have q := q (upd H1 q0 (.lst xv')) (plus W bs) (fun a o e n => by rw [upd_ne fun q => n (by rw [q]; exact wq)]; exact s a o e) (fun a m => m.elim .inl fun m => .inr (f a m)) (fun a m o e => by rw [upd_ne (oth a m)]; exact s a o e) _ _ _ newO
    rw [set_same hv, ← h5] at q
    refine ⟨_, q, ?_, fun a m => ?_⟩
    · have hp0 : p ∉ kids := (List.nodup_cons.mp nd).1
      have qk2 : ∀ a ∈ q0 :: qk', a ∈ kids ∨ a ∈ bs := fun a m => by
        rcases List.mem_cons.mp m with m | m
        · exact .inl (by rw [m]; exact qin _ List.mem_cons_self)
        · exact (sub a m).imp (fun m => qin a (List.mem_cons_of_mem _ m)) id
      refine List.nodup_cons.mpr ⟨fun m => ?_, List.nodup_append.mpr ⟨List.nodup_append.mpr ⟨n1.1, nd', fun a m b m' e => ?_⟩, n0.2.1, fun a m b m' e => ?_⟩⟩
      · rcases List.mem_append.mp m with m | m
        · rcases List.mem_append.mp m with m | m
          · exact hp0 (by rw [ek]; simp [m])
          · rcases qk2 p m with m | m
            · exact hp0 m
            · exact dk p List.mem_cons_self m
        · exact hp0 (by rw [ek]; simp [m])
      · subst e
        rcases List.mem_cons.mp m' with m' | m'
        · exact n1.2.2 a m a (by rw [m']; exact List.mem_cons_self) rfl
        · rcases sub a m' with m' | m'
          · exact n1.2.2 a m a (List.mem_cons_of_mem _ m') rfl
          · exact dk a (List.mem_cons_of_mem _ (by rw [ek]; simp [m])) m'
      · subst e
        rcases List.mem_append.mp m with m | m
        · exact n0.2.2 a (List.mem_append_left _ m) a m' rfl
        · rcases List.mem_cons.mp m with m | m
          · exact n0.2.2 a (by rw [m]; simp) a m' rfl
          · rcases sub a m with m | m
            · exact n0.2.2 a (List.mem_append_right _ (List.mem_cons_of_mem _ m)) a m' rfl
            · exact dk a (List.mem_cons_of_mem _ (by rw [ek]; simp [m'])) m
    · rcases List.mem_append.mp m with m | m
      · rcases List.mem_append.mp m with m | m
        · exact .inl (by rw [ek]; simp [m])
        · rcases List.mem_cons.mp m with m | m
          · exact .inl (by rw [m]; exact qin _ List.mem_cons_self)
          · exact (sub a m).imp (fun m => qin a (List.mem_cons_of_mem _ m)) id
      · exact .inl (by rw [ek]; simp [m])

theorem nowW {Wc : Addr → Prop} {H : Hp} {as bs : List Addr} (w : Wok H (plus Wc as)) (f : Fresh H bs) : ∀ a, plus Wc as a → a ∉ bs := fun a q m => by
  obtain ⟨o, e, _⟩ := w a q
  rw [f a m] at e
  cases e
/-- a list among the attributes is written -/
theorem wr_fld {Wc : Addr → Prop} {H : Hp} {ρ : Rho} {σ : L2.St} {as : List Addr} {x : Nat} {o : Ow} {k : Nat} {ns : List Str} {ds xs : List D} {f : Str} (h : St1 (kx X xa) Wc H ρ σ as) (hx : objOf ρ[x]? = some (o, k, ns, ds)) (hg : getF ns ds f = some (.lst .ow xs)) :
    ∃ p dx fs q xv qk, σ[x]? = some (some (.ref p)) ∧ H p = some (.ins (clA X.K k) dx fs) ∧ fs.lookup f = some (.ref q) ∧ H q = some (.lst xv) ∧ xv.length ≤ sizeLine ∧ Os (kx X xa) H (plus Wc as) xs xv qk ∧ (q :: qk).Nodup ∧ (∀ a ∈ q :: qk, a ∈ as) ∧
      ∀ (H1 : Hp) (bs : List Addr) (xs' : List D) (xv' : List V) (qk' : List Addr), Same H H1 → Fresh H bs → bs.Nodup → Os (kx X xa) H1 (plus (plus Wc as) bs) xs' xv' qk' → xv'.length ≤ sizeLine → (q :: qk').Nodup → (∀ a ∈ qk', a ∈ qk ∨ a ∈ bs) →
        ∃ as', St1 (kx X xa) Wc (upd H1 q (.lst xv')) (ρ.set x (some (.obj o k ns (putA ns ds f (.lst .ow xs'))))) σ as' ∧ Step H as (upd H1 q (.lst xv')) as' := by
  obtain ⟨p, dx, vs, kids, a0, a1, ea', e2, hp, hl, r, _, _, wr, _⟩ := write_obj h hx
  obtain ⟨ndk, kin⟩ := own_kids h ea'
  obtain ⟨q, xv, qk, h1, h2, h3, h4, h5, h6, h7, h8, h9⟩ := fld_lst hl r ndk hg
  have qin : ∀ a ∈ q :: qk, a ∈ as := fun a m => by
    rcases List.mem_cons.mp m with m | m
    · rw [m]; exact kin _ (List.mem_cons_of_mem _ h6)
    · exact kin _ (List.mem_cons_of_mem _ (h8 a m))
  refine ⟨p, dx, _, q, xv, qk, e2, hp, h1, h2, h3, h4, h5, qin, fun H1 bs xs' xv' qk' s f nb rx z nd sub => ?_⟩
  obtain ⟨kids', r', nd', sub'⟩ := h9 H1 bs xs' xv' qk' s f (fun a m => fresh_as h f a (kin a m)) rx z nd sub (nowW h.wk f) (.inr (qin _ List.mem_cons_self))
  have kp : ∀ b o, H b = some o → b ∉ p :: kids → upd H1 q (.lst xv') b = some o := fun b o eb nm => by rw [upd_ne fun q => nm (by rw [q]; exact List.mem_cons_of_mem _ h6)]; exact s b o eb
  exact wr _ bs k ns _ dx vs kids' kp f (by rw [upd_ne (Ne.symm h7)]; exact s _ _ hp) hl (r'.less (sub_as ea' sub')) nd' sub'
/-- x.f.append(e) -/
theorem s_oapp {x : Nat} {nm f : Str} {p fp apos cpos ep : Pos} (hf : FldsOk X.K c.flds) (hN : X.N[x]? = some nm) (hv : Vis X.env.scope nm) (hd : (nm == ("__debug__" : Str)) = false) (hcd : (nm == ("__classdict__" : Str)) = false) (he : PE X e (tE (lx X xa ea c) Wx se))
    (hs : starEach [e] X.env = (false, eval e X.env) :: starEach [] X.env) (hl : (apos.endLine == cpos.line) = true) :
    PS X (.Expr (.Call (.Attribute (.Attribute (.Name nm p) f fp) "append" apos) [e] [] cpos) ep) (tS (kx X xa) ea Wx (ex c n (.oapp x f se))) := by
  refine ps_imp (ps_expr (pe_bm PySem.F.plainAttrs_list PySem.F.slot_list_append PySem.F.type_list_append mt_append (pe_fld (pe_var hN hv hd hcd) rfl) (pa_cons he pa_nil hs) rfl (by rw [hs]; rfl) hl hs rfl) rfl) fun D σ H ⟨ρ, as, Wc, h, a⟩ => ?_
  simp only [ex] at a
  split at a
  · rename_i o k ns ds hx
    split at a
    · rename_i hc
      split at a
      · rename_i xs hg
        obtain ⟨p, dx, fs, q, xv, qk, e2, hp, hlk, hq, z, r, nd, qin, wr⟩ := wr_fld h hx hg
        refine ⟨_, e2, p, clA X.K k, dx, fs, _, rfl, hp, (hf k f hc).1, (hf k f hc).2, hlk, .inl ⟨rfl, xv, SqL.of hq⟩, tS_e h a fun d H1 v bs _ s1 e1 f1 n1 l1 h1 a => ?_⟩
        split at a
        · exact a.elim
        · rename_i nb
          split at a
          · rename_i lim
            have od := O.ofE e1 (by simpa using nb)
            have on : Os (kx X xa) H1 (plus (plus Wc as) bs) [d] [v] bs := by
              have := Os.cons od .nil
              rw [List.append_nil] at this
              exact this
            have lv : xs.length = xv.length := r.length
            obtain ⟨as', h', st⟩ := wr H1 bs (xs ++ [d]) (xv ++ [v]) (qk ++ bs) s1 f1 n1 (Os.append (r.later s1 f1) on) (by rw [List.length_append, ← lv]; exact lim)
              (List.nodup_append.mpr ⟨nd, n1, fun a m b m' q => fresh_as h f1 a (qin a m) (q ▸ m')⟩) (fun a m => List.mem_append.mp m)
            exact ⟨q, xv, v, rfl, rfl, s1 _ _ hq, by rw [← lv]; exact lim, a σ _ as' h' st⟩
          · exact a.elim
      · exact a.elim
    · exact a.elim
  · exact a.elim
/-- x.f[i] = e -/
theorem s_oseti {x : Nat} {nm f : Str} {p fp spos : Pos} (hf : FldsOk X.K c.flds) (hN : X.N[x]? = some nm) (hv : Vis X.env.scope nm) (hd : (nm == ("__debug__" : Str)) = false) (hcd : (nm == ("__classdict__" : Str)) = false) (he : PE X e (tE (lx X xa ea c) Wx se)) (hi : PE X i (tE (lx X xa ea c) Wx si))
    (hs : swapsWithSole [.Subscript (.Attribute (.Name nm p) f fp) i spos] e pos.line X.env = pure false) (hw : swappedStores [.Subscript (.Attribute (.Name nm p) f fp) i spos] e X.env = pure none) (hsl : ∀ l u s q, i ≠ .Slice l u s q) :
    PS X (.Assign [.Subscript (.Attribute (.Name nm p) f fp) i spos] e pos) (tS (kx X xa) ea Wx (ex c n (.oseti x f si se))) := by
  refine ps_imp (ps_asg he (pg_sub (pe_fld (pe_var hN hv hd hcd) rfl) hi set_list (plain_sub hsl)) hs hw rfl) fun D σ H ⟨ρ, as, Wc, h, a⟩ => ?_
  simp only [ex] at a
  refine tS_e h a fun d H1 v bs _ s1 e1 f1 n1 l1 h1 a => ?_
  split at a
  · exact a.elim
  · rename_i nb
    split at a
    · rename_i o k ns ds hx
      split at a
      · rename_i hc
        split at a
        · rename_i xs hg
          obtain ⟨p, dx, fs, q, xv, qk, e2, hp, hlk, hq, z, r, nd, qin, wr⟩ := wr_fld h hx hg
          refine ⟨_, e2, p, clA X.K k, dx, fs, _, rfl, s1 _ _ hp, (hf k f hc).1, (hf k f hc).2, hlk, ?_⟩
          refine tE_go l1 (h1.wk.plus e1.there) ?_
          cases q9 : ev c si ρ with
          | st => rw [q9] at a; exact a.elim
          | er er => rw [q9] at a; exact fun H' s => a σ H' as (h.same (s1.trans s)) (Step.same (s1.trans s) fun a m => .inl m)
          | ok kk =>
            rw [q9] at a
            intro H2 vk bk s2 ek _ _ _ _
            obtain ⟨ys, hys, a⟩ := aft_lo a
            obtain ⟨kk, j, rfl, hj, rfl, lj⟩ := setI_out hys
            obtain ⟨rfl, _⟩ := ek.i
            have s12 := s1.trans s2
            have od : O (kx X xa) H2 (plus (plus Wc as) bs) d v bs := (O.ofE e1 (by simpa using nb)).keep (fun a o e _ => s2 a o e) (fun a q => .inl q) fun a _ o e => s2 a o e
            obtain ⟨kids', r', nd', sub'⟩ := set_os r nd (fun a m => fresh_as h f1 a (qin a m)) s12 f1 n1 od lj
            obtain ⟨as', h', st⟩ := wr H2 bs _ (xv.set j v) kids' s12 f1 n1 r' (by rw [List.length_set]; exact z) nd' sub'
            exact ⟨q, xv, kk, j, rfl, rfl, s12 _ _ hq, by rw [← r.length]; exact hj, a σ _ as' h' st⟩
        · exact a.elim
      · exact a.elim
    · exact a.elim
/-- return x.f, the attribute moved out -/
theorem s_rfld {x : Nat} {nm f : Str} {p fp : Pos} (hf : FldsOk X.K c.flds) (hN : X.N[x]? = some nm) (hv : Vis X.env.scope nm) (hd : (nm == ("__debug__" : Str)) = false) (hcd : (nm == ("__classdict__" : Str)) = false) :
    PS X (.Return (some (.Attribute (.Name nm p) f fp)) pos) (tS (kx X xa) ea Wx (ex c n (.rfld x f))) := by
  refine ps_imp (ps_ret (pe_fld (pe_var hN hv hd hcd) rfl)) fun D σ H ⟨ρ, as, Wc, h, a⟩ => ?_
  simp only [ex] at a
  split at a
  · rename_i o k ns ds hx
    split at a
    · rename_i hc
      split at a
      · rename_i d hg
        obtain ⟨p, dx, vs, kids, a0, a1, ea', e2, hp, hl, r, _, _, wr, _⟩ := write_obj h hx
        obtain ⟨ndk, kin⟩ := own_kids h ea'
        obtain ⟨j, v, hlk, hj, hv', _⟩ := lookup_getF (H := H) r.length hg
        obtain ⟨k0, kj, k1, ek, ⟨dj, vj, ej1, ej2, oj⟩, _⟩ := r.set (List.getElem?_eq_some_iff.mp hj).1
        rw [hj] at ej1
        rw [hv'] at ej2
        cases ej1
        cases ej2
        have sub : ∀ a ∈ kj, a ∈ as := fun a m => kin a (List.mem_cons_of_mem _ (by rw [ek]; simp [m]))
        have ndj : kj.Nodup := by
          have := (List.nodup_cons.mp ndk).2
          rw [ek] at this
          exact (List.nodup_append.mp (List.nodup_append.mp this).1).2.1
        refine ⟨_, e2, p, clA X.K k, dx, _, v, rfl, hp, (hf k f hc).1, (hf k f hc).2, hlk, ?_⟩
        exact a H v kj (oj.keep (fun _ _ q _ => q) (fun a q => .inl (q.imp id (sub a))) fun _ _ _ q => q) ndj ⟨fun _ _ e _ => e, fun a m => .inl (sub a m)⟩
      · exact a.elim
    · exact a.elim
  · exact a.elim
/-! ### calls that write into their first argument -/
theorem tS_es {σ : L2.St} {H : Hp} {De : Ends} {Q : List V → Hp → Prop} {ρ : Rho} {as : List Addr} {Wc : Addr → Prop} {ss : List S} {f : List D → Out} (h : St1 (kx X xa) Wc H ρ σ as) (a : AftO (kx X xa) ea Wx De Wc H as (Out.of (evs c ss ρ) ρ f))
    (k : ∀ ds H1 vs bs, evs c ss ρ = .ok ds → Same H H1 → Es (kx X xa) H1 (plus (plus Wc as) bs) ds vs bs → Fresh H bs → bs.Nodup → St1 (kx X xa) Wc H1 ρ σ as → AftO (kx X xa) ea Wx De Wc H as (f ds) → Q vs H1) : tEs (lx X xa ea c) Wx ss σ H Q := by
  refine tEs_go h.sl h.wk ?_
  show Aft (evs c ss ρ) _ _
  cases q : evs c ss ρ with
  | st => rw [q] at a; exact a.elim
  | er e =>
    rw [q] at a
    exact fun H' s => a σ H' as (h.same s) (Step.same s fun a m => .inl m)
  | ok d =>
    rw [q] at a
    exact fun H1 v bs s1 e1 f1 n1 l1 w1 => k d H1 v bs q s1 e1 f1 n1 (h.same s1) a
theorem mt_tail (ne : noE xa) {De : Ends} {Wc : Addr → Prop} {H H1 : Hp} {ρ : Rho} {σ : L2.St} {as bs : List Addr} {x : Nat} {o : Ow} {k n : Nat} {ns : List Str} {ds ags : List D} {vs : List V} {p : Addr} {g : List D → Re D} (h : St1 (kx X xa) Wc H ρ σ as) (hx : objOf ρ[x]? = some (o, k, ns, ds)) (hs : o = .ow → ∀ a, xa ≠ some (true, a)) (s1 : Same H H1)
    (e1 : Es (kx X xa) H1 (plus (plus Wc as) bs) ags vs bs) (f1 : Fresh H bs) (nb : ags.any isBo = false) (hn : ags.length = n) (hσ : σ[x]? = some (some (.ref p))) (a : AftO (kx X xa) ea Wx De Wc H as (mtD x o ρ (g (.obj .lk k ns ds :: ags.map argD)))) :
    spM X.K ea g n (.ref p :: vs) H1 (fun _ H2 => De.nx σ H2) (WE Wx σ) := by
  have h1 := h.same s1
  obtain ⟨p', dx, fv, kids, a0, a1, ea', e2, hp, hl, r, hρ, hself, wr, er⟩ := write_obj h1 hx
  rw [hσ] at e2
  cases e2
  obtain ⟨ndk, kin⟩ := own_kids h1 ea'
  have nd := h1.nd
  rw [ea'] at nd
  have n0 := List.nodup_append.mp nd
  have n1 := List.nodup_append.mp n0.1
  have ho : o = .ow ∨ o = .lk := by
    unfold objOf at hx
    split at hx
    · cases hx; exact .inl rfl
    · cases hx; exact .inr rfl
    · cases hx
  -- the places of all the others
  have sub1 : ∀ (ks : List Addr) (a : Addr), plus (fun b => Wc b ∨ b ∈ a0 ++ a1) (p :: ks) a → plus Wc (a0 ++ (p :: ks) ++ a1) a := fun ks a q => by
    rcases q with (q | q) | q
    · exact .inl q
    · refine .inr ?_
      rcases List.mem_append.mp q with q | q
      · simp [q]
      · simp [q]
    · exact .inr (by simp only [List.mem_append]; exact .inl (.inr q))
  have sub2 : ∀ (ks : List Addr) (a : Addr), plus Wc (a0 ++ (p :: ks) ++ a1) a → plus (fun b => Wc b ∨ b ∈ a0 ++ a1) (p :: ks) a := fun ks a q => by
    rcases q with q | q
    · exact .inl (.inl q)
    · rcases List.mem_append.mp q with q | q
      · rcases List.mem_append.mp q with q | q
        · exact .inl (.inr (List.mem_append_left _ q))
        · exact .inr q
      · exact .inl (.inr (List.mem_append_right _ q))
  have nself : ∀ a, xa = some (true, a) → a ∉ kids := fun a e m => by
    rcases ho with ho | ho
    · exact hs ho a e
    · have := hself ho
      rw [show (kx X xa).xa = xa from rfl, e] at this
      cases this
      exact (List.nodup_cons.mp ndk).1 m
  have fa : Fs ⟨X.K, none⟩ H1 (plus Wc as) (ags.map argD) vs := (e1.args (fresh_no h.wk f1) (fun b m => m) nb).unE ne
  refine ⟨by rw [List.length_cons, ← e1.length, hn], p, dx, k, ns, ds, fv, kids, ags.map argD, vs, fun b => Wc b ∨ b ∈ a0 ++ a1, rfl, hp, hl, ?_, ndk, fun b m q => ?_, fun b q => ?_, ?_, ?_⟩
  · exact (r.unE ne nself).less fun a q => by rw [ea']; exact sub1 kids a q
  · rcases q with q | q
    · exact h1.dj b (kin b m) q
    · rcases List.mem_append.mp q with q | q
      · exact n1.2.2 b q b m rfl
      · exact n0.2.2 b (List.mem_append_right _ m) b q rfl
  · exact h1.wk b (by rw [ea']; exact sub1 kids b q)
  · exact fa.keep (fun _ _ q _ => q) fun b q => .inl (by rw [ea']; exact sub1 kids b q)
  · cases qg : g (.obj .lk k ns ds :: ags.map argD) with
    | st => rw [qg] at a; exact a.elim
    | er e =>
      rw [qg] at a
      intro H' kp
      obtain ⟨as', h', st⟩ := er H' kp
      exact a σ H' as' h' ((Step.same s1 fun a m => .inl m).trans st)
    | ok d =>
      rw [qg] at a
      unfold mtD at a
      split at a
      · rename_i k' ns' ds' q
        cases q
        intro H' dx' fv' kids' hp' hl' r' nd' st
        have kn : ∀ a ∈ kids', a ∈ kids ∨ H1 a = none := fun a m => by
          rcases st.sub a (List.mem_cons_of_mem _ m) with q | q
          · rcases List.mem_cons.mp q with q | q
            · exact absurd m (by rw [q]; exact (List.nodup_cons.mp nd').1)
            · exact .inl q
          · exact .inr q
        obtain ⟨as', h', st'⟩ := wr H' (kids'.filter fun a => (H1 a).isNone) k' ns' ds' dx' fv' kids' (fun a u e m => st.kp a u e m) (fun b m => by
            have := (List.mem_filter.mp m).2
            cases q : H1 b with
            | none => rfl
            | some _ => rw [q] at this; cases this) hp' hl' ((Os.toX r').less (sub2 kids')) nd' fun a m => (kn a m).imp id fun q => List.mem_filter.mpr ⟨m, by rw [q]; rfl⟩
        exact a σ H' as' h' ((Step.same s1 fun a m => .inl m).trans st')
      · rename_i q; cases q
      · exact a.elim
theorem owsl {c : Cn} {xa : Xa} {o : Ow} (cs : c.slf = false → ∀ a, xa ≠ some (true, a)) (h : (decide (o = .lk) || !c.slf) = true) : o = .ow → ∀ a, xa ≠ some (true, a) := fun e => by
  subst e
  refine cs ?_
  simpa using h
/-- x.m(es) -/
theorem s_meth (ne : noE xa) (cs : c.slf = false → ∀ a, xa ≠ some (true, a)) {x f k : Nat} {nm m : Str} {n0 : Nat} {g : List D → Re D} {p apos cpos ep : Pos} {es : List Expr} {ss : List S} (tk : L2N.Takes X Wx) (R : RdyMM X ea k m n0 g) (hf : c.ms[f]? = some (k, g)) (hn : ss.length = n0)
    (hN : X.N[x]? = some nm) (hv : Vis X.env.scope nm) (hd : (nm == ("__debug__" : Str)) = false) (hcd : (nm == ("__classdict__" : Str)) = false) (ha : PA X (e :: es) (tEs (lx X xa ea c) Wx ss)) (hl : (apos.endLine == cpos.line) = true) (hst : starEach (e :: es) X.env = (false, eval e X.env) :: starEach es X.env)
    (hpl : (backTo cpos (starEach es X.env)).any (·.1) = false) (hz : es.length < 28) : PS X (.Expr (.Call (.Attribute (.Name nm p) m apos) (e :: es) [] cpos) ep) (tS (kx X xa) ea Wx (ex c n (.meth x m f ss))) := by
  obtain ⟨fa, fd, ps, kk, F, hr, hc, hm, hb⟩ := R.ok
  refine ps_imp (ps_expr (pe_methS (pe_var hN hv hd hcd) hc hm F hr hb (fun σ => L2N.passAt tk σ) ha hst hpl (mcall_name hl (noStars (by rw [hst]; unfold backTo at hpl ⊢; rw [List.map_cons, List.any_cons]; exact hpl)) (by simp; omega))) rfl) fun D σ H ⟨ρ, as, Wc, h, a⟩ => ?_
  simp only [ex, hf] at a
  split at a
  · rename_i o k' ns ds _ _ hx he
    cases he
    split at a
    · rename_i hcc
      simp only [Bool.and_eq_true, decide_eq_true_eq, Bool.not_eq_true'] at hcc
      obtain ⟨⟨rfl, hnm⟩, hsl⟩ := hcc
      obtain ⟨p', dx, fv, kids, a0, a1, ea', e2, hp, hlf, r, hρ, hself, wr, er⟩ := write_obj h hx
      refine ⟨_, e2, p', dx, _, rfl, hp, lookup_no hnm, tS_es h a fun ds' H1 vs bs q s1 e1 f1 n1 h1 a => ?_⟩
      split at a
      · exact a.elim
      · rename_i nb
        exact mt_tail ne h hx (owsl cs hsl) s1 e1 f1 (by simpa using nb) (by rw [evs_len q, hn]) e2 a
    · exact a.elim
  · exact a.elim
/-- x.m() -/
theorem s_meth0 (ne : noE xa) (cs : c.slf = false → ∀ a, xa ≠ some (true, a)) {x f k : Nat} {nm m : Str} {g : List D → Re D} {p apos cpos ep : Pos} (tk : L2N.Takes X Wx) (R : RdyMM X ea k m 0 g) (hf : c.ms[f]? = some (k, g))
    (hN : X.N[x]? = some nm) (hv : Vis X.env.scope nm) (hd : (nm == ("__debug__" : Str)) = false) (hcd : (nm == ("__classdict__" : Str)) = false) (hl : (apos.endLine == cpos.line) = true) :
    PS X (.Expr (.Call (.Attribute (.Name nm p) m apos) [] [] cpos) ep) (tS (kx X xa) ea Wx (ex c n (.meth x m f []))) := by
  obtain ⟨fa, fd, ps, kk, F, hr, hc, hm, hb⟩ := R.ok
  refine ps_imp (ps_expr (pe_methS0 (pe_var hN hv hd hcd) hc hm F hr hb (fun σ => L2N.passAt tk σ) (mcall_name hl rfl (by simp))) rfl) fun D σ H ⟨ρ, as, Wc, h, a⟩ => ?_
  simp only [ex, hf] at a
  split at a
  · rename_i o k' ns ds _ _ hx he
    cases he
    split at a
    · rename_i hcc
      simp only [Bool.and_eq_true, decide_eq_true_eq, Bool.not_eq_true'] at hcc
      obtain ⟨⟨rfl, hnm⟩, hsl⟩ := hcc
      obtain ⟨p', dx, fv, kids, a0, a1, ea', e2, hp, hlf, r, hρ, hself, wr, er⟩ := write_obj h hx
      refine ⟨_, e2, p', dx, _, rfl, hp, lookup_no hnm, tEs_nil (X := X) (xa := xa) (ea := ea) (c := c) (Wx := Wx) (σ := σ) (Q := fun vs H2 => spM X.K ea g 0 (V.ref p' :: vs) H2 (fun _ H1 => D.nx σ H1) (WE Wx σ)) (tS_es h a fun ds' H1 vs bs q s1 e1 f1 n1 h1 a => ?_)⟩
      split at a
      · exact a.elim
      · rename_i nb
        exact mt_tail ne h hx (owsl cs hsl) s1 e1 f1 (by simpa using nb) (by rw [evs_len q]; rfl) e2 a
    · exact a.elim
  · exact a.elim
/-- f(x, es) -/
theorem s_ofn (ne : noE xa) (cs : c.slf = false → ∀ a, xa ≠ some (true, a)) {x f k : Nat} {nm y : Str} {n0 : Nat} {g : List D → Re D} {p yp cpos ep : Pos} {es : List Expr} {ss : List S} (tk : L2N.Takes X Wx) (R : RdyMF X ea y n0 g) (hf : c.ms[f]? = some (k, g)) (hn : ss.length = n0) (hg : Gl X y)
    (hN : X.N[x]? = some nm) (hv : Vis X.env.scope nm) (hd : (nm == ("__debug__" : Str)) = false) (hcd : (nm == ("__classdict__" : Str)) = false) (ha : PA X es (tEs (lx X xa ea c) Wx ss)) (hdb : (y == ("__debug__" : Str)) = false)
    (hst : starEach (.Name nm p :: es) X.env = (false, eval (.Name nm p) X.env) :: starEach es X.env) (hpl : (backTo cpos (starEach es X.env)).any (·.1) = false) : PS X (.Expr (.Call (.Name y yp) (.Name nm p :: es) [] cpos) ep) (tS (kx X xa) ea Wx (ex c n (.ofn x f ss))) := by
  obtain ⟨fa, fd, ps, kk, F, hr, hm, hk, hb⟩ := R.ok
  refine ps_imp (ps_expr (pe_callS F hr hg hm hk hb (fun σ => L2N.passAt tk σ) (pa_cons (pe_var hN hv hd hcd) ha hst) hdb hst hpl) rfl) fun D σ H ⟨ρ, as, Wc, h, a⟩ => ?_
  simp only [ex, hf] at a
  split at a
  · rename_i o k' ns ds _ _ hx he
    cases he
    split at a
    · rename_i hsl
      obtain ⟨p', dx, fv, kids, a0, a1, ea', e2, hp, hlf, r, hρ, hself, wr, er⟩ := write_obj h hx
      refine ⟨_, e2, tS_es h a fun ds' H1 vs bs q s1 e1 f1 n1 h1 a => ?_⟩
      split at a
      · exact a.elim
      · rename_i nb
        exact mt_tail ne h hx (owsl cs hsl) s1 e1 f1 (by simpa using nb) (by rw [evs_len q, hn]) e2 a
    · exact a.elim
  · exact a.elim
end
end Ds

namespace Ds
open PySem PySem.Spec PyProof.Rows L2
/-! ## 18. Is that text the tree of those statements? -/
structure Cs extends Ct where
  rs : List (Str × Ec) := []
/-- no comprehension whose last store is exchanged -/
def swB (sc : Scope) (tg v : Expr) : Bool := match v with
  | .ListComp _ _ scope pos => (match tg with
    | .Name t p => !(sc.names.lookup t == some .local && p.line == pos.line && !(scope.names.any fun (n, k) => n == t && (k == .local || k == .cell)))
    | _ => true)
  | .SetComp .. => false
  | .DictComp _ _ _ scope pos => (match tg with
    | .Name t p => !(sc.names.lookup t == some .local && p.line == pos.line && !(scope.names.any fun (n, k) => n == t && (k == .local || k == .cell)))
    | _ => true)
  | _ => true
def isComp : S → Bool
  | .comp .. => true
  | .comp2 .. => true
  | _ => false
def isLc : Expr → Bool
  | .ListComp .. => true
  | .SetComp .. => true
  | .DictComp .. => true
  | _ => false
/-- not two displays -/
def ssB (tg v : Expr) : Bool := match tg, v with
  | .Tuple .., .Tuple .. => false
  | .List .., _ => false
  | _, _ => true
def swS (sc : Scope) (ts vs : List Expr) : Option (Option (List Str)) :=
  if (!(ts.length == 2 || ts.length == 3) || vs.length != ts.length) = true then some none else
  if (vs.any fun | .Starred .. => true | _ => false) = true then some none else
  let line := (ts.head?.map (·.pos.line)).getD 0
  let names := ts.filterMap fun
    | .Name id pos => if sc.names.lookup id == some .local && pos.line == line then some id else none
    | _ => none
  if (names.length != ts.length || names.eraseDups.length != names.length) = true then some none else
  if vs.all (foldedForSure 8) = true then some none else
  if vs.all (constantsAlone 8) = true then none else some (some names)
def nmB (Γ : Cs) : List Nat → List Expr → Bool
  | [], [] => true
  | i :: is, .Name x _ :: es => decide (Γ.N[i]? = some x) && locB Γ.toCt x && nmB Γ is es
  | _, _ => false
def lcB (Γ : Cs) (i : Nat) (x : Str) : Bool := decide (Γ.N[i]? = some x) && decide (Γ.sc.names.lookup x = some .local)
def cPar (Γ : Cs) (is : List Nat) (k : List Expr → Bool) (st : Stmt) : Bool := match st with
  | .Assign [.Tuple ts _ _] (.Tuple es _ _) _ => Γ.calm && decide (is.length ≤ 16) && decide (es.length = is.length) && k es && (match swS Γ.sc ts es with
    | some none => nmB Γ is ts
    | some (some _) => (match is, ts with
      | [i, j], [.Name x _, .Name y _] => lcB Γ i x && lcB Γ j y && decide (i ≠ j) && decide (swS Γ.sc ts es = some (some [x, y]))
      | [i, j, l], [.Name x _, .Name y _, .Name z _] => lcB Γ i x && lcB Γ j y && lcB Γ l z && decide (i ≠ j) && decide (i ≠ l) && decide (j ≠ l) && decide (swS Γ.sc ts es = some (some [x, y, z]))
      | _, _ => false)
    | none => false)
  | _ => false
def cAsg (Γ : Cs) (g : G) (s : S) (st : Stmt) : Bool := match st with
  | .Assign [tg] v _ => ck s .v Γ.toCt v && noStar tg && ckG Γ.toCt g tg && ssB tg v && (swB Γ.sc tg v || (isComp s && (match tg with
      | .Name _ _ => true
      | _ => false)))
  | _ => false
def cAug (Γ : Cs) (i : Nat) (op : Bop) (s : S) (st : Stmt) : Bool := match st with
  | .AugAssign (.Name x _) o v _ => decide (o = opOf op) && decide (Γ.N[i]? = some x) && locB Γ.toCt x && ck s .v Γ.toCt v
  | _ => false
def cSeti (Γ : Cs) (x : Nat) (i s : S) (st : Stmt) : Bool := match st with
  | .Assign [.Subscript (.Name nm _) y _] v _ => varB Γ.toCt x nm && noSlice y && true && ck i .v Γ.toCt y && ck s .v Γ.toCt v
  | _ => false
def cSeti2 (Γ : Cs) (x : Nat) (i j s : S) (st : Stmt) : Bool := match st with
  | .Assign [.Subscript (.Subscript (.Name nm _) y _) z _] v _ => varB Γ.toCt x nm && noSlice y && noSlice z && true && ck i .v Γ.toCt y && ck j .v Γ.toCt z && ck s .v Γ.toCt v
  | _ => false
def cAugi (Γ : Cs) (x : Nat) (i : S) (op : Bop) (s : S) (st : Stmt) : Bool := match st with
  | .AugAssign (.Subscript (.Name nm _) y _) o v _ => varB Γ.toCt x nm && noSlice y && decide (o = opOf op) && ck i .v Γ.toCt y && ck s .v Γ.toCt v
  | _ => false
def cApp (Γ : Cs) (x : Nat) (s : S) (st : Stmt) : Bool := match st with
  | .Expr (.Call (.Attribute (.Name nm _) at' apos) [v] [] cpos) _ => decide (at' = "append") && varB Γ.toCt x nm && noStar v && (apos.endLine == cpos.line) && ck s .v Γ.toCt v
  | _ => false
def cPop (Γ : Cs) (i x : Nat) (st : Stmt) : Bool := match st with
  | .Assign [.Name y _] (.Call (.Attribute (.Name nm _) at' apos) [] [] cpos) _ => decide (at' = "pop") && varB Γ.toCt x nm && decide (Γ.N[i]? = some y) && locB Γ.toCt y && (apos.endLine == cpos.line)
  | _ => false
def cAugpop (Γ : Cs) (i : Nat) (op : Bop) (x : Nat) (j : Int) (st : Stmt) : Bool := match st with
  | .AugAssign (.Name y _) o (.Subscript (.Call (.Attribute (.Name nm _) at' apos) [] [] cpos) (.Constant (.int k) _ _) _) _ => decide (o = opOf op) && decide (k = j) && decide (at' = "pop") && varB Γ.toCt x nm && decide (Γ.N[i]? = some y) && locB Γ.toCt y && (apos.endLine == cpos.line)
  | _ => false
def cExpr (Γ : Cs) (s : S) (st : Stmt) : Bool := match st with
  | .Expr v _ => !isLc v && ck s .v Γ.toCt v
  | _ => false
def cRet (Γ : Cs) (s : S) (st : Stmt) : Bool := match st with
  | .Return (some v) _ => ck s .v Γ.toCt v
  | _ => false
def cRetN (st : Stmt) : Bool := match st with
  | .Return none _ => true
  | _ => false
def cRmv (Γ : Cs) (x : Nat) (st : Stmt) : Bool := match st with
  | .Return (some (.Name nm _)) _ => varB Γ.toCt x nm
  | _ => false
def cPass (st : Stmt) : Bool := match st with
  | .Pass _ => true
  | _ => false
def cBrk (st : Stmt) : Bool := match st with
  | .Break _ => true
  | _ => false
def cCont (st : Stmt) : Bool := match st with
  | .Continue _ => true
  | _ => false
def cIf (Γ : Cs) (t : S) (a b : List Stmt → Bool) (st : Stmt) : Bool := match st with
  | .If x b1 b2 _ => ck t .t Γ.toCt x && a b1 && b b2
  | _ => false
def cFor (Γ : Cs) (g : G) (it : S) (b : List Stmt → Bool) (st : Stmt) : Bool := match st with
  | .For tg iter body [] _ => Γ.calm && noSet iter && ckI it Γ.toCt tg iter && ckG Γ.toCt g tg && b body
  | _ => false
def cFset (Γ : Cs) (x y : Nat) (i s : S) (st : Stmt) : Bool := match st with
  | .For (.Name ny _) (.Name nm _) [.Assign [.Subscript (.Name ny2 _) z _] v _] [] _ => Γ.calm && decide (ny = ny2) && varB Γ.toCt x nm && varB Γ.toCt y ny && locB Γ.toCt ny && noSlice z && true && ck i .v Γ.toCt z && ck s .v Γ.toCt v
  | _ => false
def cWhl (Γ : Cs) (t : S) (b : List Stmt → Bool) (st : Stmt) : Bool := match st with
  | .While x body [] _ => Γ.calm && ck t .t Γ.toCt x && b body
  | _ => false
def cRais (Γ : Cs) (e : Ec) (st : Stmt) : Bool := match st with
  | .Raise (some (.Call (.Name x _) [.Constant (.str _) _ _] [] _)) none _ => Γ.calm && glB Γ.toCt x && decide ((x, e) ∈ Γ.rs)
  | _ => false
/-- the contexts of a suite -/
def Cs.su (Γ : Cs) : Cs := { Γ with calm := false, sx := true, fns := [], rms := [], mks := [], mms := [], mfs := [] }
def Cs.su0 (Γ : Cs) : Cs := { Γ with calm := false, fns := [], rms := [], mks := [], mms := [], mfs := [] }
def nonE : List Stmt → Bool
  | [] => false
  | _ => true
def cTr (Γ : Cs) (kb : List Stmt → Bool) (b : Ec) (i : Option Nat) (ks ks0 : List Stmt → Bool) (st : Stmt) : Bool := match st with
  | .Try body [.ExceptHandler (some (.Name x _)) nm suite _] [] [] _ => !Γ.slf && Γ.calm && !Γ.sx && kb body && nonE suite && glB Γ.toCt x && decide ((x, b) ∈ Γ.exs) && (match nm, i with
    | some y, some i => lcB Γ i y && ks suite
    | none, none => ks0 suite
    | _, _ => false)
  | _ => false
def cOset (Γ : Cs) (x : Nat) (f : Str) (s : S) (st : Stmt) : Bool := match st with
  | .Assign [.Attribute (.Name nm _) g _] v _ => decide (f = g) && varB Γ.toCt x nm && ck s .v Γ.toCt v
  | _ => false
def cOseti (Γ : Cs) (x : Nat) (f : Str) (i s : S) (st : Stmt) : Bool := match st with
  | .Assign [.Subscript (.Attribute (.Name nm _) g _) y _] v _ => decide (f = g) && varB Γ.toCt x nm && noSlice y && ck i .v Γ.toCt y && ck s .v Γ.toCt v
  | _ => false
def cOapp (Γ : Cs) (x : Nat) (f : Str) (s : S) (st : Stmt) : Bool := match st with
  | .Expr (.Call (.Attribute (.Attribute (.Name nm _) g _) at' apos) [v] [] cpos) _ => decide (f = g) && decide (at' = "append") && varB Γ.toCt x nm && noStar v && (apos.endLine == cpos.line) && ck s .v Γ.toCt v
  | _ => false
def cRfld (Γ : Cs) (x : Nat) (f : Str) (st : Stmt) : Bool := match st with
  | .Return (some (.Attribute (.Name nm _) g _)) _ => decide (f = g) && varB Γ.toCt x nm
  | _ => false
def cMeth (Γ : Cs) (x : Nat) (m : Str) (f n : Nat) (ks : List Expr → Bool) (st : Stmt) : Bool := match st with
  | .Expr (.Call (.Attribute (.Name nm _) m' apos) es [] cpos) _ => !Γ.sx && decide (m = m') && decide ((f, m, n) ∈ Γ.mms) && varB Γ.toCt x nm && (apos.endLine == cpos.line) && decide (es.length < 28) && ks es
  | _ => false
def cOfn (Γ : Cs) (x : Nat) (f n : Nat) (ks : List Expr → Bool) (st : Stmt) : Bool := match st with
  | .Expr (.Call (.Name y _) (.Name nm _ :: es) [] _) _ => !Γ.sx && decide ((f, y, n) ∈ Γ.mfs) && glB Γ.toCt y && varB Γ.toCt x nm && ks es
  | _ => false
def cCons (a : Stmt → Bool) (b : List Stmt → Bool) (st : List Stmt) : Bool := match st with
  | s :: r => a s && b r
  | [] => false
def cNils (st : List Stmt) : Bool := match st with
  | [] => true
  | _ => false
mutual
def ckS : T → Cs → Stmt → Bool
  | .pass, _, st => cPass st
  | .asg g s, Γ, st => cAsg Γ g s st
  | .par is ss, Γ, st => cPar Γ is (cks ss Γ.toCt) st
  | .aug i op s, Γ, st => cAug Γ i op s st
  | .seti x i s, Γ, st => cSeti Γ x i s st
  | .seti2 x i j s, Γ, st => cSeti2 Γ x i j s st
  | .augi x i op s, Γ, st => cAugi Γ x i op s st
  | .app x s, Γ, st => cApp Γ x s st
  | .apop i x, Γ, st => cPop Γ i x st
  | .augpop i op x j, Γ, st => cAugpop Γ i op x j st
  | .expr s, Γ, st => cExpr Γ s st
  | .ret s, Γ, st => cRet Γ s st
  | .retN, _, st => cRetN st
  | .rmv x, Γ, st => cRmv Γ x st
  | .ifs t a b, Γ, st => cIf Γ t (ckSs a Γ) (ckSs b Γ) st
  | .for g it b, Γ, st => cFor Γ g it (ckSs b Γ) st
  | .whl t b, Γ, st => cWhl Γ t (ckSs b Γ) st
  | .brk, _, st => cBrk st
  | .cont, _, st => cCont st
  | .rais e, Γ, st => cRais Γ e st
  | .tr b [(e, i, ts)], Γ, st => cTr Γ (ckSs b Γ) e i (ckSs ts Γ.su) (ckSs ts Γ.su0) st
  | .tr _ _, _, _ => false
  | .fz _, _, _ => false
  | .fset x y i s, Γ, st => cFset Γ x y i s st
  | .dput x i s, Γ, st => cSeti Γ x i s st
  | .any, _, _ => true
  | .retk, _, st => cRetN st
  | .oset x f s, Γ, st => cOset Γ x f s st
  | .oseti x f i s, Γ, st => cOseti Γ x f i s st
  | .oapp x f s, Γ, st => cOapp Γ x f s st
  | .rfld x f, Γ, st => cRfld Γ x f st
  | .meth x m f ss, Γ, st => cMeth Γ x m f ss.length (cks ss Γ.toCt) st
  | .ofn x f ss, Γ, st => cOfn Γ x f ss.length (cks ss Γ.toCt) st
  termination_by structural t => t
def ckSs : List T → Cs → List Stmt → Bool
  | [], _, st => cNils st
  | .fz _ :: ts, Γ, st => ckSs ts Γ st
  | t :: ts, Γ, st => cCons (ckS t Γ) (ckSs ts Γ) st
  termination_by structural t => t
end
end Ds

namespace Ds
open PySem PySem.Spec PyProof.Rows L2
/-! ## 19. The statements -/
def RaiseAs (X : Cx) (ea : Ec → Addr) (x : Str) (e : Ec) : Prop :=
  ∃ B newId initId bmB, ExcBaseFacts B newId initId bmB ∧ PySem.W.excIn X.K (ea e) bmB newId = true ∧ X.mg x = some (.ref (ea e)) ∧ PySem.W.keepIn X.K (.ref (ea e)) = true ∧ Raises X (.ref (ea e))
structure FitS (X : Cx) (Γ : Cs) (xa : Xa) (ea : Ec → Addr) (c : Cn) (Wx : WX) : Prop extends Fit X Γ.toCt xa ea c Wx where
  po : Γ.calm = true → PassesOwn (model X.prog X.w) X.A X.env X.xe
  stk : Γ.calm = true → X.stack = X.env :: X.outer ∧ X.env.frame = some X.env.locals
  exc : ∀ e, c.ecs.contains e = true → ExcC X.K (ea e)
  rs : ∀ x e, (x, e) ∈ Γ.rs → RaiseAs X ea x e
section
variable {X : Cx} {Γ : Cs} {xa : Xa} {ea : Ec → Addr} {c : Cn} {Wx : WX} {n : Nat}
theorem ss_of {tg v : Expr} {env : PySem.Env} (h : ssB tg v = true) : swappedStores [tg] v env = pure none := by
  cases tg <;> first | rfl | (cases v <;> first | rfl | (unfold ssB at h; cases h))
theorem sw_of {tg v : Expr} {env : PySem.Env} {l : Nat} (hk : env.scope.kind = .function) (h : swB env.scope tg v = true) : swapsWithSole [tg] v l env = pure false := by
  cases v with
  | ListComp elt gs scope pos =>
    cases tg with
    | Name t p =>
      unfold swB at h
      unfold swapsWithSole swapsWith
      have hb : env.blockKind = .function := by unfold Env.blockKind; rw [hk]; rfl
      simp only [hb]
      have h := not_true h
      simp only [Env.kindOf, Expr.pos]
      show pure _ = pure false
      congr 1
    | _ => rfl
  | SetComp _ _ _ _ => cases h
  | DictComp key elt gs scope pos =>
    cases tg with
    | Name t p =>
      unfold swB at h
      unfold swapsWithSole swapsWith
      have hb : env.blockKind = .function := by unfold Env.blockKind; rw [hk]; rfl
      simp only [hb]
      have h := not_true h
      simp only [Env.kindOf, Expr.pos]
      show pure _ = pure false
      congr 1
    | _ => rfl
  | _ => rfl
theorem swE_of {v : Expr} {env : PySem.Env} {tg : Option Expr} {l : Nat} (h : isLc v = false) : swapsWith v tg l env = pure false := by
  cases v <;> first | rfl | (unfold isLc at h; cases h)
theorem swS_of {ts vs : List Expr} {k1 k2 : Nat} {p1 p2 : Pos} {env : PySem.Env} {r : Option (List Str)} (hk : env.scope.kind = .function) (h : swS env.scope ts vs = some r) : swappedStores [.Tuple ts k1 p1] (.Tuple vs k2 p2) env = pure r := by
  have hb : env.blockKind = .function := by unfold Env.blockKind; rw [hk]; rfl
  unfold swS at h
  unfold swappedStores
  simp only [hb]
  split at h
  · cases h
    rename_i h1
    exact if_pos (by rw [h1]; rfl)
  · rename_i h1
    have h1 := (Bool.not_eq_true _).mp h1
    refine (if_neg (by rw [h1]; decide)).trans ?_
    split at h
    · cases h
      rename_i h2
      exact if_pos h2
    · rename_i h2
      refine (if_neg h2).trans ?_
      dsimp only at h
      split at h
      · cases h
        rename_i h3
        exact if_pos h3
      · rename_i h3
        refine (if_neg h3).trans ?_
        split at h
        · cases h
          rename_i h4
          exact if_pos h4
        · rename_i h4
          refine (if_neg h4).trans ?_
          split at h
          · cases h
          · cases h
            rename_i h5
            exact if_neg h5
theorem nsl_of {y : Expr} (h : noSlice y = true) : ∀ l u s q, y ≠ .Slice l u s q := by
  intro l u s q e
  subst e
  cases h
/-- a comprehension's value into a name of the def -/
theorem lc_ok (G0 : FitS X Γ xa ea c Wx) {i : Nat} {y : Str} {py pos : Pos} {v : Expr} : ∀ {s : S}, isComp s = true → ck s .v Γ.toCt v = true → ckG Γ.toCt (.nm i) (.Name y py) = true → swB Γ.sc (.Name y py) v = false →
    PS X (.Assign [.Name y py] v pos) (tS (kx X xa) ea Wx (ex c n (.asg (.nm i) s)))
  | .comp vs g it t s, _, h, hg, hs => by
    rw [ck] at h
    obtain ⟨hm, h⟩ := and2 h
    unfold cComp at h
    split at h
    · obtain ⟨h1, h7⟩ := and2 h
      obtain ⟨h1, h6⟩ := and2 h1
      obtain ⟨h1, h5⟩ := and2 h1
      obtain ⟨h1, h4⟩ := and2 h1
      obtain ⟨h1, h3⟩ := and2 h1
      obtain ⟨h1, h2⟩ := and2 h1
      obtain ⟨own, rfl, ok, hc, hc'⟩ := blk_of G0.toFit h1
      have GB := G0.toFit.blk hc' (calm_sx G0.toFit hc) ok.kind
      unfold ckG at hg
      obtain ⟨g1, g2⟩ := and2 hg
      unfold swB at hs
      simp only [Bool.not_eq_false', Bool.and_eq_true, Bool.not_eq_true', beq_iff_eq] at hs
      obtain ⟨⟨s1, s2⟩, s3⟩ := hs
      have hl : X.env.scope.names.lookup y = some .local := by rw [G0.sc]; exact s1
      exact s_setLc (ps_setLc hc (by rw [G0.N]; exact G0.nd) (by rw [G0.N]; exact of_decide_eq_true g1) hl (sw_true (by rw [G0.sc]; exact G0.kind) hl (by simpa using s2) s3) (ckI_ok G0.toFit h3) ok
        (fun s0 H C cl fp => ckG_ok (GB s0 H C cl fp) h4) (fun s0 H C cl fp => ifs_ok h6 rfl fun u hu => ck_ok (s := t) (m := .t) (GB s0 H C cl fp) hu)
        (te := tE (lx X xa ea c) Wf s) (fun s0 H C cl fp => ck_ok (s := s) (m := .v) (GB s0 H C cl fp) h7) fun x => set_of h2) (comp_tl (within_of h5))
    · cases h
  | .comp2 vs vs1 g it t g1 it1 t1 s, _, h, hg, hs => by
    rw [ck] at h
    obtain ⟨hm, h⟩ := and2 h
    unfold cComp2 at h
    split at h
    · obtain ⟨h1, h13⟩ := and2 h
      obtain ⟨h1, h12⟩ := and2 h1
      obtain ⟨h1, h11⟩ := and2 h1
      obtain ⟨h1, h10⟩ := and2 h1
      obtain ⟨h1, h9⟩ := and2 h1
      obtain ⟨h1, h8⟩ := and2 h1
      obtain ⟨h1, h7⟩ := and2 h1
      obtain ⟨h1, h6⟩ := and2 h1
      obtain ⟨h1, h5⟩ := and2 h1
      obtain ⟨h1, h4⟩ := and2 h1
      obtain ⟨h1, h3⟩ := and2 h1
      obtain ⟨h1, h2⟩ := and2 h1
      obtain ⟨own, rfl, ok, hc, hc'⟩ := blk_of G0.toFit h1
      have GB := G0.toFit.blk hc' (calm_sx G0.toFit hc) ok.kind
      unfold ckG at hg
      obtain ⟨g1', g2⟩ := and2 hg
      unfold swB at hs
      simp only [Bool.not_eq_false', Bool.and_eq_true, Bool.not_eq_true', beq_iff_eq] at hs
      obtain ⟨⟨s1, s2⟩, s3⟩ := hs
      have hl : X.env.scope.names.lookup y = some .local := by rw [G0.sc]; exact s1
      exact s_setLc (ps_setLc2 hc (by rw [G0.N]; exact G0.nd) (by rw [G0.N]; exact of_decide_eq_true g1') hl (sw_true (by rw [G0.sc]; exact G0.kind) hl (by simpa using s2) s3) (ckI_ok G0.toFit h5) ok (within_of h2)
        (fun s0 H C cl fp => ckG_ok (GB s0 H C cl fp) h6) (fun s0 H C cl fp => ifs_ok h8 rfl fun u hu => ck_ok (s := t) (m := .t) (GB s0 H C cl fp) hu)
        (fun s0 H C cl fp => ckI_ok (GB s0 H C cl fp) h9) (fun s0 H C cl fp => ckG_ok (GB s0 H C cl fp) h10) (fun s0 H C cl fp => ifs_ok h12 rfl fun u hu => ck_ok (s := t1) (m := .t) (GB s0 H C cl fp) hu)
        (te := tE (lx X xa ea c) Wf s) (fun s0 H C cl fp => ck_ok (s := s) (m := .v) (GB s0 H C cl fp) h13) (fun x => set_of h3) fun env x => set_of h4) (comp2_tl (within_of h2) (within_of h7) (within_of h11))
    · cases h
theorem nm_ok (G0 : FitS X Γ xa ea c Wx) : ∀ {is : List Nat} {ts : List Expr}, nmB Γ is ts = true → PGs X ts (gNms is) ∧ (assignEach ts X.env).length = is.length ∧ (assignEach ts X.env).findIdx? (·.1) = none
  | [], [], _ => ⟨pgs_nil, rfl, rfl⟩
  | i :: is, .Name x p :: es, h => by
    unfold nmB at h
    obtain ⟨h1, h3⟩ := and2 h
    obtain ⟨h1, h2⟩ := and2 h1
    obtain ⟨q, l, f⟩ := nm_ok G0 h3
    obtain ⟨l1, l2⟩ := loc_of G0.toFit h2
    refine ⟨pgs_cons (pg_name (by rw [G0.N]; exact G0.nd) (by rw [G0.N]; exact of_decide_eq_true h1) l1 l2) q rfl, ?_, ?_⟩
    · show _ + 1 = _ + 1; rw [l]
    · show List.findIdx? _ ((false, _) :: _) = none
      rw [List.findIdx?_cons, f]; rfl
theorem lcB_of (G0 : FitS X Γ xa ea c Wx) {i : Nat} {x : Str} (h : lcB Γ i x = true) : X.N[i]? = some x ∧ X.env.scope.names.lookup x = some .local := by
  unfold lcB at h
  obtain ⟨h1, h2⟩ := and2 h
  exact ⟨by rw [G0.N]; exact of_decide_eq_true h1, by rw [G0.sc]; exact of_decide_eq_true h2⟩
end
end Ds

namespace Ds
open PySem PySem.Spec PyProof.Rows L2
section
variable {X : Cx} {Γ : Cs} {xa : Xa} {ea : Ec → Addr} {c : Cn} {Wx : WX}
theorem FitS.tr (G : FitS X Γ none ea c Wx) (W : WX) (pn : List (Addr × Obj)) (xe : Value → Shared → Prop) (hc : Γ.calm = true) (tk : L2N.Takes (X.tr pn xe) W) (po : PassesOwn (model X.prog X.w) X.A X.env xe) (hx : Γ.sx = false) : FitS (X.tr pn xe) Γ none ea c W where
  N := G.N
  nd := G.nd
  sc := G.sc
  kind := G.kind
  fn := G.fn
  calm := G.calm
  hu := G.hu
  fns := fun f x n h => by
    obtain ⟨g, h1, h2⟩ := G.fns f x n h
    exact ⟨g, h1, ⟨h2.ok⟩⟩
  xn := G.xn
  xs := G.xs
  cs := G.cs
  flds := G.flds
  rms := fun f m k n h => by
    obtain ⟨q, h1, h2⟩ := G.rms f m k n h
    exact ⟨q, h1, ⟨h2.ok⟩⟩
  mks := fun f x n h => by
    obtain ⟨k, q, h1, h2⟩ := G.mks f x n h
    exact ⟨k, q, h1, ⟨h2.ok⟩⟩
  mms := fun f m n h => by
    obtain ⟨k, q, h1, h2⟩ := G.mms f m n h
    exact ⟨k, q, h1, ⟨h2.ok⟩⟩
  mfs := fun f x n h => by
    obtain ⟨k, q, h1, h2⟩ := G.mfs f x n h
    exact ⟨k, q, h1, ⟨h2.ok⟩⟩
  tk := tk
  cons := G.cons
  free := G.free
  gcd := G.gcd
  exs := G.exs
  su := fun h => by
    have h : Γ.sx = true := h
    rw [hx] at h
    cases h
  po := fun _ => po
  stk := G.stk
  exc := G.exc
  rs := G.rs
theorem FitS.suite (G : FitS X Γ none ea c Wx) (k1 : X.stack = X.env :: X.outer) (k2 : X.env.frame = some X.env.locals) (a : Addr) (oe : Obj) (e : Ec) (pn : List (Addr × Obj)) (he : c.ecs.contains e = true) (hz : L2N.Zn (.ref (ea e)) none oe) (hf : ∃ vs, oe.data = .fields vs) : FitS (X.suite a ((a, oe) :: pn)) Γ.su (some (false, a)) ea { c with ce := some e } Wf where
  N := G.N
  nd := G.nd
  sc := G.sc
  kind := G.kind
  fn := G.fn
  calm := fun h => nomatch h
  hu := G.hu
  fns := fun f x n h => by
    have h : ([] : List (Str × Nat))[f]? = some (x, n) := h
    simp at h
  xn := fun h => nomatch h
  xs := fun _ _ h => nomatch h
  cs := fun _ _ h => nomatch h
  flds := G.flds
  rms := fun f m k n h => by
    have h : (f, m, k, n) ∈ ([] : List (Nat × Str × Nat × Nat)) := h
    cases h
  mks := fun f x n h => by
    have h : (f, x, n) ∈ ([] : List (Nat × Str × Nat)) := h
    cases h
  mms := fun f x n h => by
    have h : (f, x, n) ∈ ([] : List (Nat × Str × Nat)) := h
    cases h
  mfs := fun f x n h => by
    have h : (f, x, n) ∈ ([] : List (Nat × Str × Nat)) := h
    cases h
  tk := takes_wf
  cons := G.cons
  free := G.free
  gcd := G.gcd
  exs := G.exs
  su := fun _ => ⟨X, a, oe, pn, e, rfl, rfl, hz, hf, rfl, G.exc e he, he, k1, k2⟩
  po := fun h => nomatch h
  stk := fun h => nomatch h
  exc := G.exc
  rs := G.rs
theorem FitS.suite0 (G : FitS X Γ none ea c Wx) (a : Addr) (oe : Obj) (pn : List (Addr × Obj)) (hx : Γ.sx = false) : FitS (X.suite a ((a, oe) :: pn)) Γ.su0 none ea c Wf where
  N := G.N
  nd := G.nd
  sc := G.sc
  kind := G.kind
  fn := G.fn
  calm := fun h => nomatch h
  hu := G.hu
  fns := fun f x n h => by
    have h : ([] : List (Str × Nat))[f]? = some (x, n) := h
    simp at h
  xn := fun _ => .inr fun _ h => nomatch h
  xs := fun _ _ h => nomatch h
  cs := fun _ _ h => nomatch h
  flds := G.flds
  rms := fun f m k n h => by
    have h : (f, m, k, n) ∈ ([] : List (Nat × Str × Nat × Nat)) := h
    cases h
  mks := fun f x n h => by
    have h : (f, x, n) ∈ ([] : List (Nat × Str × Nat)) := h
    cases h
  mms := fun f x n h => by
    have h : (f, x, n) ∈ ([] : List (Nat × Str × Nat)) := h
    cases h
  mfs := fun f x n h => by
    have h : (f, x, n) ∈ ([] : List (Nat × Str × Nat)) := h
    cases h
  tk := takes_wf
  cons := G.cons
  free := G.free
  gcd := G.gcd
  exs := G.exs
  su := fun h => by
    have h : Γ.sx = true := h
    rw [hx] at h
    cases h
  po := fun h => nomatch h
  stk := fun h => nomatch h
  exc := G.exc
  rs := G.rs
theorem names_of (G : FitS X Γ xa ea c Wx) {x : Str} {b : Ec} (h1 : glB Γ.toCt x = true) (h2 : (x, b) ∈ Γ.exs) : ∃ cv, Names X x cv ∧ ∀ e, c.ecs.contains e = true → PySem.W.exmOne X.K (.ref (ea e)) cv = some (e.sub b) := by
  obtain ⟨g1, g2, _⟩ := gl_of G.toFit h1
  obtain ⟨cv, k1, k2⟩ := G.exs x b h2
  refine ⟨cv, ⟨g1, g2, ?_⟩, fun e m => (k2 e m).2⟩
  rcases k1 with ⟨m, _⟩ | ⟨m, bb, nn, _⟩
  · exact .inl m
  · exact .inr ⟨m, bb, nn⟩
end
theorem len2 {α : Type} : ∀ {l : List α}, l.length = 2 → ∃ a b, l = [a, b]
  | [a, b], _ => ⟨a, b, rfl⟩
  | [], h => by cases h
  | [_], h => by cases h
  | _ :: _ :: _ :: _, h => by simp at h
theorem nonE_of {st : List Stmt} (h : nonE st = true) : ∃ a l, st = a :: l := by
  cases st with
  | nil => cases h
  | cons a l => exact ⟨a, l, rfl⟩
theorem len3 {α : Type} : ∀ {l : List α}, l.length = 3 → ∃ a b c, l = [a, b, c]
  | [a, b, c], _ => ⟨a, b, c, rfl⟩
  | [], h => by cases h
  | [_], h => by cases h
  | [_, _], h => by cases h
  | _ :: _ :: _ :: _ :: _, h => by simp at h
theorem isLc_tg {tg v : Expr} {sc : Scope} (h : isLc v = false) : swB sc tg v = true := by
  cases v <;> first | rfl | (unfold isLc at h; cases h)
theorem swsub_of {o i v : Expr} {p : Pos} {l : Nat} {env : PySem.Env} : swapsWithSole [.Subscript o i p] v l env = pure false := by
  show swapsWith v (some (.Subscript o i p)) l env = pure false
  cases v <;> rfl
theorem swatt_of {o v : Expr} {f : Str} {p : Pos} {l : Nat} {env : PySem.Env} : swapsWith v (some (.Attribute o f p)) l env = pure false := by
  cases v <;> rfl
theorem swss_of {o i v : Expr} {p : Pos} {env : PySem.Env} : swappedStores [.Subscript o i p] v env = pure none := by rfl
mutual
theorem ckS_ok : ∀ {t : T} {X : Cx} {Γ : Cs} {xa : Xa} {ea : Ec → Addr} {c : Cn} {Wx : WX} {n : Nat} {st : Stmt}, FitS X Γ xa ea c Wx → ckS t Γ st = true → PS X st (tS (kx X xa) ea Wx (ex c n t))
  | .pass, X, Γ, xa, ea, c, Wx, n, st, G, h => by
    rw [ckS] at h
    unfold cPass at h
    split at h
    · exact s_pass
    · cases h
  | .brk, X, Γ, xa, ea, c, Wx, n, st, G, h => by
    rw [ckS] at h
    unfold cBrk at h
    split at h
    · exact s_brk
    · cases h
  | .cont, X, Γ, xa, ea, c, Wx, n, st, G, h => by
    rw [ckS] at h
    unfold cCont at h
    split at h
    · exact s_cont
    · cases h
  | .retN, X, Γ, xa, ea, c, Wx, n, st, G, h => by
    rw [ckS] at h
    unfold cRetN at h
    split at h
    · exact s_retN
    · cases h
  | .asg g s, X, Γ, xa, ea, c, Wx, n, st, G, h => by
    rw [ckS] at h
    unfold cAsg at h
    split at h
    · rename_i tg v _
      obtain ⟨h1, h5⟩ := and2 h
      obtain ⟨h1, h4⟩ := and2 h1
      obtain ⟨h1, h3⟩ := and2 h1
      obtain ⟨h1, h2⟩ := and2 h1
      cases q : swB Γ.sc tg v with
      | true => exact s_asg (ck_ok (s := s) (m := .v) G.toFit h1) (ckG_ok G.toFit h3) (sw_of (by rw [G.sc]; exact G.kind) (by rw [G.sc]; exact q)) (ss_of h4) (by rw [asg_of h2]; rfl)
      | false =>
        rw [q, Bool.false_or] at h5
        obtain ⟨h5c, h6⟩ := and2 h5
        have hck := h1
        split at h6
        · cases g with
          | nm i => exact lc_ok G h5c hck h3 q
          | tup gs => unfold ckG at h3; cases h3
        · cases h6
    · cases h
  | .par is ss, X, Γ, xa, ea, c, Wx, n, st, G, h => by
    rw [ckS] at h
    unfold cPar at h
    split at h
    · obtain ⟨h1, h5⟩ := and2 h
      obtain ⟨h1, h4⟩ := and2 h1
      obtain ⟨h1, h3⟩ := and2 h1
      obtain ⟨h1, h2⟩ := and2 h1
      have hcl := G.calm h1
      have ha := cks_ok G.toFit h4
      obtain ⟨_, l⟩ := cks_nst h4
      have h2 := of_decide_eq_true h2
      have h3 := of_decide_eq_true h3
      have l16 : ss.length ≤ 16 := by rw [← l, h3]; exact h2
      have hk : X.env.scope.kind = .function := by rw [G.sc]; exact G.kind
      split at h5
      · rename_i q
        obtain ⟨n1, n2, n3⟩ := nm_ok G h5
        exact par_tup hcl ha n1 n2 n3 (swS_of hk (by rw [G.sc]; exact q)) l16
      · split at h5
        · obtain ⟨a1, a4⟩ := and2 h5
          obtain ⟨a1, a3⟩ := and2 a1
          obtain ⟨a1, a2⟩ := and2 a1
          obtain ⟨n1, n2⟩ := lcB_of G a1
          obtain ⟨m1, m2⟩ := lcB_of G a2
          obtain ⟨u, v, rfl⟩ := len2 h3
          exact par_two hcl (by rw [G.N]; exact G.nd) n1 m1 (of_decide_eq_true a3) n2 m2 ha (swS_of hk (by rw [G.sc]; exact of_decide_eq_true a4)) l16
        · obtain ⟨a1, a7⟩ := and2 h5
          obtain ⟨a1, a6⟩ := and2 a1
          obtain ⟨a1, a5⟩ := and2 a1
          obtain ⟨a1, a4⟩ := and2 a1
          obtain ⟨a1, a3⟩ := and2 a1
          obtain ⟨a1, a2⟩ := and2 a1
          obtain ⟨n1, n2⟩ := lcB_of G a1
          obtain ⟨m1, m2⟩ := lcB_of G a2
          obtain ⟨o1, o2⟩ := lcB_of G a3
          obtain ⟨u, v, w, rfl⟩ := len3 h3
          exact par_three hcl (by rw [G.N]; exact G.nd) n1 m1 o1 (of_decide_eq_true a4) (of_decide_eq_true a5) (of_decide_eq_true a6) n2 m2 o2 ha (swS_of hk (by rw [G.sc]; exact of_decide_eq_true a7)) l16
        · cases h5
      · cases h5
    · cases h
  | .aug i op s, X, Γ, xa, ea, c, Wx, n, st, G, h => by
    rw [ckS] at h
    unfold cAug at h
    split at h
    · obtain ⟨h1, h4⟩ := and2 h
      obtain ⟨h1, h3⟩ := and2 h1
      obtain ⟨h1, h2⟩ := and2 h1
      obtain ⟨l1, l2⟩ := loc_of G.toFit h3
      rw [of_decide_eq_true h1]
      exact s_aug (by rw [G.N]; exact G.nd) (by rw [G.N]; exact of_decide_eq_true h2) l1 l2 (ck_ok (s := s) (m := .v) G.toFit h4)
    · cases h
  | .seti x i s, X, Γ, xa, ea, c, Wx, n, st, G, h => by
    rw [ckS] at h
    unfold cSeti at h
    split at h
    · obtain ⟨h1, h5⟩ := and2 h
      obtain ⟨h1, h4⟩ := and2 h1
      obtain ⟨h1, h3⟩ := and2 h1
      obtain ⟨h1, h2⟩ := and2 h1
      obtain ⟨v1, v2, v3, v4⟩ := var_of G.toFit h1
      exact s_seti v1 v2 v3 v4 (ck_ok (s := s) (m := .v) G.toFit h5) (ck_ok (s := i) (m := .v) G.toFit h4) swsub_of swss_of (nsl_of h2)
    · cases h
  | .dput x i s, X, Γ, xa, ea, c, Wx, n, st, G, h => by
    rw [ckS] at h
    unfold cSeti at h
    split at h
    · obtain ⟨h1, h5⟩ := and2 h
      obtain ⟨h1, h4⟩ := and2 h1
      obtain ⟨h1, h3⟩ := and2 h1
      obtain ⟨h1, h2⟩ := and2 h1
      obtain ⟨v1, v2, v3, v4⟩ := var_of G.toFit h1
      exact s_dput G.toFit.hu v1 v2 v3 v4 (ck_ok (s := s) (m := .v) G.toFit h5) (ck_ok (s := i) (m := .v) G.toFit h4) swsub_of swss_of (nsl_of h2)
    · cases h
  | .seti2 x i j s, X, Γ, xa, ea, c, Wx, n, st, G, h => by
    rw [ckS] at h
    unfold cSeti2 at h
    split at h
    · obtain ⟨h1, h7⟩ := and2 h
      obtain ⟨h1, h6⟩ := and2 h1
      obtain ⟨h1, h5⟩ := and2 h1
      obtain ⟨h1, h4⟩ := and2 h1
      obtain ⟨h1, h3⟩ := and2 h1
      obtain ⟨h1, h2⟩ := and2 h1
      obtain ⟨v1, v2, v3, v4⟩ := var_of G.toFit h1
      exact s_seti2 v1 v2 v3 v4 (ck_ok (s := s) (m := .v) G.toFit h7) (ck_ok (s := i) (m := .v) G.toFit h5) (ck_ok (s := j) (m := .v) G.toFit h6) swsub_of swss_of (slice_of h2) (nsl_of h3)
    · cases h
  | .augi x i op s, X, Γ, xa, ea, c, Wx, n, st, G, h => by
    rw [ckS] at h
    unfold cAugi at h
    split at h
    · obtain ⟨h1, h5⟩ := and2 h
      obtain ⟨h1, h4⟩ := and2 h1
      obtain ⟨h1, h3⟩ := and2 h1
      obtain ⟨h1, h2⟩ := and2 h1
      obtain ⟨v1, v2, v3, v4⟩ := var_of G.toFit h1
      rw [of_decide_eq_true h3]
      exact s_augi v1 v2 v3 v4 (ck_ok (s := s) (m := .v) G.toFit h5) (ck_ok (s := i) (m := .v) G.toFit h4) (nsl_of h2)
    · cases h
  | .app x s, X, Γ, xa, ea, c, Wx, n, st, G, h => by
    rw [ckS] at h
    unfold cApp at h
    split at h
    · obtain ⟨h1, h5⟩ := and2 h
      obtain ⟨h1, h4⟩ := and2 h1
      obtain ⟨h1, h3⟩ := and2 h1
      obtain ⟨h1, h2⟩ := and2 h1
      obtain ⟨v1, v2, v3, v4⟩ := var_of G.toFit h2
      rw [of_decide_eq_true h1]
      exact s_app v1 v2 v3 v4 (ck_ok (s := s) (m := .v) G.toFit h5) (star_of h3) h4
    · cases h
  | .apop i x, X, Γ, xa, ea, c, Wx, n, st, G, h => by
    rw [ckS] at h
    unfold cPop at h
    split at h
    · obtain ⟨h1, h5⟩ := and2 h
      obtain ⟨h1, h4⟩ := and2 h1
      obtain ⟨h1, h3⟩ := and2 h1
      obtain ⟨h1, h2⟩ := and2 h1
      obtain ⟨v1, v2, v3, v4⟩ := var_of G.toFit h2
      obtain ⟨l1, l2⟩ := loc_of G.toFit h4
      rw [of_decide_eq_true h1]
      exact s_apop (by rw [G.N]; exact G.nd) (by rw [G.N]; exact of_decide_eq_true h3) l1 l2 v1 v2 v3 v4 h5
    · cases h
  | .augpop i op x j, X, Γ, xa, ea, c, Wx, n, st, G, h => by
    rw [ckS] at h
    unfold cAugpop at h
    split at h
    · obtain ⟨h1, h7⟩ := and2 h
      obtain ⟨h1, h6⟩ := and2 h1
      obtain ⟨h1, h5⟩ := and2 h1
      obtain ⟨h1, h4⟩ := and2 h1
      obtain ⟨h1, h3⟩ := and2 h1
      obtain ⟨h1, h2⟩ := and2 h1
      obtain ⟨v1, v2, v3, v4⟩ := var_of G.toFit h4
      obtain ⟨l1, l2⟩ := loc_of G.toFit h6
      rw [of_decide_eq_true h1, of_decide_eq_true h2, of_decide_eq_true h3]
      exact s_augpop (by rw [G.N]; exact G.nd) (by rw [G.N]; exact of_decide_eq_true h5) l1 l2 v1 v2 v3 v4 h7
    · cases h
  | .fz xs, X, Γ, xa, ea, c, Wx, n, st, G, h => by rw [ckS] at h; cases h
  | .retk, X, Γ, xa, ea, c, Wx, n, st, G, h => by
    rw [ckS] at h
    unfold cRetN at h
    split at h
    · exact s_retk
    · cases h
  | .oset x f s, X, Γ, xa, ea, c, Wx, n, st, G, h => by
    rw [ckS] at h
    unfold cOset at h
    split at h
    · obtain ⟨h1, h3⟩ := and2 h
      obtain ⟨h1, h2⟩ := and2 h1
      obtain ⟨v1, v2, v3, v4⟩ := var_of G.toFit h2
      rw [← of_decide_eq_true h1]
      exact s_oset G.flds v1 v2 v3 v4 (ck_ok (s := s) (m := .v) G.toFit h3) swatt_of
    · cases h
  | .oseti x f i s, X, Γ, xa, ea, c, Wx, n, st, G, h => by
    rw [ckS] at h
    unfold cOseti at h
    split at h
    · obtain ⟨h1, h5⟩ := and2 h
      obtain ⟨h1, h4⟩ := and2 h1
      obtain ⟨h1, h3⟩ := and2 h1
      obtain ⟨h1, h2⟩ := and2 h1
      obtain ⟨v1, v2, v3, v4⟩ := var_of G.toFit h2
      rw [← of_decide_eq_true h1]
      exact s_oseti G.flds v1 v2 v3 v4 (ck_ok (s := s) (m := .v) G.toFit h5) (ck_ok (s := i) (m := .v) G.toFit h4) swsub_of swss_of (nsl_of h3)
    · cases h
  | .oapp x f s, X, Γ, xa, ea, c, Wx, n, st, G, h => by
    rw [ckS] at h
    unfold cOapp at h
    split at h
    · obtain ⟨h1, h6⟩ := and2 h
      obtain ⟨h1, h5⟩ := and2 h1
      obtain ⟨h1, h4⟩ := and2 h1
      obtain ⟨h1, h3⟩ := and2 h1
      obtain ⟨h1, h2⟩ := and2 h1
      obtain ⟨v1, v2, v3, v4⟩ := var_of G.toFit h3
      rw [← of_decide_eq_true h1, of_decide_eq_true h2]
      exact s_oapp G.flds v1 v2 v3 v4 (ck_ok (s := s) (m := .v) G.toFit h6) (star_of h4) h5
    · cases h
  | .rfld x f, X, Γ, xa, ea, c, Wx, n, st, G, h => by
    rw [ckS] at h
    unfold cRfld at h
    split at h
    · obtain ⟨h1, h2⟩ := and2 h
      obtain ⟨v1, v2, v3, v4⟩ := var_of G.toFit h2
      rw [← of_decide_eq_true h1]
      exact s_rfld G.flds v1 v2 v3 v4
    · cases h
  | .meth x m f ss, X, Γ, xa, ea, c, Wx, n, st, G, h => by
    rw [ckS] at h
    unfold cMeth at h
    split at h
    · rename_i nm _ m' apos es cpos _
      obtain ⟨h1, h7⟩ := and2 h
      obtain ⟨h1, h6⟩ := and2 h1
      obtain ⟨h1, h5⟩ := and2 h1
      obtain ⟨h1, h4⟩ := and2 h1
      obtain ⟨h1, h3⟩ := and2 h1
      obtain ⟨h0, h2⟩ := and2 h1
      have h3 := of_decide_eq_true h3
      have h6 := of_decide_eq_true h6
      rw [← of_decide_eq_true h2]
      obtain ⟨k, g, f1, f2⟩ := G.mms _ _ _ h3
      have hx : noE xa := noE_of G.toFit (not_true h0) fun q => by
        have h3' := h3
        rw [q.2.2.2.1] at h3'
        cases h3'
      obtain ⟨v1, v2, v3, v4⟩ := var_of G.toFit h4
      obtain ⟨ns, nl⟩ := cks_nst h7
      have hes := cks_ok G.toFit h7
      cases es with
      | nil =>
        have hs : ss = [] := List.length_eq_zero_iff.mp nl.symm
        subst hs
        exact s_meth0 hx G.cs G.tk f2 f1 v1 v2 v3 v4 h5
      | cons y ys =>
        unfold nst at ns
        rw [List.all_cons] at ns
        obtain ⟨n1, n2⟩ := and2 ns
        exact s_meth hx G.cs G.tk f2 f1 rfl v1 v2 v3 v4 hes h5 (star_of n1) (stars_no n2) (by simp at h6; omega)
    · cases h
  | .ofn x f ss, X, Γ, xa, ea, c, Wx, n, st, G, h => by
    rw [ckS] at h
    unfold cOfn at h
    split at h
    · obtain ⟨h1, h5⟩ := and2 h
      obtain ⟨h1, h4⟩ := and2 h1
      obtain ⟨h1, h3⟩ := and2 h1
      obtain ⟨h0, h2⟩ := and2 h1
      have h2 := of_decide_eq_true h2
      obtain ⟨k, g, f1, f2⟩ := G.mfs _ _ _ h2
      have hx : noE xa := noE_of G.toFit (not_true h0) fun q => by
        have h3' := h2
        rw [q.2.2.2.2] at h3'
        cases h3'
      obtain ⟨g1, g2, _⟩ := gl_of G.toFit h3
      obtain ⟨v1, v2, v3, v4⟩ := var_of G.toFit h4
      obtain ⟨ns, nl⟩ := cks_nst h5
      exact s_ofn hx G.cs G.tk f2 f1 rfl g1 v1 v2 v3 v4 (cks_ok G.toFit h5) g2 rfl (stars_no ns)
    · cases h
  | .any, X, Γ, xa, ea, c, Wx, n, st, G, h => ⟨fun pins s σ H D I ⟨ρ, as, W, _, q⟩ => by simp only [ex] at q; exact q.elim⟩
  | .fset x y i s, X, Γ, xa, ea, c, Wx, n, st, G, h => by
    rw [ckS] at h
    unfold cFset at h
    split at h
    · obtain ⟨h1, h9⟩ := and2 h
      obtain ⟨h1, h8⟩ := and2 h1
      obtain ⟨h1, h7⟩ := and2 h1
      obtain ⟨h1, h6⟩ := and2 h1
      obtain ⟨h1, h5⟩ := and2 h1
      obtain ⟨h1, h4⟩ := and2 h1
      obtain ⟨h1, h3⟩ := and2 h1
      obtain ⟨h1, h2⟩ := and2 h1
      have hcl := h1
      have h2 := of_decide_eq_true h2
      subst h2
      obtain ⟨v1, v2, v3, v4⟩ := var_of G.toFit h3
      obtain ⟨w1, w2, w3, w4⟩ := var_of G.toFit h4
      obtain ⟨l1, l2⟩ := loc_of G.toFit h5
      exact s_fset (G.po hcl) (G.calm hcl) (by rw [G.N]; exact G.nd) v1 v2 v3 v4 w1 l1 l2 w2 w3 w4 (ck_ok (s := s) (m := .v) G.toFit h9) (ck_ok (s := i) (m := .v) G.toFit h8) swsub_of swss_of (nsl_of h6)
    · cases h
  | .expr s, X, Γ, xa, ea, c, Wx, n, st, G, h => by
    rw [ckS] at h
    unfold cExpr at h
    split at h
    · obtain ⟨h1, h2⟩ := and2 h
      exact s_expr (ck_ok (s := s) (m := .v) G.toFit h2) (swE_of (not_true h1))
    · cases h
  | .ret s, X, Γ, xa, ea, c, Wx, n, st, G, h => by
    rw [ckS] at h
    unfold cRet at h
    split at h
    · exact s_ret (ck_ok (s := s) (m := .v) G.toFit h)
    · cases h
  | .rmv x, X, Γ, xa, ea, c, Wx, n, st, G, h => by
    rw [ckS] at h
    unfold cRmv at h
    split at h
    · obtain ⟨v1, v2, v3, v4⟩ := var_of G.toFit h
      exact s_rmv v1 v2 v3 v4
    · cases h
  | .ifs t a b, X, Γ, xa, ea, c, Wx, n, st, G, h => by
    rw [ckS] at h
    unfold cIf at h
    split at h
    · obtain ⟨h1, h3⟩ := and2 h
      obtain ⟨h1, h2⟩ := and2 h1
      exact s_if (ck_ok (s := t) (m := .t) G.toFit h1) (ckSs_ok G h2) (ckSs_ok G h3)
    · cases h
  | .for g it b, X, Γ, xa, ea, c, Wx, n, st, G, h => by
    rw [ckS] at h
    unfold cFor at h
    split at h
    · obtain ⟨h1, h5⟩ := and2 h
      obtain ⟨h1, h4⟩ := and2 h1
      obtain ⟨h1, h3⟩ := and2 h1
      obtain ⟨h1, h2⟩ := and2 h1
      exact s_for (G.po h1) (G.calm h1) (ckI_ok G.toFit h3) (ckG_ok G.toFit h4) (ckSs_ok G h5) fun x => set_of h2
    · cases h
  | .whl t b, X, Γ, xa, ea, c, Wx, n, st, G, h => by
    rw [ckS] at h
    unfold cWhl at h
    split at h
    · obtain ⟨h1, h3⟩ := and2 h
      obtain ⟨h1, h2⟩ := and2 h1
      exact s_while (G.po h1) (ck_ok (s := t) (m := .t) G.toFit h2) (ckSs_ok G h3)
    · cases h
  | .rais e, X, Γ, xa, ea, c, Wx, n, st, G, h => by
    rw [ckS] at h
    unfold cRais at h
    split at h
    · obtain ⟨h1, h3⟩ := and2 h
      obtain ⟨h1, h2⟩ := and2 h1
      obtain ⟨g1, g2, _⟩ := gl_of G.toFit h2
      obtain ⟨B, nI, iI, bm, F, q, m, k, r⟩ := G.rs _ _ (of_decide_eq_true h3)
      exact s_rais (G.calm h1) G.tk (L2N.pmk_own F q m k r g1 g2)
    · cases h
  | .tr b [(e, i, ts)], X, Γ, xa, ea, c, Wx, n, st, G, h => by
    rw [ckS] at h
    unfold cTr at h
    split at h
    · rename_i body x np nm suite _ _
      obtain ⟨h1, h7⟩ := and2 h
      obtain ⟨h1, h6⟩ := and2 h1
      obtain ⟨h1, h5⟩ := and2 h1
      obtain ⟨h1, h4⟩ := and2 h1
      obtain ⟨h1, h3⟩ := and2 h1
      obtain ⟨h1, h2⟩ := and2 h1
      obtain ⟨h0, h1⟩ := and2 h1
      have hcl := h1
      have hx := not_true h2
      have hne : noE xa := (G.xn hx).resolve_left fun q => by
        have : Γ.calm = true := hcl
        have q1 : Γ.calm = false := q.1
        rw [q1] at this
        cases this
      have hxa : xa = none := by
        cases xa with
        | none => rfl
        | some q =>
          obtain ⟨b, a⟩ := q
          cases b with
          | true => exact absurd rfl (G.xs (not_true h0) a)
          | false => exact absurd rfl (hne a)
      subst hxa
      obtain ⟨cv, hn, hex⟩ := names_of G h5 (of_decide_eq_true h6)
      obtain ⟨k1, k2⟩ := G.stk h1
      obtain ⟨b0, su, rfl⟩ := nonE_of h4
      split at h7
      · obtain ⟨a1, a2⟩ := and2 h7
        obtain ⟨n1, n2⟩ := lcB_of G a1
        exact s_try k1 k2 (by rw [G.N]; exact G.nd) n1 n2 hn G.tk hex (fun W pn xe tk po => ckSs_ok (G.tr W pn xe hcl tk po hx) h3)
          fun a oe e pn he hz hf => ckSs_ok (G.suite k1 k2 a oe e pn he hz hf) a2
      · exact s_try0 k1 k2 hn G.tk hex (fun W pn xe tk po => ckSs_ok (G.tr W pn xe hcl tk po hx) h3) fun a oe pn => ckSs_ok (G.suite0 a oe pn hx) h7
      · cases h7
    · cases h
  | .tr b [], X, Γ, xa, ea, c, Wx, n, st, G, h => by
    rw [ckS] at h
    · cases h
    all_goals (intro _ _ _ q; cases q)
  | .tr b (_ :: _ :: _), X, Γ, xa, ea, c, Wx, n, st, G, h => by
    rw [ckS] at h
    · cases h
    all_goals (intro _ _ _ q; cases q)
theorem ckSs_ok : ∀ {ts : List T} {X : Cx} {Γ : Cs} {xa : Xa} {ea : Ec → Addr} {c : Cn} {Wx : WX} {n : Nat} {st : List Stmt}, FitS X Γ xa ea c Wx → ckSs ts Γ st = true → PSs X st (tS (kx X xa) ea Wx (exs c n ts))
  | [], X, Γ, xa, ea, c, Wx, n, st, G, h => by
    rw [ckSs] at h
    unfold cNils at h
    split at h
    · exact s_nil
    · cases h
  | t :: ts, X, Γ, xa, ea, c, Wx, n, st, G, h => by
    by_cases q : ∃ xs, t = .fz xs
    · obtain ⟨xs, rfl⟩ := q
      rw [ckSs] at h
      exact s_fz (ckSs_ok G h)
    · rw [ckSs] at h
      · unfold cCons at h
        split at h
        · obtain ⟨h1, h2⟩ := and2 h
          exact s_cons (ckS_ok G h1) (ckSs_ok G h2)
        · cases h
      · exact fun xs e => q ⟨xs, e⟩
end
end Ds

namespace Ds
open PySem PySem.Spec PyProof.Rows L2
/-! ## 21. The defs -/
/-- what the module says -/
structure Mo where
  cons : List (Str × D) := []
  free : List Str := []
  gcd : Bool := false
  exs : List (Str × Ec) := []
  rs : List (Str × Ec) := []
  ecs : List Ec := []
  flds : List (Nat × Str) := []
/-- what a def calls -/
structure Dl where
  fns : List (Str × Nat) := []
  rms : List (Nat × Str × Nat × Nat) := []
  mks : List (Nat × Str × Nat) := []
  mms : List (Nat × Str × Nat) := []
  mfs : List (Nat × Str × Nat) := []
  slf : Bool := false
def Mo.cs (M : Mo) (N : List Str) (sc : Scope) (L : Dl) : Cs := { N := N, sc := sc, fns := L.fns, rms := L.rms, mks := L.mks, mms := L.mms, mfs := L.mfs, slf := L.slf, cons := M.cons, free := M.free, gcd := M.gcd, exs := M.exs, rs := M.rs }
structure Facts (K : PySem.W.Frag) (mg : Str → Option Value) (ea : Ec → Addr) (M : Mo) : Prop where
  cons : ∀ x d, (x, d) ∈ M.cons → ∃ v u, mg x = some u ∧ RelV v u ∧ ∀ H W, F ⟨K, none⟩ H W d v
  free : ∀ x ∈ M.free, mg x = none
  gcd : M.gcd = true → mg "gcd" = some (.builtin "math.gcd")
  exs : ∀ y b, (y, b) ∈ M.exs → ∃ cv, ((mg y = some cv ∧ ∃ C, cv = .ref C) ∨ (mg y = none ∧ bootBuiltins y = some cv ∧ y ≠ "__name__" ∧ ∃ T, cv = .type T)) ∧
    ∀ e, M.ecs.contains e = true → PySem.W.kitOne K (.ref (ea e)) cv = some (e.sub b) ∧ PySem.W.exmOne K (.ref (ea e)) cv = some (e.sub b)
  exc : ∀ e, M.ecs.contains e = true → ExcC K (ea e)
  flds : FldsOk K M.flds
  rs : ∀ x e, (x, e) ∈ M.rs → ∃ B newId initId bmB, ExcBaseFacts B newId initId bmB ∧ PySem.W.excIn K (ea e) bmB newId = true ∧ mg x = some (.ref (ea e)) ∧ PySem.W.keepIn K (.ref (ea e)) = true ∧
    PySem.W.subIn K (.ref (ea e)) (.type "BaseException") = some true ∧ PySem.W.typeIn K (.ref (ea e)) = some (.type "type")
/-- a def that holds its promise -/
structure Dok (P : Program) (w : World) (K : PySem.W.Frag) (mg : Str → Option Value) (base : Heap) (ea : Ec → Addr) (k : Nat) (x : Str) (n : Nat) (g : List D → Re D) : Prop where
  ok : ∃ f fd ps, FnOk P w K mg base (L2N.CX P w) k f fd ps (spF K ea g n) ∧ mg x = some (.ref f) ∧ PySem.W.keepIn K (.ref f) = true ∧ Binds K fd ps []
theorem Dok.mono {P : Program} {w : World} {K : PySem.W.Frag} {mg : Str → Option Value} {base : Heap} {ea : Ec → Addr} {j k : Nat} {x : Str} {n : Nat} {g : List D → Re D} (h : Dok P w K mg base ea j x n g) (l : j ≤ k) : Dok P w K mg base ea k x n g := by
  obtain ⟨f, fd, ps, a, b, c, d⟩ := h.ok
  exact ⟨f, fd, ps, a.mono l, b, c, d⟩
/-- a method that only reads -/
structure DokM (P : Program) (w : World) (K : PySem.W.Frag) (mg : Str → Option Value) (base : Heap) (ea : Ec → Addr) (k : Nat) (m : Str) (k0 n : Nat) (g : List D → Re D) : Prop where
  ok : ∃ f fd ps, FnOk P w K mg base (L2N.CX P w) k f fd ps (spF K ea g n) ∧ Cls K (clA K k0) ∧ Meth K (clA K k0) m f ∧ Binds K fd ps []
/-- a class's maker -/
structure DokK (P : Program) (w : World) (K : PySem.W.Frag) (mg : Str → Option Value) (base : Heap) (ea : Ec → Addr) (k : Nat) (x : Str) (k0 n : Nat) (g : List D → Re D) : Prop where
  ok : ∃ f fd ps j, j + 1 ≤ k ∧ FnOk P w K mg base (L2N.CX P w) j f fd ps (spM K ea g n) ∧ mg x = some (.ref (clA K k0)) ∧ Mk K (clA K k0) f ∧ Binds K fd ps []
/-- a method that writes into self -/
structure DokMM (P : Program) (w : World) (K : PySem.W.Frag) (mg : Str → Option Value) (base : Heap) (ea : Ec → Addr) (k : Nat) (m : Str) (k0 n : Nat) (g : List D → Re D) : Prop where
  ok : ∃ f fd ps, FnOk P w K mg base (L2N.CX P w) k f fd ps (spM K ea g n) ∧ Cls K (clA K k0) ∧ Meth K (clA K k0) m f ∧ Binds K fd ps []
/-- a def that writes into its first argument -/
structure DokMF (P : Program) (w : World) (K : PySem.W.Frag) (mg : Str → Option Value) (base : Heap) (ea : Ec → Addr) (k : Nat) (x : Str) (n : Nat) (g : List D → Re D) : Prop where
  ok : ∃ f fd ps, FnOk P w K mg base (L2N.CX P w) k f fd ps (spM K ea g n) ∧ mg x = some (.ref f) ∧ PySem.W.keepIn K (.ref f) = true ∧ Binds K fd ps []
section
variable {P : Program} {w : World} {K : PySem.W.Frag} {mg : Str → Option Value} {base : Heap} {ea : Ec → Addr} {j k k0 n : Nat} {x : Str} {g : List D → Re D}
theorem DokM.mono (h : DokM P w K mg base ea j x k0 n g) (l : j ≤ k) : DokM P w K mg base ea k x k0 n g := by
  obtain ⟨f, fd, ps, a, b, c, d⟩ := h.ok
  exact ⟨f, fd, ps, a.mono l, b, c, d⟩
theorem DokK.mono (h : DokK P w K mg base ea j x k0 n g) (l : j ≤ k) : DokK P w K mg base ea k x k0 n g := by
  obtain ⟨f, fd, ps, i, e, a, b, c, d⟩ := h.ok
  exact ⟨f, fd, ps, i, Nat.le_trans e l, a, b, c, d⟩
theorem DokMM.mono (h : DokMM P w K mg base ea j x k0 n g) (l : j ≤ k) : DokMM P w K mg base ea k x k0 n g := by
  obtain ⟨f, fd, ps, a, b, c, d⟩ := h.ok
  exact ⟨f, fd, ps, a.mono l, b, c, d⟩
theorem DokMF.mono (h : DokMF P w K mg base ea j x n g) (l : j ≤ k) : DokMF P w K mg base ea k x n g := by
  obtain ⟨f, fd, ps, a, b, c, d⟩ := h.ok
  exact ⟨f, fd, ps, a.mono l, b, c, d⟩
end
def parB (sc : Scope) (x : Str) : Bool := match sc.names.lookup x with
  | some .local => true | some .cell => true | _ => false
def scopeB (N ps : List Str) (sc : Scope) : Bool :=
  decide (sc.kind = .function) && decide (sc.isCoroutine = false) && decide (sc.isGenerator = false) && decide N.Nodup && decide (N.take ps.length = ps) && ps.all (parB sc) && sc.names.all fun y => decide (y.2 ≠ .free)
theorem scope_of {N ps : List Str} {sc : Scope} (h : scopeB N ps sc = true) : FnScope N ps sc := by
  unfold scopeB at h
  simp only [Bool.and_eq_true, decide_eq_true_eq, List.all_eq_true] at h
  obtain ⟨⟨⟨⟨⟨⟨h1, h2⟩, h3⟩, h4⟩, h5⟩, h6⟩, h7⟩ := h
  refine ⟨h1, h2, h3, h4, h5, fun x m => ?_, h7⟩
  have q := h6 x m
  unfold parB at q
  split at q <;> first | exact .inl (by assumption) | exact .inr (by assumption) | cases q
def chkL (M : Mo) (N ps : List Str) (kk : Nat) (L : Dl) (ts : List T) (st : Stmt) : Bool :=
  scopeB N ps (defScope st) && decide (N.length = ps.length + kk) && ckSs ts (M.cs N (defScope st) L) (defBody st)
theorem sl_start {K : Kx} {H : Hp} {W : Addr → Prop} {kk : Nat} : ∀ {ds : List D} {vs : List V}, Fs K H W ds vs → Sl K H W (ds.map some ++ List.replicate kk none) (vs.map some ++ List.replicate kk none) []
  | _, _, .nil => by
    show Sl K H W (List.replicate kk none) (List.replicate kk none) []
    induction kk with
    | zero => exact .nil
    | succ k ih => rw [List.replicate_succ, List.replicate_succ]; exact .em ih
  | _, _, .cons h t => .fu (as := []) (.fz h) (sl_start t)
section
variable {P : Program} {w : World} {K : PySem.W.Frag} {mg : Str → Option Value} {base : Heap} {ea : Ec → Addr} {M : Mo}
/-- what is known of the defs that are called -/
structure Has (P : Program) (w : World) (K : PySem.W.Frag) (mg : Str → Option Value) (base : Heap) (ea : Ec → Addr) (k : Nat) (c : Cn) (L : Dl) : Prop where
  fns : ∀ (i : Nat) (y : Str) (n : Nat), L.fns[i]? = some (y, n) → ∃ g : List D → Re D, c.fs[i]? = some g ∧ Dok P w K mg base ea k y n g
  rms : ∀ (f : Nat) (m : Str) (k0 n : Nat), (f, m, k0, n) ∈ L.rms → ∃ g : List D → Re D, c.fs[f]? = some g ∧ DokM P w K mg base ea k m k0 (n + 1) g
  mks : ∀ (f : Nat) (x : Str) (n : Nat), (f, x, n) ∈ L.mks → ∃ (k0 : Nat) (g : List D → Re D), c.ms[f]? = some (k0, g) ∧ DokK P w K mg base ea k x k0 n g
  mms : ∀ (f : Nat) (m : Str) (n : Nat), (f, m, n) ∈ L.mms → ∃ (k0 : Nat) (g : List D → Re D), c.ms[f]? = some (k0, g) ∧ DokMM P w K mg base ea k m k0 n g
  mfs : ∀ (f : Nat) (x : Str) (n : Nat), (f, x, n) ∈ L.mfs → ∃ (k0 : Nat) (g : List D → Re D), c.ms[f]? = some (k0, g) ∧ DokMF P w K mg base ea k x n g
theorem fit_def {N ps : List Str} {sc : Scope} {L : Dl} {c : Cn} {k : Nat} {xa : Xa} (S : FnScope N ps sc) (Fa : Facts K mg ea M) (hecs : c.ecs = M.ecs) (hfl : c.flds = M.flds ∨ c.flds = []) (ne : noE xa) (hxs : L.slf = false → ∀ a, xa ≠ some (true, a)) (hcs : c.slf = false → ∀ a, xa ≠ some (true, a))
    (hf : Has P w K mg base ea k c L) {qual : Str} {f : Addr} {cdv : Value} {A : Around} {outer : List Env} {s : Shared} {H : Hp} {E : XK}
    (hr : Room k (A.deeper (envOfC qual sc s.heap.objs.size f cdv))) :
    FitS (cxOf (L2N.CX P w) P w K mg base N qual sc f cdv A outer s H E) (M.cs N sc L) xa ea c (fun cls d _ H => E cls d H) where
  N := rfl
  nd := S.nd
  sc := rfl
  kind := S.kind
  fn := fun _ _ => rfl
  calm := fun _ => rfl
  hu := by
    have := hr.un
    show (A.deeper (envOfC qual sc s.heap.objs.size f cdv)).units + 65 < cLine
    omega
  fns := fun i y n h => by
    obtain ⟨g, h1, h2⟩ := hf.fns i y n h
    obtain ⟨fa, fd, ps, a, b, c, d⟩ := h2.ok
    exact ⟨g, h1, ⟨fa, fd, ps, k, a, hr, b, c, d⟩⟩
  xn := fun _ => .inr ne
  xs := hxs
  cs := hcs
  flds := by
    rcases hfl with h | h
    · rw [h]; exact Fa.flds
    · rw [h]; intro k x q; simp at q
  rms := fun f m k0 n h => by
    obtain ⟨g, h1, h2⟩ := hf.rms f m k0 n h
    obtain ⟨fa, fd, ps, a, b, c, d⟩ := h2.ok
    exact ⟨g, h1, ⟨fa, fd, ps, k, a, hr, b, c, d⟩⟩
  mks := fun f x n h => by
    obtain ⟨k0, g, h1, h2⟩ := hf.mks f x n h
    obtain ⟨fa, fd, ps, j, e, a, b, c, d⟩ := h2.ok
    exact ⟨k0, g, h1, ⟨fa, fd, ps, j, a, hr.mono e, b, c, d⟩⟩
  mms := fun f m n h => by
    obtain ⟨k0, g, h1, h2⟩ := hf.mms f m n h
    obtain ⟨fa, fd, ps, a, b, c, d⟩ := h2.ok
    exact ⟨k0, g, h1, ⟨fa, fd, ps, k, a, hr, b, c, d⟩⟩
  mfs := fun f x n h => by
    obtain ⟨k0, g, h1, h2⟩ := hf.mfs f x n h
    obtain ⟨fa, fd, ps, a, b, c, d⟩ := h2.ok
    exact ⟨k0, g, h1, ⟨fa, fd, ps, k, a, hr, b, c, d⟩⟩
  tk := L2N.takes_of rfl rfl rfl rfl
  cons := Fa.cons
  free := Fa.free
  gcd := Fa.gcd
  exs := fun y b m => by
    obtain ⟨cv, h1, h2⟩ := Fa.exs y b m
    exact ⟨cv, h1, fun e q => h2 e (by rw [← hecs]; exact q)⟩
  su := fun h => nomatch h
  po := fun _ => passes_of rfl
  stk := fun _ => ⟨rfl, rfl⟩
  exc := fun e q => Fa.exc e (by rw [← hecs]; exact q)
  rs := fun x e m => by
    obtain ⟨B, n, i, bm, a, b, c, d, e1, e2⟩ := Fa.rs x e m
    exact ⟨B, n, i, bm, a, b, c, d, raises_own e1 e2⟩
theorem def_fn {x qu : Str} {st : Stmt} {f : Addr} {fd : FuncData} {N ps : List Str} {kk k : Nat} {L : Dl} {ts : List T} {c : Cn} (fu : List D → Nat) (hd : chkL M N ps kk L ts st = true) (F0 : FunD K x qu (defArgs st) (defBody st) (defScope st) [] [] f fd)
    (Fa : Facts K mg ea M) (hecs : c.ecs = M.ecs) (hfl : c.flds = M.flds ∨ c.flds = []) (hf : Has P w K mg base ea k c L) :
    FnOk P w K mg base (L2N.CX P w) (k + 1) f fd ps (spF K ea (fun as => run c (fu as) kk ts as) ps.length) := by
  unfold chkL at hd
  obtain ⟨h1, h3⟩ := and2 hd
  obtain ⟨h1, h2⟩ := and2 h1
  have S := scope_of h1
  have h2 := of_decide_eq_true h2
  refine F0.ok S (fun vs H Q E q => q.1) (fun cdv A outer s H vs Q E hr q => ?_)
  obtain ⟨hl, ds, W, hF, wk, q⟩ := q
  refine ⟨_, ckSs_ok (xa := none) (n := fu ds) (fit_def (xa := none) S Fa hecs hfl (fun _ h => nomatch h) (fun _ _ h => nomatch h) (fun _ _ h => nomatch h) hf hr) h3, ds.map some ++ List.replicate kk none, [], W, ⟨?_, List.nodup_nil, (fun a m => nomatch m), (fun a m => wk a (plus_nil m))⟩, ?_⟩
  · have e : L2.start N vs = vs.map some ++ List.replicate kk none := by
      unfold L2.start
      rw [h2, hl, Nat.add_sub_cancel_left]
    rw [e]
    refine sl_start ?_
    exact Fs.keep (fun a o e _ => e) (fun a m => .inl (plus_nil m)) hF
  · have sm : ∀ {H' : Hp} {as' : List Addr}, Step H [] H' as' → Same H H' := fun st a o e => st.kp a o e (fun m => nomatch m)
    unfold run at q
    dsimp only at q
    cases z : exs c (fu ds) ts (ds.map some ++ List.replicate kk none) with
    | nx ρ =>
      rw [z] at q
      intro σ' H' as' h' st
      exact q H' .non [] (sm st) (.fz .non) (fun _ m => nomatch m) List.nodup_nil
    | rt d =>
      rw [z] at q
      intro H' v bs o n st
      exact q H' v bs (sm st) o (fun b m => (st.sub b m).elim (fun m => nomatch m) id) n
    | er e ρ =>
      rw [z] at q
      intro σ' H' as' h' st
      exact q H' (sm st)
    | bk ρ => rw [z] at q; exact q.elim
    | ct ρ => rw [z] at q; exact q.elim
    | rk ρ => rw [z] at q; exact q.elim
    | st => rw [z] at q; exact q.elim
/-- .. that writes into its first argument -/
theorem def_fnM {x qu : Str} {st : Stmt} {f : Addr} {fd : FuncData} {N ps : List Str} {kk k n : Nat} {L : Dl} {ts : List T} {c : Cn} (fu : List D → Nat) (hd : chkL M N ps kk L ts st = true) (F0 : FunD K x qu (defArgs st) (defBody st) (defScope st) [] [] f fd)
    (Fa : Facts K mg ea M) (hecs : c.ecs = M.ecs) (hfl : c.flds = M.flds ∨ c.flds = []) (hls : L.slf = true) (hcs : c.slf = true) (hn : ps.length = n + 1) (hf : Has P w K mg base ea k c L) :
    FnOk P w K mg base (L2N.CX P w) (k + 1) f fd ps (spM K ea (fun as => runM c (fu as) kk ts as) n) := by
  unfold chkL at hd
  obtain ⟨h1, h3⟩ := and2 hd
  obtain ⟨h1, h2⟩ := and2 h1
  have S := scope_of h1
  have h2 := of_decide_eq_true h2
  refine F0.ok S (fun vs H Q E q => q.1.trans hn.symm) (fun cdv A outer s H vs Q E hr q => ?_)
  obtain ⟨hl, a, dx, k0, ns, ds, fv, kids, as, ws, W, rfl, ha, hln, hO, hnd, hdj, hwk, hF, q⟩ := q
  have ne : noE (some (true, a)) := fun _ h => nomatch h
  refine ⟨_, ckSs_ok (xa := some (true, a)) (n := fu (.obj .lk k0 ns ds :: as)) (fit_def S Fa hecs hfl ne (fun h => by rw [hls] at h; cases h) (fun h => by rw [hcs] at h; cases h) hf hr) h3, (D.obj .lk k0 ns ds :: as).map some ++ List.replicate kk none, a :: kids, W, ⟨?_, hnd, hdj, hwk⟩, ?_⟩
  · have e : L2.start N (.ref a :: ws) = (V.ref a :: ws).map some ++ List.replicate kk none := by
      unfold L2.start
      rw [h2, hl, hn, Nat.add_sub_cancel_left]
    rw [e]
    have := Sl.fu (as := a :: kids) (bs := []) (K := kx (cxOf (L2N.CX P w) P w K mg base N qu (defScope st) f cdv A outer s H E) (some (true, a))) (O.sb rfl ha hln (Os.toX hO)) (sl_start (kk := kk) (Fs.toX hF))
    rw [List.append_nil] at this
    exact this
  · unfold runM at q
    dsimp only at q
    have fin : ∀ ρ, (match selfOut ρ with
        | .ok (.obj .lk k' ns' ds') => ∀ (H' : Hp) (dx' : Addr) (fv' : List V) (kids' : List Addr), H' a = some (.ins (clA K k') dx' (ns'.zip fv')) → ns'.length = fv'.length → Os ⟨K, none⟩ H' (plus W (a :: kids')) ds' fv' kids' → (a :: kids').Nodup → Step H (a :: kids) H' (a :: kids') → Q .non H'
        | .er e => ∀ H', (∀ b o, H b = some o → b ∉ a :: kids → H' b = some o) → E (.ref (ea e)) none H'
        | _ => False) → ∀ σ' H' as', St1 ⟨K, some (true, a)⟩ W H' ρ σ' as' → Step H (a :: kids) H' as' → Q .non H' := by
      intro ρ q σ' H' as' h' st
      unfold selfOut at q
      split at q
      · rename_i e
        split at e
        · rename_i hρ
          cases e
          obtain ⟨v, bs, e1, o, sb⟩ := h'.sl.get' hρ
          cases o with
          | fz f => cases f
          | sb e2 hh l r =>
            cases e2
            have hb := sb.nodup h'.nd
            exact q H' _ _ _ hh l (Os.unE ne (fun b e m => by cases e; exact (List.nodup_cons.mp hb).1 m) (r.keep (fun _ _ q _ => q) (fun b q => .inl (q.imp id fun m => sb.subset m)) fun _ _ _ q => q)) hb ⟨st.kp, fun b m => st.sub b (sb.subset m)⟩
        · cases e
      · rename_i e
        split at e <;> cases e
      · exact q.elim
    cases z : exs c (fu (.obj .lk k0 ns ds :: as)) ts ((D.obj .lk k0 ns ds :: as).map some ++ List.replicate kk none) with
    | nx ρ =>
      rw [z] at q
      exact fin ρ q
    | rk ρ =>
      rw [z] at q
      exact fin ρ q
    | er e ρ =>
      rw [z] at q
      intro σ' H' as' h' st
      exact q H' st.kp
    | rt d => rw [z] at q; exact q.elim
    | bk ρ => rw [z] at q; exact q.elim
    | ct ρ => rw [z] at q; exact q.elim
    | st => rw [z] at q; exact q.elim
theorem hr_nil {k : Nat} {fs : List (List D → Re D)} : ∀ (f : Nat) (m : Str) (k0 n : Nat), (f, m, k0, n) ∈ ([] : List (Nat × Str × Nat × Nat)) → ∃ g : List D → Re D, fs[f]? = some g ∧ DokM P w K mg base ea k m k0 (n + 1) g := fun f m k0 n h => nomatch h
theorem hr_cons {k j f k0 n : Nat} {m : Str} {g : List D → Re D} {fs : List (List D → Re D)} {r : List (Nat × Str × Nat × Nat)} (h : DokM P w K mg base ea j m k0 (n + 1) g) (l : j ≤ k) (e : fs[f]? = some g)
    (t : ∀ (f : Nat) (m : Str) (k0 n : Nat), (f, m, k0, n) ∈ r → ∃ g : List D → Re D, fs[f]? = some g ∧ DokM P w K mg base ea k m k0 (n + 1) g) : ∀ (f' : Nat) (m' : Str) (k0' n' : Nat), (f', m', k0', n') ∈ (f, m, k0, n) :: r → ∃ g : List D → Re D, fs[f']? = some g ∧ DokM P w K mg base ea k m' k0' (n' + 1) g := fun f' m' k0' n' q => by
  rcases List.mem_cons.mp q with q | q
  · cases q
    exact ⟨g, e, h.mono l⟩
  · exact t _ _ _ _ q
theorem hk_nil {k : Nat} {fs : List (Nat × (List D → Re D))} : ∀ (f : Nat) (x : Str) (n : Nat), (f, x, n) ∈ ([] : List (Nat × Str × Nat)) → ∃ (k0 : Nat) (g : List D → Re D), fs[f]? = some (k0, g) ∧ DokK P w K mg base ea k x k0 n g := fun f x n h => nomatch h
theorem hk_cons {k j f k0 n : Nat} {x : Str} {g : List D → Re D} {fs : List (Nat × (List D → Re D))} {r : List (Nat × Str × Nat)} (h : DokK P w K mg base ea j x k0 n g) (l : j ≤ k) (e : fs[f]? = some (k0, g))
    (t : ∀ (f : Nat) (x : Str) (n : Nat), (f, x, n) ∈ r → ∃ (k0 : Nat) (g : List D → Re D), fs[f]? = some (k0, g) ∧ DokK P w K mg base ea k x k0 n g) : ∀ (f' : Nat) (x' : Str) (n' : Nat), (f', x', n') ∈ (f, x, n) :: r → ∃ (k0 : Nat) (g : List D → Re D), fs[f']? = some (k0, g) ∧ DokK P w K mg base ea k x' k0 n' g := fun f' x' n' q => by
  rcases List.mem_cons.mp q with q | q
  · cases q
    exact ⟨k0, g, e, h.mono l⟩
  · exact t _ _ _ q
theorem hm_nil {k : Nat} {fs : List (Nat × (List D → Re D))} : ∀ (f : Nat) (m : Str) (n : Nat), (f, m, n) ∈ ([] : List (Nat × Str × Nat)) → ∃ (k0 : Nat) (g : List D → Re D), fs[f]? = some (k0, g) ∧ DokMM P w K mg base ea k m k0 n g := fun f x n h => nomatch h
theorem hm_cons {k j f k0 n : Nat} {x : Str} {g : List D → Re D} {fs : List (Nat × (List D → Re D))} {r : List (Nat × Str × Nat)} (h : DokMM P w K mg base ea j x k0 n g) (l : j ≤ k) (e : fs[f]? = some (k0, g))
    (t : ∀ (f : Nat) (x : Str) (n : Nat), (f, x, n) ∈ r → ∃ (k0 : Nat) (g : List D → Re D), fs[f]? = some (k0, g) ∧ DokMM P w K mg base ea k x k0 n g) : ∀ (f' : Nat) (x' : Str) (n' : Nat), (f', x', n') ∈ (f, x, n) :: r → ∃ (k0 : Nat) (g : List D → Re D), fs[f']? = some (k0, g) ∧ DokMM P w K mg base ea k x' k0 n' g := fun f' x' n' q => by
  rcases List.mem_cons.mp q with q | q
  · cases q
    exact ⟨k0, g, e, h.mono l⟩
  · exact t _ _ _ q
theorem hg_nil {k : Nat} {fs : List (Nat × (List D → Re D))} : ∀ (f : Nat) (x : Str) (n : Nat), (f, x, n) ∈ ([] : List (Nat × Str × Nat)) → ∃ (k0 : Nat) (g : List D → Re D), fs[f]? = some (k0, g) ∧ DokMF P w K mg base ea k x n g := fun f x n h => nomatch h
theorem hg_cons {k j f k0 n : Nat} {x : Str} {g : List D → Re D} {fs : List (Nat × (List D → Re D))} {r : List (Nat × Str × Nat)} (h : DokMF P w K mg base ea j x n g) (l : j ≤ k) (e : fs[f]? = some (k0, g))
    (t : ∀ (f : Nat) (x : Str) (n : Nat), (f, x, n) ∈ r → ∃ (k0 : Nat) (g : List D → Re D), fs[f]? = some (k0, g) ∧ DokMF P w K mg base ea k x n g) : ∀ (f' : Nat) (x' : Str) (n' : Nat), (f', x', n') ∈ (f, x, n) :: r → ∃ (k0 : Nat) (g : List D → Re D), fs[f']? = some (k0, g) ∧ DokMF P w K mg base ea k x' n' g := fun f' x' n' q => by
  rcases List.mem_cons.mp q with q | q
  · cases q
    exact ⟨k0, g, e, h.mono l⟩
  · exact t _ _ _ q
theorem hf_nil {k : Nat} {gs : List (List D → Re D)} : ∀ (i : Nat) (y : Str) (n : Nat), ([] : List (Str × Nat))[i]? = some (y, n) → ∃ g : List D → Re D, gs[i]? = some g ∧ Dok P w K mg base ea k y n g := by
  intro i y n h
  simp at h
theorem hf_cons {k j : Nat} {y : Str} {n : Nat} {g : List D → Re D} {fns : List (Str × Nat)} {gs : List (List D → Re D)} (h : Dok P w K mg base ea j y n g) (l : j ≤ k)
    (t : ∀ (i : Nat) (y : Str) (n : Nat), fns[i]? = some (y, n) → ∃ g : List D → Re D, gs[i]? = some g ∧ Dok P w K mg base ea k y n g) : ∀ (i : Nat) (z : Str) (m : Nat), ((y, n) :: fns)[i]? = some (z, m) → ∃ g' : List D → Re D, (g :: gs)[i]? = some g' ∧ Dok P w K mg base ea k z m g'
  | 0, z, m, e => by
    simp only [List.getElem?_cons_zero, Option.some.injEq, Prod.mk.injEq] at e
    obtain ⟨rfl, rfl⟩ := e
    exact ⟨g, rfl, h.mono l⟩
  | i + 1, z, m, e => by
    rw [List.getElem?_cons_succ] at e
    rw [List.getElem?_cons_succ]
    exact t i z m e
end
end Ds

namespace Ds
open PySem PySem.Spec PyProof.Rows L2
/-! ## 22. What the module says, looked at -/
def nmE : Ec → Str
  | .base => "RowstepsError" | .table => "BadTable" | .number => "BadNumber" | .place => "BadPlace" | .paper => "BadPaper" | .alike => "NotAlike" | .long => "TooLong" | .device => "BadDevice" | .state => "BadState"
  | .lot => "BadLot" | .large => "TooLarge" | .text => "BadText" | .kind => "BadKind"
def eaOf (K : PySem.W.Frag) (e : Ec) : Addr := He.ga K (nmE e)
mutual
def isD (K : PySem.W.Frag) : D → Value → Bool
  | .non, u => (match u with
    | .none => true
    | _ => false)
  | .bl b, u => (match u with
    | .bool c => decide (b = c)
    | _ => false)
  | .int i, u => (match u with
    | .int j _ => decide (i = j)
    | _ => false)
  | .str x, u => (match u with
    | .str y _ => decide (x = y)
    | _ => false)
  | .tup ds, u => (match u with
    | .ref a => (match K.lookup a with
      | some o => decide (o.cls = .type "tuple") && (match o.data with
        | .seq its _ => decide (its.size ≤ sizeLine) && isDs K ds its.toList
        | _ => false)
      | none => false)
    | _ => false)
  | .lst _ _, _ => false
  | .exc, _ => false
  | .rg _ _, _ => false
  | .dct _ _ _ _, _ => false
  | .obj _ _ _ _, _ => false
def isDs (K : PySem.W.Frag) : List D → List Value → Bool
  | [], us => (match us with
    | [] => true
    | _ => false)
  | d :: ds, us => (match us with
    | u :: us => isD K d u && isDs K ds us
    | _ => false)
end
mutual
theorem isD_ok {K : PySem.W.Frag} : ∀ {d : D} {u : Value}, isD K d u = true → ∃ v, RelV v u ∧ ∀ H W, F ⟨K, none⟩ H W d v
  | .non, u, h => by
    unfold isD at h
    split at h
    · exact ⟨.non, rfl, fun _ _ => .non⟩
    · cases h
  | .bl b, u, h => by
    unfold isD at h
    split at h
    · rw [of_decide_eq_true h]; exact ⟨.bl _, rfl, fun _ _ => .bl _⟩
    · cases h
  | .int b, u, h => by
    unfold isD at h
    split at h
    · rw [of_decide_eq_true h]; exact ⟨.int _, ⟨_, rfl⟩, fun _ _ => .int _⟩
    · cases h
  | .str b, u, h => by
    unfold isD at h
    split at h
    · rw [of_decide_eq_true h]; exact ⟨.str _, ⟨_, rfl⟩, fun _ _ => .str _⟩
    · cases h
  | .tup ds, u, h => by
    unfold isD at h
    split at h
    · rename_i a
      split at h
      · rename_i o q
        obtain ⟨h1, h2⟩ := and2 h
        split at h2
        · rename_i its n e
          obtain ⟨h2, h3⟩ := and2 h2
          obtain ⟨vs, r, f⟩ := isDs_ok h3
          exact ⟨.ref a, rfl, fun H W => .tupK q (of_decide_eq_true h1) e (of_decide_eq_true h2) r (f H W)⟩
        · cases h2
      · cases h
    · cases h
  | .lst _ _, _, h => by unfold isD at h; cases h
  | .exc, _, h => by unfold isD at h; cases h
  | .rg _ _, _, h => by unfold isD at h; cases h
  | .dct _ _ _ _, _, h => by unfold isD at h; cases h
  | .obj _ _ _ _, _, h => by unfold isD at h; cases h
theorem isDs_ok {K : PySem.W.Frag} : ∀ {ds : List D} {us : List Value}, isDs K ds us = true → ∃ vs, Vals vs us ∧ ∀ H W, Fs ⟨K, none⟩ H W ds vs
  | [], us, h => by
    unfold isDs at h
    split at h
    · exact ⟨[], .nil, fun _ _ => .nil⟩
    · cases h
  | d :: ds, us, h => by
    unfold isDs at h
    split at h
    · obtain ⟨h1, h2⟩ := and2 h
      obtain ⟨v, r, f⟩ := isD_ok h1
      obtain ⟨vs, rs, fs⟩ := isDs_ok h2
      exact ⟨v :: vs, .cons r rs, fun H W => .cons (f H W) (fs H W)⟩
    · cases h
end
def clsV (K : PySem.W.Frag) (y : Str) : Option Value := match PySem.W.nsIn K mainGlobals y with
  | some (some (.ref C)) => some (.ref C)
  | some none => (match bootBuiltins y with
    | some (.type T) => if y = "__name__" then none else some (.type T)
    | _ => none)
  | _ => none
def conB (K : PySem.W.Frag) (p : Str × D) : Bool := match PySem.W.nsIn K mainGlobals p.1 with
  | some (some u) => isD K p.2 u
  | _ => false
def exB (K : PySem.W.Frag) (ecs : List Ec) (p : Str × Ec) : Bool := match clsV K p.1 with
  | some cv => ecs.all fun e => decide (PySem.W.kitOne K (.ref (eaOf K e)) cv = some (e.sub p.2)) && decide (PySem.W.exmOne K (.ref (eaOf K e)) cv = some (e.sub p.2))
  | none => false
def excB (K : PySem.W.Frag) (e : Ec) : Bool :=
  decide (PySem.W.findIn K (.ref (eaOf K e)) "__getattribute__" = some (some (.builtin "BaseException.__getattribute__"))) && decide (PySem.W.findIn K (.ref (eaOf K e)) "__getattr__" = some none) &&
    decide (PySem.W.subIn K (.ref (eaOf K e)) (.type "BaseException") = some true) && PySem.W.hasDictIn K (eaOf K e) && decide (PySem.W.findIn K (.ref (eaOf K e)) "__class__" = some (some (.builtin "object.__class__"))) &&
    decide (PySem.W.specialIn K (.builtin "object.__class__") "__get__" = some (some (.builtin "getset_descriptor.__get__"))) && decide (PySem.W.takesIn K (.builtin "object.__class__") = some true) && decide (PySem.W.mroIn K (eaOf K e) (.type "object") = some true)
def rsB (K : PySem.W.Frag) (p : Str × Ec) : Bool :=
  PySem.W.excIn K (eaOf K p.2) He.veBase "ValueError.__new__" && decide (PySem.W.nsIn K mainGlobals p.1 = some (some (.ref (eaOf K p.2)))) && PySem.W.keepIn K (.ref (eaOf K p.2)) &&
    decide (PySem.W.subIn K (.ref (eaOf K p.2)) (.type "BaseException") = some true) && decide (PySem.W.typeIn K (.ref (eaOf K p.2)) = some (.type "type"))
def fldB (K : PySem.W.Frag) (p : Nat × Str) : Bool := (He.Fa.cls (nmC p.1)).ok K && (He.Fa.noat (nmC p.1) p.2).ok K
def modB (M : Mo) (K : PySem.W.Frag) : Bool :=
  M.cons.all (conB K) && M.free.all (fun x => decide (PySem.W.nsIn K mainGlobals x = some none)) && (!M.gcd || decide (PySem.W.nsIn K mainGlobals "gcd" = some (some (.builtin "math.gcd")))) && M.exs.all (exB K M.ecs) && M.ecs.all (excB K) && M.rs.all (rsB K) && M.flds.all (fldB K)
theorem facts_of {M : Mo} {K : PySem.W.Frag} {h : Heap} {mg : Str → Option Value} (X : K.In h) (G : h.Ns mainGlobals mg) (m : modB M K = true) : Facts K mg (eaOf K) M := by
  unfold modB at m
  simp only [Bool.and_eq_true, List.all_eq_true] at m
  obtain ⟨⟨⟨⟨⟨⟨m1, m2⟩, m3⟩, m4⟩, m5⟩, m6⟩, m7⟩ := m
  refine ⟨fun x d hm => ?_, fun x hm => PySem.W.mg_none_of X G (of_decide_eq_true (m2 x hm)), fun hg => ?_, fun y b hm => ?_, fun e he => ?_, fun k x hc => ?_, fun x e hm => ?_⟩
  · have q := m1 _ hm
    unfold conB at q
    split at q
    · rename_i u e
      obtain ⟨v, r, f⟩ := isD_ok q
      exact ⟨v, u, PySem.W.mg_of X G e, r, f⟩
    · cases q
  · rw [hg] at m3
    exact PySem.W.mg_of X G (of_decide_eq_true m3)
  · have q := m4 _ hm
    unfold exB at q
    split at q
    · rename_i cv e
      refine ⟨cv, ?_, fun ec hec => ?_⟩
      · unfold clsV at e
        split at e
        · rename_i C q2
          cases e
          exact .inl ⟨PySem.W.mg_of X G q2, C, rfl⟩
        · rename_i q2
          split at e
          · rename_i T q3
            split at e
            · cases e
            · rename_i nn
              cases e
              exact .inr ⟨PySem.W.mg_none_of X G q2, q3, nn, T, rfl⟩
          · cases e
        · cases e
      · rw [List.all_eq_true] at q
        obtain ⟨a, b⟩ := and2 (q ec (by simpa using hec))
        exact ⟨of_decide_eq_true a, of_decide_eq_true b⟩
    · cases q
  · have q := m5 e (by simpa using he)
    unfold excB at q
    simp only [Bool.and_eq_true, decide_eq_true_eq] at q
    obtain ⟨⟨⟨⟨⟨⟨⟨a, b⟩, c⟩, d⟩, e⟩, f⟩, g⟩, h⟩ := q
    exact ⟨a, b, c, d, e, f, g, h⟩
  · obtain ⟨a, b⟩ := and2 (m7 (k, x) (by simpa using hc))
    exact ⟨He.cls_ok a, He.noat_ok b⟩
  · have q := m6 _ hm
    unfold rsB at q
    simp only [Bool.and_eq_true, decide_eq_true_eq] at q
    obtain ⟨⟨⟨⟨a, b⟩, c⟩, d⟩, e⟩ := q
    exact ⟨_, _, _, _, PySem.F.excBase_ValueError, a, PySem.W.mg_of X G b, c, d, e⟩

/-! ### the head -/
def hookM (n : Nat) (fn : List He.DefD) (ex : PySem.W.Frag → Bool) : PySem.W.Hook where
  α := He.AlD × Bool
  obs := fun s => (He.obsD [] fn (He.frG s.heap.get? (He.asD s.heap.get? n)), ex (He.frG s.heap.get? (He.asD s.heap.get? n)))
  val := fun _ => (He.valD fn, true)
  says := fun _ h => ∃ K : PySem.W.Frag, K.In h ∧ He.SaysD [] fn K ∧ ex K = true
  of := fun _ _ e => ⟨_, He.frG_in, congrArg (fun z : He.AlD × Bool => z.1) e, congrArg (fun z : He.AlD × Bool => z.2) e⟩
  keeps := fun _ _ _ ⟨K, hK, c⟩ k => ⟨K, PySem.W.Frag.In.keeps hK k, c⟩
def obsM (n : Nat) (fn : List He.DefD) (ex : PySem.W.Frag → Bool) (g : Addr → Option Obj) : He.AlD × Bool := (He.obsD [] fn (He.frG g (He.asD g n)), ex (He.frG g (He.asD g n)))
theorem obsM_eq {n : Nat} {fn : List He.DefD} {ex : PySem.W.Frag → Bool} {g : Addr → Option Obj} {s : Shared} (h : ∀ a, g a = s.heap.get? a) : obsM n fn ex g = (hookM n fn ex).obs s := by
  have e : g = s.heap.get? := funext h
  rw [e] <;> rfl
/-- the end -/
theorem walk_ofM {l : PySem.W.OpenLaw} {n k : Nat} {q : Program} {loose : List Str} {XP : (Str → Option Value) → Heap → Prop} {YP : World → Heap → Prop} {d : DefRec} {x : Str} {g : List D → Re D}
    (hn : l.most = some n) (hn2 : n ≤ sizeLine) (hdf : d.params.defaults = []) (hr : Room k callerA)
    (hg : ∀ (ns : List Int), ns.length ≤ n → (∀ z ∈ ns, Builtin.Int.intBits z ≤ 1048576) → g [.lst .lk (ns.map .int)] = .ok (.bl true))
    (F0 : ∀ (w : World) (mg : Str → Option Value) (fa : Addr) (h : Heap), YP w h → h.Ns mainGlobals mg → mg d.name = some (.ref fa) →
      ∃ (K : PySem.W.Frag) (fd : FuncData), K.In h ∧ (∀ (s : Shared) (u : Value), BindsTo s fd ⟨[u], []⟩ [(x, u)]) ∧
        ∀ base : Heap, K.In base → base.Ns mainGlobals mg → FnOk l.prog w K mg base (L2N.CX l.prog w) k fa fd [x] (spF K (eaOf K) g 1)) :
    PySem.W.WalkO q loose XP YP l.row.toRowW d [] (fun f vs => PySem.call f vs) := by
  refine Att.attach_callB hn hdf fun w s0 s1 mg mb fa o pm cd doc a vs ns G Y ho hd hcd hmg hobj hints hlen hbits hgens => ?_
  obtain ⟨K, fd, KX, hb, hF⟩ := F0 w mg fa _ Y G.T.g hmg
  refine law_call KX G.T.g G.T.b G.T.builtins G.T.nolimit hgens hobj hints (Nat.le_trans hlen hn2) hr hF hb (fun H hO hS => ?_) fun H e s' hc => ?_
  · have zl : (ns.map V.int).length ≤ sizeLine := by rw [List.length_map]; exact Nat.le_trans hlen hn2
    have fi : ∀ (ms : List Int), Fs ⟨K, none⟩ H (fun _ => False) (ms.map .int) (ms.map V.int) := fun ms => by
      induction ms with
      | nil => exact .nil
      | cons m ms ih => exact .cons (.int m) ih
    have ff : F ⟨K, none⟩ H (fun _ => False) (.lst .lk (ns.map .int)) (.ref a) := by
      rcases hS with (h | ⟨o, h⟩) | ⟨o, its, n', h1, h2, h3, h4, h5, h6⟩
      · rcases hO a with e | ⟨o, xs, e⟩
        · rw [e] at h; cases h
        · rw [e] at h; cases h
      · exact .lk h (fun q => q) zl (fi ns)
      · exact .lkK h1 h2 h3 h4 h5 h6 (fi ns)
    refine ⟨rfl, [.lst .lk (ns.map .int)], fun _ => False, .cons ff .nil, fun _ q => q.elim, ?_⟩
    rw [hg ns hlen hbits]
    intro H' v bs sm o f nd
    cases o with
    | fz h => cases h; rfl
  · obtain ⟨_, _, _, _, _, _, _, _, _, _, _, _, z⟩ := hc
    exact z
end Ds

namespace Ds
open PySem PySem.Spec PyProof.Rows L2
/-! ## 23. Reckoning: no function stands where it would be gone into ahead of its turn -/
section
variable {c : Cn} {ρ : Rho} {e : Ec}
@[simp] theorem v_non : ev c .non ρ = .ok .non := by rw [ev]
@[simp] theorem v_bl {b : Bool} : ev c (.bl b) ρ = .ok (.bl b) := by rw [ev]
@[simp] theorem v_int {i : Int} : ev c (.int i) ρ = .ok (.int i) := by rw [ev]
@[simp] theorem v_str {x : Str} : ev c (.str x) ρ = .ok (.str x) := by rw [ev]
@[simp] theorem v_con {x : Str} {d : D} : ev c (.con x d) ρ = .ok d := by rw [ev]
def getR (o : Option (Option D)) : Re D := match o with
  | some (some d) => .ok (kid d)
  | _ => .st
@[simp] theorem getR_some {d : D} : getR (some (some d)) = .ok (kid d) := (rfl)
@[simp] theorem v_var {i : Nat} : ev c (.var i) ρ = getR ρ[i]? := by rw [ev]; rfl
/-- then -/
def th1 (f : D → Re D) (r : Re D) : Re D := r >>= f
def mkTup (ds : List D) : Re D := if ds.any isBo then .st else ok? (decide (ds.length ≤ sizeLine)) (.tup (frzs ds))
def mkLst (ds : List D) : Re D := if ds.any isBo then .st else ok? (decide (ds.length ≤ sizeLine)) (.lst .ow ds)
def tupR (r : Re (List D)) : Re D := r >>= mkTup
def lstR (r : Re (List D)) : Re D := r >>= mkLst
@[simp] theorem tupR_ok {ds : List D} : tupR (.ok ds) = mkTup ds := (rfl)
@[simp] theorem tupR_er : tupR (.er e) = .er e := (rfl)
@[simp] theorem lstR_ok {ds : List D} : lstR (.ok ds) = mkLst ds := (rfl)
@[simp] theorem lstR_er : lstR (.er e) = .er e := (rfl)
@[simp] theorem v_tup {es : List S} : ev c (.tup es) ρ = tupR (evs c es ρ) := by rw [ev]; rfl
@[simp] theorem v_lst {es : List S} : ev c (.lst es) ρ = lstR (evs c es ρ) := by rw [ev]; rfl
def binR (op : Bop) (r s : Re D) : Re D := r >>= fun x => s >>= fun y => evBin op x y
@[simp] theorem binR_ok {op : Bop} {x y : D} : binR op (.ok x) (.ok y) = evBin op x y := (rfl)
@[simp] theorem binR_er {op : Bop} {s : Re D} : binR op (.er e) s = .er e := (rfl)
@[simp] theorem binR_er2 {op : Bop} {x : D} : binR op (.ok x) (.er e) = .er e := (rfl)
@[simp] theorem v_bin {op : Bop} {a b : S} : ev c (.bin op a b) ρ = binR op (ev c a ρ) (ev c b ρ) := by rw [ev]; rfl
def negR (r : Re D) : Re D := r >>= fun x => match x with
  | .int i => .ok (.int (-i))
  | _ => .st
@[simp] theorem negR_int {i : Int} : negR (.ok (.int i)) = .ok (.int (-i)) := (rfl)
@[simp] theorem v_neg {a : S} : ev c (.neg a) ρ = negR (ev c a ρ) := by rw [ev]; rfl
def notR (r : Re D) : Re D := r >>= fun x => match x with
  | .bl i => .ok (.bl !i)
  | _ => .st
@[simp] theorem notR_bl {i : Bool} : notR (.ok (.bl i)) = .ok (.bl !i) := (rfl)
@[simp] theorem notR_er : notR (.er e) = .er e := (rfl)
@[simp] theorem v_not {a : S} : ev c (.not a) ρ = notR (ev c a ρ) := by rw [ev]; rfl
def cmpR (op : Cop) (r s : Re D) : Re D := r >>= fun x => s >>= fun y => evCmp op x y
@[simp] theorem cmpR_ok {op : Cop} {x y : D} : cmpR op (.ok x) (.ok y) = evCmp op x y := (rfl)
@[simp] theorem cmpR_er {op : Cop} {s : Re D} : cmpR op (.er e) s = .er e := (rfl)
@[simp] theorem cmpR_er2 {op : Cop} {x : D} : cmpR op (.ok x) (.er e) = .er e := (rfl)
@[simp] theorem v_cmp {op : Cop} {a b : S} : ev c (.cmp op a b) ρ = cmpR op (ev c a ρ) (ev c b ρ) := by rw [ev]; rfl
/-- the road that a truth value tells -/
def brB (x : D) (a b : Re D) : Re D := match x with
  | .bl true => a
  | .bl false => b
  | _ => .st
def chn2 (c : Cn) (ρ : Rho) (o2 : Cop) (d : S) (y : D) (r : Re D) : Re D := r >>= fun k => brB k (ev c d ρ >>= fun z => evCmp o2 y z) (.ok (.bl false))
def chnR (c : Cn) (ρ : Rho) (o1 o2 : Cop) (d : S) (r s : Re D) : Re D := r >>= fun x => s >>= fun y => chn2 c ρ o2 d y (evCmp o1 x y)
@[simp] theorem chnR_ok {o1 o2 : Cop} {d : S} {x y : D} : chnR c ρ o1 o2 d (.ok x) (.ok y) = chn2 c ρ o2 d y (evCmp o1 x y) := (rfl)
@[simp] theorem chn2_t {o2 : Cop} {d : S} {y : D} : chn2 c ρ o2 d y (.ok (.bl true)) = cmpR o2 (.ok y) (ev c d ρ) := (rfl)
@[simp] theorem chn2_f {o2 : Cop} {d : S} {y : D} : chn2 c ρ o2 d y (.ok (.bl false)) = .ok (.bl false) := (rfl)
@[simp] theorem v_chn {o1 o2 : Cop} {a b d : S} : ev c (.chn o1 o2 a b d) ρ = chnR c ρ o1 o2 d (ev c a ρ) (ev c b ρ) := by rw [ev]; rfl
def andR (c : Cn) (ρ : Rho) (b : S) (r : Re D) : Re D := r >>= fun x => brB x (ev c b ρ) (.ok (.bl false))
@[simp] theorem andR_t {b : S} : andR c ρ b (.ok (.bl true)) = ev c b ρ := (rfl)
@[simp] theorem andR_f {b : S} : andR c ρ b (.ok (.bl false)) = .ok (.bl false) := (rfl)
@[simp] theorem andR_er {b : S} : andR c ρ b (.er e) = .er e := (rfl)
@[simp] theorem v_and {a b : S} : ev c (.and a b) ρ = andR c ρ b (ev c a ρ) := by rw [ev]; rfl
def orR (c : Cn) (ρ : Rho) (b : S) (r : Re D) : Re D := r >>= fun x => brB x (.ok (.bl true)) (ev c b ρ)
@[simp] theorem orR_t {b : S} : orR c ρ b (.ok (.bl true)) = .ok (.bl true) := (rfl)
@[simp] theorem orR_f {b : S} : orR c ρ b (.ok (.bl false)) = ev c b ρ := (rfl)
@[simp] theorem orR_er {b : S} : orR c ρ b (.er e) = .er e := (rfl)
@[simp] theorem v_or {a b : S} : ev c (.or a b) ρ = orR c ρ b (ev c a ρ) := by rw [ev]; rfl
def iteR (c : Cn) (ρ : Rho) (a b : S) (r : Re D) : Re D := r >>= fun x => brB x (ev c a ρ) (ev c b ρ)
@[simp] theorem iteR_t {a b : S} : iteR c ρ a b (.ok (.bl true)) = ev c a ρ := (rfl)
@[simp] theorem iteR_f {a b : S} : iteR c ρ a b (.ok (.bl false)) = ev c b ρ := (rfl)
theorem iteR_bl {a b : S} {k : Bool} : iteR c ρ a b (.ok (.bl k)) = if k then ev c a ρ else ev c b ρ := by cases k <;> rfl
@[simp] theorem v_ite {t a b : S} : ev c (.ite t a b) ρ = iteR c ρ a b (ev c t ρ) := by rw [ev]; rfl
def truR (r : Re D) : Re D := r >>= fun x => evTru x >>= fun k => .ok (.bl k)
def blR (r : Re Bool) : Re D := r >>= fun k => .ok (.bl k)
@[simp] theorem blR_ok {k : Bool} : blR (.ok k) = .ok (.bl k) := (rfl)
@[simp] theorem truR_ok {x : D} : truR (.ok x) = blR (evTru x) := (rfl)
@[simp] theorem truR_er : truR (.er e) = .er e := (rfl)
@[simp] theorem v_tru {a : S} : ev c (.tru a) ρ = truR (ev c a ρ) := by rw [ev]; rfl
def ixR (r s : Re D) : Re D := r >>= fun x => s >>= fun y => evIx x y
@[simp] theorem ixR_ok {x y : D} : ixR (.ok x) (.ok y) = evIx x y := (rfl)
@[simp] theorem ixR_er {s : Re D} : ixR (.er e) s = .er e := (rfl)
@[simp] theorem v_ix {a i : S} : ev c (.ix a i) ρ = ixR (ev c a ρ) (ev c i ρ) := by rw [ev]; rfl
def dicR (t : Bool) (r : Re (List D)) : Re D := r >>= evDic t
@[simp] theorem dicR_ok {t : Bool} {ds : List D} : dicR t (.ok ds) = evDic t ds := (rfl)
@[simp] theorem v_dic {t : Bool} {es : List S} : ev c (.dic t es) ρ = dicR t (evs c es ρ) := by rw [ev]; rfl
def dgetR (r s : Re D) : Re D := r >>= fun x => s >>= fun y => evDget x y
@[simp] theorem dgetR_ok {x y : D} : dgetR (.ok x) (.ok y) = evDget x y := (rfl)
@[simp] theorem v_dget {a i : S} : ev c (.dget a i) ρ = dgetR (ev c a ρ) (ev c i ρ) := by rw [ev]; rfl
def dinR (g : Bool) (s r : Re D) : Re D := s >>= fun y => r >>= fun x => evDin g y x
@[simp] theorem dinR_ok {g : Bool} {x y : D} : dinR g (.ok y) (.ok x) = evDin g y x := (rfl)
@[simp] theorem v_din {g : Bool} {a i : S} : ev c (.din g i a) ρ = dinR g (ev c i ρ) (ev c a ρ) := by rw [ev]; rfl
def dlenR (r : Re D) : Re D := r >>= evDlen
@[simp] theorem dlenR_ok {x : D} : dlenR (.ok x) = evDlen x := (rfl)
@[simp] theorem v_dlen {a : S} : ev c (.dlen a) ρ = dlenR (ev c a ρ) := by rw [ev]; rfl
def dgtR (r s : Re D) : Re D := r >>= fun x => s >>= fun y => evDgt x y
@[simp] theorem dgtR_ok {x y : D} : dgtR (.ok x) (.ok y) = evDgt x y := (rfl)
@[simp] theorem v_dgt {a i : S} : ev c (.dgt a i) ρ = dgtR (ev c a ρ) (ev c i ρ) := by rw [ev]; rfl
def slR (r : Re D) (l h : Re (Option Int)) : Re D := r >>= fun x => l >>= fun l => h >>= fun h => evSl x l h
@[simp] theorem slR_ok {x : D} {l h : Option Int} : slR (.ok x) (.ok l) (.ok h) = evSl x l h := (rfl)
@[simp] theorem slR_er {l h : Re (Option Int)} : slR (.er e) l h = .er e := (rfl)
@[simp] theorem v_sl {a : S} {lo hi : Option S} : ev c (.sl a lo hi) ρ = slR (ev c a ρ) (evO c lo ρ) (evO c hi ρ) := by rw [ev]; rfl
def revR (r : Re D) : Re D := r >>= fun x => evRev x
@[simp] theorem revR_ok {x : D} : revR (.ok x) = evRev x := (rfl)
@[simp] theorem evRev_tup {xs : List D} : evRev (.tup xs) = .ok (.tup xs.reverse) := (rfl)
@[simp] theorem v_rev {a : S} : ev c (.rev a) ρ = revR (ev c a ρ) := by rw [ev]; rfl
def cleanR (r : Re D) : Re D := r >>= fun d => ok? (clean d) d
@[simp] theorem cleanR_ok {d : D} : cleanR (.ok d) = ok? (clean d) d := (rfl)
@[simp] theorem cleanR_er : cleanR (.er e) = .er e := (rfl)
def callO (o : Option (List D → Re D)) (ds : List D) : Re D := match o with
  | some g => if ds.any isBo then cleanR (g (ds.map argD)) else g (ds.map argD)
  | none => .st
@[simp] theorem callO_some {g : List D → Re D} {ds : List D} : callO (some g) ds = if ds.any isBo then cleanR (g (ds.map argD)) else g (ds.map argD) := (rfl)
def callR (o : Option (List D → Re D)) (r : Re (List D)) : Re D := r >>= callO o
@[simp] theorem callR_ok {o : Option (List D → Re D)} {ds : List D} : callR o (.ok ds) = callO o ds := (rfl)
@[simp] theorem callR_er {o : Option (List D → Re D)} : callR o (.er e) = .er e := (rfl)
@[simp] theorem v_call {f : Nat} {es : List S} : ev c (.call f es) ρ = callR c.fs[f]? (evs c es ρ) := by
  rw [ev]; unfold callR evCall callO cleanR; rfl
def bltR (b : Blt) (r : Re (List D)) : Re D := r >>= evBlt b
@[simp] theorem bltR_ok {b : Blt} {ds : List D} : bltR b (.ok ds) = evBlt b ds := (rfl)
@[simp] theorem bltR_er {b : Blt} : bltR b (.er e) = .er e := (rfl)
@[simp] theorem v_blt {b : Blt} {es : List S} : ev c (.blt b es) ρ = bltR b (evs c es ρ) := by rw [ev]; rfl
def isEx (o : Option (Option D)) (ce : Option Ec) (b : Ec) : Re D := match o, ce with
  | some (some .exc), some e => .ok (.bl (e.sub b))
  | _, _ => .st
@[simp] theorem isEx_some {e b : Ec} : isEx (some (some .exc)) (some e) b = .ok (.bl (e.sub b)) := (rfl)
@[simp] theorem v_isE {i : Nat} {b : Ec} : ev c (.isE i b) ρ = isEx ρ[i]? c.ce b := by rw [ev]; rfl
def tsR (r : Re D) : Re Bool := r >>= asB
@[simp] theorem tsR_bl {k : Bool} : tsR (.ok (.bl k)) = .ok k := (rfl)
@[simp] theorem tsR_er : tsR (.er e) = .er e := (rfl)
/-- a list of what the turns gave -/
def catL (n : Nat) (r : Re (List (List D))) : Re D := r >>= fun xss => ok? (decide (n ≤ sizeLine)) (.lst .ow xss.flatten)
@[simp] theorem catL_ok {n : Nat} {xss : List (List D)} : catL n (.ok xss) = ok? (decide (n ≤ sizeLine)) (.lst .ow xss.flatten) := (rfl)
def elR (r : Re D) : Re (List D) := r >>= fun d => compOut d >>= fun d => .ok [d]
@[simp] theorem elR_ok {d : D} (h : isBo d = false) : elR (.ok d) = .ok [d] := by unfold elR compOut; simp [h]
/-- a turn of a comprehension behind its test -/
def turn2 (c : Cn) (s : S) (ρ : Rho) (k : Re Bool) : Re (List D) := noEr k >>= fun k => if k then noEr (elR (ev c s ρ)) else .ok []
@[simp] theorem turn2_t {s : S} : turn2 c s ρ (.ok true) = noEr (elR (ev c s ρ)) := (rfl)
@[simp] theorem turn2_f {s : S} : turn2 c s ρ (.ok false) = .ok [] := (rfl)
def turn1 (c : Cn) (t s : S) (o : Option Rho) : Re (List D) := match o with
  | some ρ => turn2 c s ρ (tsR (ev c t ρ))
  | none => .st
@[simp] theorem turn1_some {t s : S} : turn1 c t s (some ρ) = turn2 c s ρ (tsR (ev c t ρ)) := (rfl)
def consL {α : Type} (r : Re α) (s : Re (List α)) : Re (List α) := r >>= fun b => s >>= fun bs => .ok (b :: bs)
@[simp] theorem consL_ok {α : Type} {b : α} {bs : List α} : consL (.ok b) (.ok bs) = .ok (b :: bs) := (rfl)
def compL (c : Cn) (g : G) (t s : S) (ρ : Rho) : List D → Re (List (List D))
  | [] => .ok []
  | d :: ds => consL (turn1 c t s (setG g d ρ)) (compL c g t s ρ ds)
@[simp] theorem compL_nil {g : G} {t s : S} : compL c g t s ρ [] = .ok [] := (rfl)
@[simp] theorem compL_cons {g : G} {t s : S} {d : D} {ds : List D} : compL c g t s ρ (d :: ds) = consL (turn1 c t s (setG g d ρ)) (compL c g t s ρ ds) := (rfl)
theorem compL_eq {g : G} {t s : S} : ∀ {ds : List D}, mapRe (compTurn (fun ρ' => ev c s ρ' >>= fun d => compOut d >>= fun d => .ok [d]) (fun ρ' => ev c t ρ' >>= asB) g ρ) ds = compL c g t s ρ ds
  | [] => rfl
  | d :: ds => by
    rw [compL, ← compL_eq]
    unfold consL
    show (compTurn _ _ g ρ d >>= _) = _
    congr 1
    unfold compTurn turn1
    cases setG g d ρ with
    | none => rfl
    | some ρ' => rfl
def compR (c : Cn) (vs : List Nat) (g : G) (t s : S) (ρ : Rho) (r : Re (List D)) : Re D := r >>= fun ds => catL ds.length (compL c g t s (wipeR ρ vs) ds)
@[simp] theorem compR_ok {vs : List Nat} {g : G} {t s : S} {ds : List D} : compR c vs g t s ρ (.ok ds) = catL ds.length (compL c g t s (wipeR ρ vs) ds) := (rfl)
@[simp] theorem v_comp {vs : List Nat} {g : G} {it t s : S} : ev c (.comp vs g it t s) ρ = compR c vs g t s ρ (evI c false it ρ) := by
  rw [ev]; unfold compR catL; simp only [compL_eq]
def comphR (c : Cn) (vs : List Nat) (g : G) (t s : S) (ρ : Rho) (r : Re D) : Re D := r >>= fun x => if isLst x = true then compR c vs g t s ρ (if isW false x then .st else lift (strLit x)) else .st
@[simp] theorem comphR_lst {vs : List Nat} {g : G} {t s : S} {o : Ow} {ds : List D} : comphR c vs g t s ρ (.ok (.lst o ds)) = compR c vs g t s ρ (lift (lstOf (.lst o ds))) := (rfl)
@[simp] theorem v_comph {vs : List Nat} {g : G} {a t s : S} : ev c (.comph vs g a t s) ρ = comphR c vs g t s ρ (ev c a ρ) := by
  rw [ev]; unfold comphR compR catL; simp only [compL_eq]
def hlenR (r : Re D) : Re D := r >>= fun x => evBlt .len [x]
@[simp] theorem hlenR_ok {x : D} : hlenR (.ok x) = evBlt .len [x] := (rfl)
@[simp] theorem v_hlen {a : S} : ev c (.hlen a) ρ = hlenR (ev c a ρ) := by rw [ev]; rfl
def posR (r e : Re D) : Re D := r >>= fun x => if isLst x = true then e >>= fun y => evPos x y else .st
@[simp] theorem posR_ok {o : Ow} {ds : List D} {y : D} : posR (.ok (.lst o ds)) (.ok y) = evPos (.lst o ds) y := (rfl)
@[simp] theorem v_pos {a e : S} : ev c (.pos a e) ρ = posR (ev c a ρ) (ev c e ρ) := by rw [ev]; rfl
def flatR (r : Re (List (List D))) : Re (List D) := r >>= fun xss => .ok xss.flatten
@[simp] theorem flatR_ok {xss : List (List D)} : flatR (.ok xss) = .ok xss.flatten := (rfl)
def inR (c : Cn) (v1 : List Nat) (g1 : G) (t1 s : S) (ρ : Rho) (r : Re (List D)) : Re (List D) := r >>= fun es => flatR (compL c g1 t1 s (wipeR ρ v1) es)
@[simp] theorem inR_ok {v1 : List Nat} {g1 : G} {t1 s : S} {es : List D} : inR c v1 g1 t1 s ρ (.ok es) = flatR (compL c g1 t1 s (wipeR ρ v1) es) := (rfl)
def turnB (c : Cn) (v1 : List Nat) (g1 : G) (it1 t1 s : S) (ρ : Rho) (k : Re Bool) : Re (List D) := noEr k >>= fun k => if k then noEr (inR c v1 g1 t1 s ρ (evI c true it1 ρ)) else .ok []
@[simp] theorem turnB_t {v1 : List Nat} {g1 : G} {it1 t1 s : S} : turnB c v1 g1 it1 t1 s ρ (.ok true) = noEr (inR c v1 g1 t1 s ρ (evI c true it1 ρ)) := (rfl)
@[simp] theorem turnB_f {v1 : List Nat} {g1 : G} {it1 t1 s : S} : turnB c v1 g1 it1 t1 s ρ (.ok false) = .ok [] := (rfl)
def turnA (c : Cn) (v1 : List Nat) (g1 : G) (it1 t1 s t : S) (o : Option Rho) : Re (List D) := match o with
  | some ρ => turnB c v1 g1 it1 t1 s ρ (tsR (ev c t ρ))
  | none => .st
@[simp] theorem turnA_some {v1 : List Nat} {g1 : G} {it1 t1 s t : S} : turnA c v1 g1 it1 t1 s t (some ρ) = turnB c v1 g1 it1 t1 s ρ (tsR (ev c t ρ)) := (rfl)
def comp2L (c : Cn) (v1 : List Nat) (g g1 : G) (it1 t1 s t : S) (ρ : Rho) : List D → Re (List (List D))
  | [] => .ok []
  | d :: ds => consL (turnA c v1 g1 it1 t1 s t (setG g d ρ)) (comp2L c v1 g g1 it1 t1 s t ρ ds)
@[simp] theorem comp2L_nil {v1 : List Nat} {g g1 : G} {it1 t1 s t : S} : comp2L c v1 g g1 it1 t1 s t ρ [] = .ok [] := (rfl)
@[simp] theorem comp2L_cons {v1 : List Nat} {g g1 : G} {it1 t1 s t : S} {d : D} {ds : List D} : comp2L c v1 g g1 it1 t1 s t ρ (d :: ds) = consL (turnA c v1 g1 it1 t1 s t (setG g d ρ)) (comp2L c v1 g g1 it1 t1 s t ρ ds) := (rfl)
theorem comp2L_eq {v1 : List Nat} {g g1 : G} {it1 t1 s t : S} : ∀ {ds : List D}, mapRe (compTurn (fun ρ' => evI c true it1 ρ' >>= fun es => compL c g1 t1 s (wipeR ρ' v1) es >>= fun xss => .ok xss.flatten) (fun ρ' => ev c t ρ' >>= asB) g ρ) ds = comp2L c v1 g g1 it1 t1 s t ρ ds
  | [] => rfl
  | d :: ds => by
    rw [comp2L, ← comp2L_eq]
    unfold consL
    show (compTurn _ _ g ρ d >>= _) = _
    congr 1
    unfold compTurn turnA
    cases setG g d ρ with
    | none => rfl
    | some ρ' => rfl
def cat2 (r : Re (List (List D))) : Re D := r >>= fun xss => ok? (decide (xss.flatten.length ≤ sizeLine)) (.lst .ow xss.flatten)
@[simp] theorem cat2_ok {xss : List (List D)} : cat2 (.ok xss) = ok? (decide (xss.flatten.length ≤ sizeLine)) (.lst .ow xss.flatten) := (rfl)
def comp2R (c : Cn) (vs v1 : List Nat) (g g1 : G) (it1 t1 s t : S) (ρ : Rho) (r : Re (List D)) : Re D := r >>= fun ds => cat2 (comp2L c v1 g g1 it1 t1 s t (wipeR ρ vs) ds)
@[simp] theorem comp2R_ok {vs v1 : List Nat} {g g1 : G} {it1 t1 s t : S} {ds : List D} : comp2R c vs v1 g g1 it1 t1 s t ρ (.ok ds) = cat2 (comp2L c v1 g g1 it1 t1 s t (wipeR ρ vs) ds) := (rfl)
@[simp] theorem v_comp2 {vs vs1 : List Nat} {g g1 : G} {it t it1 t1 s : S} : ev c (.comp2 vs vs1 g it t g1 it1 t1 s) ρ = comp2R c vs vs1 g g1 it1 t1 s t ρ (evI c false it ρ) := by
  rw [ev]; unfold comp2R cat2; simp only [compL_eq, comp2L_eq]
@[simp] theorem vs_nil : evs c [] ρ = .ok [] := by rw [evs]
@[simp] theorem consL_er {α : Type} {s : Re (List α)} : consL (.er e) s = .er e := (rfl)
@[simp] theorem consL_er2 {α : Type} {b : α} : consL (.ok b) (.er e) = .er e := (rfl)
@[simp] theorem vs_cons {d : S} {es : List S} : evs c (d :: es) ρ = consL (ev c d ρ) (evs c es ρ) := by rw [evs]; rfl
@[simp] theorem vo_none : evO c none ρ = .ok none := by rw [evO]
def intO (r : Re D) : Re (Option Int) := r >>= fun x => match x with
  | .int i => .ok (some i)
  | _ => .st
@[simp] theorem intO_int {i : Int} : intO (.ok (.int i)) = .ok (some i) := (rfl)
@[simp] theorem vo_some {s : S} : evO c (some s) ρ = intO (ev c s ρ) := by rw [evO]; rfl
def seqR (st : Bool) (r : Re D) : Re (List D) := r >>= fun d => if isW st d then .st else lift (strLit d)
@[simp] theorem seqR_ok {st : Bool} {d : D} : seqR st (.ok d) = if isW st d then .st else lift (strLit d) := (rfl)
@[simp] theorem vi_seq {st : Bool} {a : S} : evI c st (.iseq a) ρ = seqR st (ev c a ρ) := by rw [evI]; rfl
def rngD (x y : D) : Re (List D) := match x, y with
  | .int i, .int j => ok? (decide (-p62 ≤ i) && decide (i < p62) && decide (-p62 ≤ j) && decide (j < p62)) (rangeD i j)
  | _, _ => .st
def rngR (r s : Re D) : Re (List D) := r >>= fun x => s >>= fun y => rngD x y
@[simp] theorem rngR_ok {x y : D} : rngR (.ok x) (.ok y) = rngD x y := (rfl)
@[simp] theorem vi_rng {st : Bool} {a b : S} : evI c st (.irng a b) ρ = rngR (ev c a ρ) (ev c b ρ) := by rw [evI]; rfl
def rng3D (x y z : D) : Re (List D) := match x, y, z with
  | .int i, .int j, .int k => lift (rng3 i j k)
  | _, _, _ => .st
def rng3R (r s t : Re D) : Re (List D) := r >>= fun x => s >>= fun y => t >>= fun z => rng3D x y z
@[simp] theorem rng3R_ok {x y z : D} : rng3R (.ok x) (.ok y) (.ok z) = rng3D x y z := (rfl)
@[simp] theorem vi_rng3 {st : Bool} {a b d : S} : evI c st (.irng3 a b d) ρ = rng3R (ev c a ρ) (ev c b ρ) (ev c d ρ) := by rw [evI]; rfl
def enumR (st : Bool) (r : Re D) : Re (List D) := r >>= fun d => if isW st d then .st else lift (seqOf d) >>= fun ds => .ok (enumD ds)
def okEnum (r : Re (List D)) : Re (List D) := r >>= fun ds => .ok (enumD ds)
@[simp] theorem okEnum_ok {ds : List D} : okEnum (.ok ds) = .ok (enumD ds) := (rfl)
@[simp] theorem enumR_ok {st : Bool} {d : D} : enumR st (.ok d) = if isW st d then .st else okEnum (lift (seqOf d)) := (rfl)
@[simp] theorem vi_enum {st : Bool} {a : S} : evI c st (.ienum a) ρ = enumR st (ev c a ρ) := by rw [evI]; rfl
def zip2 (x y : D) : Re (List D) := match x, y with
  | .tup xs, .tup ys => .ok (zipD xs ys)
  | .lst o xs, .lst o' ys => lift (lstOf (.lst o xs)) >>= fun us => lift (lstOf (.lst o' ys)) >>= fun ws => .ok (zipD us ws)
  | _, _ => .st
def zipR (st : Bool) (r s : Re D) : Re (List D) := r >>= fun x => s >>= fun y => if isW st x || isW st y then .st else zip2 x y
@[simp] theorem zipR_ok {st : Bool} {x y : D} : zipR st (.ok x) (.ok y) = if isW st x || isW st y then .st else zip2 x y := (rfl)
@[simp] theorem vi_zip {st : Bool} {a b : S} : evI c st (.izip a b) ρ = zipR st (ev c a ρ) (ev c b ρ) := by rw [evI]; rfl
def revI (st : Bool) (r : Re D) : Re (List D) := r >>= fun d => if isW st d then .st else lift (seqOf d) >>= fun ds => .ok ds.reverse
def okRev (r : Re (List D)) : Re (List D) := r >>= fun ds => .ok ds.reverse
@[simp] theorem okRev_ok {ds : List D} : okRev (.ok ds) = .ok ds.reverse := (rfl)
@[simp] theorem revI_ok {st : Bool} {d : D} : revI st (.ok d) = if isW st d then .st else okRev (lift (seqOf d)) := (rfl)
@[simp] theorem vi_rev {st : Bool} {a : S} : evI c st (.irev a) ρ = revI st (ev c a ρ) := by rw [evI]; rfl
end
section
variable {c : Cn} {n : Nat} {ρ : Rho} {e : Ec}
@[simp] theorem x_pass : ex c n .pass ρ = .nx ρ := by rw [ex]
@[simp] theorem x_brk : ex c n .brk ρ = .bk ρ := by rw [ex]
@[simp] theorem x_cont : ex c n .cont ρ = .ct ρ := by rw [ex]
@[simp] theorem x_retN : ex c n .retN ρ = .rt .non := by rw [ex]
@[simp] theorem x_fz {xs : List Nat} : ex c n (.fz xs) ρ = .nx (frzR ρ xs) := by rw [ex]
def nxO (o : Option Rho) : Out := match o with
  | some ρ => .nx ρ
  | none => .st
@[simp] theorem nxO_some : nxO (some ρ) = .nx ρ := (rfl)
def putG (g : G) (d : D) (ρ : Rho) : Out := if isBo d then .st else nxO (setG g d ρ)
def asgR (g : G) (ρ : Rho) (r : Re D) : Out := Out.of r ρ fun d => putG g d ρ
@[simp] theorem asgR_ok {g : G} {d : D} : asgR g ρ (.ok d) = putG g d ρ := (rfl)
@[simp] theorem asgR_er {g : G} : asgR g ρ (.er e) = .er e ρ := (rfl)
theorem of_lift_nx {o : Option Rho} : Out.of (lift o) ρ (fun ρ' => .nx ρ') = nxO o := by cases o <;> rfl
@[simp] theorem x_asg {g : G} {s : S} : ex c n (.asg g s) ρ = asgR g ρ (ev c s ρ) := by
  rw [ex]; unfold asgR putG; congr 1; funext d; rw [of_lift_nx]
def parR (is : List Nat) (ρ : Rho) (r : Re (List D)) : Out := Out.of r ρ fun ds => nxO (setAll is ds ρ)
@[simp] theorem parR_ok {is : List Nat} {ds : List D} : parR is ρ (.ok ds) = nxO (setAll is ds ρ) := (rfl)
@[simp] theorem parR_er {is : List Nat} : parR is ρ (.er e) = .er e ρ := (rfl)
@[simp] theorem x_par {is : List Nat} {es : List S} : ex c n (.par is es) ρ = parR is ρ (evs c es ρ) := by
  rw [ex]; unfold parR; congr 1; funext d; rw [of_lift_nx]
def put1 (i : Nat) (ρ : Rho) (r : Re D) : Out := Out.of r ρ fun d => .nx (ρ.set i (some d))
@[simp] theorem put1_ok {i : Nat} {d : D} : put1 i ρ (.ok d) = .nx (ρ.set i (some d)) := (rfl)
def augD (o : Option (Option D)) (r : Re D) (op : Bop) (i : Nat) (ρ : Rho) : Out := match o with
  | some (some (.int a)) => Out.of r ρ fun d => (match d with
    | .int b => Out.of (evAug op a b) ρ fun d' => .nx (ρ.set i (some d'))
    | _ => .st)
  | _ => .st
@[simp] theorem augD_int {a b : Int} {op : Bop} {i : Nat} : augD (some (some (.int a))) (.ok (.int b)) op i ρ = put1 i ρ (evAug op a b) := (rfl)
@[simp] theorem x_aug {i : Nat} {op : Bop} {s : S} : ex c n (.aug i op s) ρ = augD ρ[i]? (ev c s ρ) op i ρ := by rw [ex]; rfl
def putL (x : Nat) (ρ : Rho) (o : Option (List D)) : Out := match o with
  | some ys => .nx (ρ.set x (some (.lst .ow ys)))
  | none => .st
@[simp] theorem putL_some {x : Nat} {ys : List D} : putL x ρ (some ys) = .nx (ρ.set x (some (.lst .ow ys))) := (rfl)
theorem of_lift_L {x : Nat} {o : Option (List D)} : Out.of (lift o) ρ (fun ys => .nx (ρ.set x (some (.lst .ow ys)))) = putL x ρ o := by cases o <;> rfl
def setiD (o : Option (Option D)) (r : Re D) (d : Re D) (x : Nat) (ρ : Rho) : Out := Out.of d ρ fun d => if isBo d then .st else (match o with
    | some (some (.lst .ow xs)) => Out.of r ρ fun k => putL x ρ (setI xs k d)
    | _ => .st)
@[simp] theorem setiD_ok {xs : List D} {k d : D} {x : Nat} (h : isBo d = false) : setiD (some (some (.lst .ow xs))) (.ok k) (.ok d) x ρ = putL x ρ (setI xs k d) := by unfold setiD; simp [h]
@[simp] theorem x_seti {x : Nat} {i s : S} : ex c n (.seti x i s) ρ = setiD ρ[x]? (ev c i ρ) (ev c s ρ) x ρ := by
  rw [ex]; unfold setiD; simp only [of_lift_L] <;> rfl
def seti3 (xs : List D) (k : D) (d : D) (x : Nat) (ρ : Rho) (r2 : Re D) (o : Option D) : Out := match o with
      | some (.lst .ow ys) => Out.of r2 ρ fun l => Out.of (lift (setI ys l d)) ρ fun zs => putL x ρ (setI xs k (.lst .ow zs))
      | _ => .st
def seti4 (xs : List D) (k : D) (x : Nat) (ρ : Rho) (o : Option (List D)) : Out := match o with
  | some zs => putL x ρ (setI xs k (.lst .ow zs))
  | none => .st
@[simp] theorem seti4_some {xs zs : List D} {k : D} {x : Nat} : seti4 xs k x ρ (some zs) = putL x ρ (setI xs k (.lst .ow zs)) := (rfl)
@[simp] theorem seti3_some {xs ys : List D} {k d l : D} {x : Nat} : seti3 xs k d x ρ (.ok l) (some (.lst .ow ys)) = seti4 xs k x ρ (setI ys l d) := by
  show Out.of (lift (setI ys l d)) ρ (fun zs => putL x ρ (setI xs k (.lst .ow zs))) = seti4 xs k x ρ (setI ys l d)
  cases setI ys l d <;> rfl
def seti2D (o : Option (Option D)) (r r2 : Re D) (d : Re D) (x : Nat) (ρ : Rho) : Out := Out.of d ρ fun d => if isBo d then .st else (match o with
    | some (some (.lst .ow xs)) => Out.of r ρ fun k => seti3 xs k d x ρ r2 (atII xs k)
    | _ => .st)
@[simp] theorem seti2D_ok {xs : List D} {k d : D} {r2 : Re D} {x : Nat} (h : isBo d = false) : seti2D (some (some (.lst .ow xs))) (.ok k) r2 (.ok d) x ρ = seti3 xs k d x ρ r2 (atII xs k) := by unfold seti2D; simp [h]
@[simp] theorem x_seti2 {x : Nat} {i j s : S} : ex c n (.seti2 x i j s) ρ = seti2D ρ[x]? (ev c i ρ) (ev c j ρ) (ev c s ρ) x ρ := by
  rw [ex]; unfold seti2D seti3; simp only [of_lift_L] <;> rfl
def appD (o : Option (Option D)) (r : Re D) (x : Nat) (ρ : Rho) : Out := match o with
  | some (some (.lst .ow xs)) => Out.of r ρ fun d => if isBo d then .st else if xs.length < sizeLine then .nx (ρ.set x (some (.lst .ow (xs ++ [d])))) else .st
  | _ => .st
@[simp] theorem x_app {x : Nat} {s : S} : ex c n (.app x s) ρ = appD ρ[x]? (ev c s ρ) x ρ := by rw [ex]; rfl
@[simp] theorem appD_lst {xs : List D} {d : D} {x : Nat} (h : isBo d = false) : appD (some (some (.lst .ow xs))) (.ok d) x ρ = if xs.length < sizeLine then .nx (ρ.set x (some (.lst .ow (xs ++ [d])))) else .st := by unfold appD; simp [h]
def dropR (ρ : Rho) (r : Re D) : Out := Out.of r ρ fun _ => .nx ρ
@[simp] theorem dropR_ok {d : D} : dropR ρ (.ok d) = .nx ρ := (rfl)
@[simp] theorem dropR_er : dropR ρ (.er e) = .er e ρ := (rfl)
@[simp] theorem x_expr {s : S} : ex c n (.expr s) ρ = dropR ρ (ev c s ρ) := by rw [ex]; rfl
def retD (d : D) : Out := if isBo d then .st else .rt d
def retR (ρ : Rho) (r : Re D) : Out := Out.of r ρ retD
@[simp] theorem retR_ok {d : D} (h : isBo d = false) : retR ρ (.ok d) = .rt d := by unfold retR retD; simp [h]
@[simp] theorem retR_er : retR ρ (.er e) = .er e ρ := (rfl)
@[simp] theorem x_ret {s : S} : ex c n (.ret s) ρ = retR ρ (ev c s ρ) := by rw [ex]; rfl
def rmvD (o : Option (Option D)) : Out := match o with
  | some (some d) => .rt d
  | _ => .st
@[simp] theorem rmvD_some {d : D} : rmvD (some (some d)) = .rt d := (rfl)
@[simp] theorem x_rmv {x : Nat} : ex c n (.rmv x) ρ = rmvD ρ[x]? := by rw [ex]; rfl
def ifR (c : Cn) (n : Nat) (ρ : Rho) (a b : List T) (r : Re Bool) : Out := Out.of r ρ fun k => if k then exs c n a ρ else exs c n b ρ
@[simp] theorem ifR_t {a b : List T} : ifR c n ρ a b (.ok true) = exs c n a ρ := (rfl)
@[simp] theorem ifR_f {a b : List T} : ifR c n ρ a b (.ok false) = exs c n b ρ := (rfl)
theorem ifR_bl {a b : List T} {k : Bool} : ifR c n ρ a b (.ok k) = if k then exs c n a ρ else exs c n b ρ := (rfl)
@[simp] theorem ifR_er {a b : List T} : ifR c n ρ a b (.er e) = .er e ρ := (rfl)
@[simp] theorem x_ifs {t : S} {a b : List T} : ex c n (.ifs t a b) ρ = ifR c n ρ a b (tsR (ev c t ρ)) := by rw [ex]; rfl
def bodyO (c : Cn) (n : Nat) (b : List T) (o : Option Rho) : Out := match o with
  | some ρ => exs c n b ρ
  | none => .st
@[simp] theorem bodyO_some {b : List T} : bodyO c n b (some ρ) = exs c n b ρ := (rfl)
mutual
def nextT (c : Cn) (n : Nat) (g : G) (b : List T) (ds : List D) : Out → Out
  | .nx ρ => loopT c n g b ρ ds
  | .ct ρ => loopT c n g b ρ ds
  | .bk ρ => .nx ρ
  | o => o
  termination_by (ds.length, 1)
def loopT (c : Cn) (n : Nat) (g : G) (b : List T) (ρ : Rho) : List D → Out
  | [] => .nx ρ
  | d :: ds => nextT c n g b ds (bodyO c n b (setG g d ρ))
  termination_by ds => (ds.length, 0)
end
@[simp] theorem loopT_nil {g : G} {b : List T} : loopT c n g b ρ [] = .nx ρ := by rw [loopT]
@[simp] theorem loopT_cons {g : G} {b : List T} {d : D} {ds : List D} : loopT c n g b ρ (d :: ds) = nextT c n g b ds (bodyO c n b (setG g d ρ)) := by rw [loopT]
@[simp] theorem nextT_nx {g : G} {b : List T} {ds : List D} : nextT c n g b ds (.nx ρ) = loopT c n g b ρ ds := by rw [nextT]
@[simp] theorem nextT_ct {g : G} {b : List T} {ds : List D} : nextT c n g b ds (.ct ρ) = loopT c n g b ρ ds := by rw [nextT]
@[simp] theorem nextT_bk {g : G} {b : List T} {ds : List D} : nextT c n g b ds (.bk ρ) = .nx ρ := by rw [nextT]
@[simp] theorem nextT_rt {g : G} {b : List T} {ds : List D} {d : D} : nextT c n g b ds (.rt d) = .rt d := by rw [nextT] <;> simp
@[simp] theorem nextT_er {g : G} {b : List T} {ds : List D} : nextT c n g b ds (.er e ρ) = .er e ρ := by rw [nextT] <;> simp
@[simp] theorem nextT_rk {g : G} {b : List T} {ds : List D} : nextT c n g b ds (.rk ρ) = .rk ρ := by rw [nextT] <;> simp
@[simp] theorem nextT_st {g : G} {b : List T} {ds : List D} : nextT c n g b ds .st = .st := by rw [nextT] <;> simp
theorem loopT_eq {g : G} {b : List T} : ∀ {ds : List D} {ρ : Rho}, forD (fun d ρ => Out.of (lift (setG g d ρ)) ρ fun ρ' => exs c n b ρ') ds ρ = loopT c n g b ρ ds
  | [], ρ => by rw [loopT]; rfl
  | d :: ds, ρ => by
    rw [loopT_cons]
    have e : (Out.of (lift (setG g d ρ)) ρ fun ρ' => exs c n b ρ') = bodyO c n b (setG g d ρ) := by cases setG g d ρ <;> rfl
    unfold forD
    simp only [e]
    cases bodyO c n b (setG g d ρ) with
    | nx ρ' => rw [nextT_nx]; exact loopT_eq
    | ct ρ' => rw [nextT_ct]; exact loopT_eq
    | bk ρ' => rw [nextT_bk]
    | rt d => rw [nextT_rt]
    | er e ρ' => rw [nextT_er]
    | rk ρ' => rw [nextT_rk]
    | st => rw [nextT_st]
def forR (c : Cn) (n : Nat) (g : G) (b : List T) (ρ : Rho) (r : Re (List D)) : Out := Out.of r ρ fun ds => loopT c n g b ρ ds
@[simp] theorem forR_ok {g : G} {b : List T} {ds : List D} : forR c n g b ρ (.ok ds) = loopT c n g b ρ ds := (rfl)
@[simp] theorem forR_er {g : G} {b : List T} : forR c n g b ρ (.er e) = .er e ρ := (rfl)
@[simp] theorem x_for {g : G} {it : S} {b : List T} : ex c n (.for g it b) ρ = forR c n g b ρ (evI c true it ρ) := by
  rw [ex]; unfold forR; congr 1; funext ds; rw [loopT_eq]
def whlT (c : Cn) (n : Nat) (t : S) (b : List T) (j : Nat) (ρ : Rho) : Out := whlD (fun ρ => tsR (ev c t ρ)) (exs c n b) j ρ
@[simp] theorem x_whl {t : S} {b : List T} : ex c n (.whl t b) ρ = whlT c n t b n ρ := by rw [ex]; rfl
def fs2 (ys : List D) (u k : D) (o : Option (List D)) : Re D := match o with
  | some zs => .ok (.lst .ow zs)
  | none => .st
@[simp] theorem fs2_some {ys zs : List D} {u k : D} : fs2 ys u k (some zs) = .ok (.lst .ow zs) := (rfl)
def fs1 (ys : List D) (r s : Re D) : Re D := noEr r >>= fun u => noEr s >>= fun k => if isF1 u && !isBo u then fs2 ys u k (setI ys k u) else .st
@[simp] theorem fs1_ok {ys : List D} {u k : D} (h : isF1 u = true) (h2 : isBo u = false) : fs1 ys (.ok u) (.ok k) = fs2 ys u k (setI ys k u) := by unfold fs1; simp [noEr, h, h2]
def fsI (c : Cn) (y : Nat) (i s : S) (ρ : Rho) (d : D) : Re D := match d with
  | .lst .ow ys => fs1 ys (ev c s (ρ.set y (some d))) (ev c i (ρ.set y (some d)))
  | _ => .st
@[simp] theorem fsI_ow {y : Nat} {i s : S} {ys : List D} : fsI c y i s ρ (.lst .ow ys) = fs1 ys (ev c s (ρ.set y (some (.lst .ow ys)))) (ev c i (ρ.set y (some (.lst .ow ys)))) := (rfl)
def fsL (c : Cn) (y : Nat) (i s : S) (ρ : Rho) : List D → Re (List D)
  | [] => .ok []
  | d :: ds => consL (fsI c y i s ρ d) (fsL c y i s ρ ds)
@[simp] theorem fsL_nil {y : Nat} {i s : S} : fsL c y i s ρ [] = .ok [] := (rfl)
@[simp] theorem fsL_cons {y : Nat} {i s : S} {d : D} {ds : List D} : fsL c y i s ρ (d :: ds) = consL (fsI c y i s ρ d) (fsL c y i s ρ ds) := (rfl)
theorem fsI_eq {y : Nat} {i s : S} {d : D} : fsItem c y i s ρ d = fsI c y i s ρ d := by
  cases d with
  | lst o ys =>
    cases o with
    | ow =>
      unfold fsItem fsI fs1
      simp only
      congr 1; funext u; congr 1; funext k
      split
      · cases setI ys k u <;> rfl
      · rfl
    | _ => rfl
  | _ => rfl
theorem fsL_eq {y : Nat} {i s : S} : ∀ {ds : List D}, mapRe (fsItem c y i s ρ) ds = fsL c y i s ρ ds
  | [] => rfl
  | d :: ds => by
    rw [fsL, ← fsL_eq, ← fsI_eq]; rfl
def fsO (x y : Nat) (ρ : Rho) (r : Re (List D)) : Out := Out.of r ρ fun ys => .nx ((ρ.set x (some (.lst .ow ys))).set y none)
@[simp] theorem fsO_ok {x y : Nat} {ys : List D} : fsO x y ρ (.ok ys) = .nx ((ρ.set x (some (.lst .ow ys))).set y none) := (rfl)
def fsD (c : Cn) (x y : Nat) (i s : S) (ρ : Rho) (o : Option (Option D)) : Out := match o with
  | some (some (.lst .ow xs)) => if x = y ∨ ρ.length ≤ y then .st else fsO x y ρ (fsL c y i s (ρ.set x none) xs)
  | _ => .st
@[simp] theorem fsD_ow {x y : Nat} {i s : S} {xs : List D} : fsD c x y i s ρ (some (some (.lst .ow xs))) = if x = y ∨ ρ.length ≤ y then .st else fsO x y ρ (fsL c y i s (ρ.set x none) xs) := (rfl)
@[simp] theorem x_fset {x y : Nat} {i s : S} : ex c n (.fset x y i s) ρ = fsD c x y i s ρ ρ[x]? := by
  rw [ex]; simp only [fsL_eq] <;> rfl
@[simp] theorem x_rais : ex c n (.rais e) ρ = .er e ρ := by rw [ex]
def tryD (c : Cn) (n : Nat) (hs : List (Ec × Option Nat × List T)) (o : Out) : Out := match o with
  | .er e ρ' => exh c n e hs ρ'
  | o => o
@[simp] theorem tryD_er {hs : List (Ec × Option Nat × List T)} : tryD c n hs (.er e ρ) = exh c n e hs ρ := (rfl)
@[simp] theorem tryD_nx {hs : List (Ec × Option Nat × List T)} : tryD c n hs (.nx ρ) = .nx ρ := (rfl)
@[simp] theorem tryD_rt {hs : List (Ec × Option Nat × List T)} {d : D} : tryD c n hs (.rt d) = .rt d := (rfl)
@[simp] theorem x_tr {b : List T} {hs : List (Ec × Option Nat × List T)} : ex c n (.tr b hs) ρ = tryD c n hs (exs c n b ρ) := by rw [ex]; rfl
def seqO (c : Cn) (n : Nat) (ts : List T) (o : Out) : Out := o.seq fun ρ' => exs c n ts ρ'
@[simp] theorem seqO_nx {ts : List T} : seqO c n ts (.nx ρ) = exs c n ts ρ := (rfl)
@[simp] theorem seqO_rt {ts : List T} {d : D} : seqO c n ts (.rt d) = .rt d := (rfl)
@[simp] theorem seqO_bk {ts : List T} : seqO c n ts (.bk ρ) = .bk ρ := (rfl)
@[simp] theorem seqO_ct {ts : List T} : seqO c n ts (.ct ρ) = .ct ρ := (rfl)
@[simp] theorem seqO_er {ts : List T} : seqO c n ts (.er e ρ) = .er e ρ := (rfl)
@[simp] theorem xs_nil : exs c n [] ρ = .nx ρ := by rw [exs]
@[simp] theorem xs_cons {t : T} {ts : List T} : exs c n (t :: ts) ρ = seqO c n ts (ex c n t ρ) := by rw [exs]; rfl
/-- the end of a suite that holds an error -/
def suX (i : Nat) (o : Out) : Out := match o with
  | .nx ρ' => .nx ((unX ρ').set i none)
  | .rt d => if noX d then .rt d else .st
  | _ => .st
def su0 (o : Out) : Out := match o with
  | .nx ρ' => .nx ρ'
  | .rt d => .rt d
  | _ => .st
@[simp] theorem suX_rt {i : Nat} {d : D} : suX i (.rt d) = if noX d then .rt d else .st := (rfl)
@[simp] theorem suX_nx {i : Nat} : suX i (.nx ρ) = .nx ((unX ρ).set i none) := (rfl)
@[simp] theorem su0_rt {d : D} : su0 (.rt d) = .rt d := (rfl)
@[simp] theorem su0_nx : su0 (.nx ρ) = .nx ρ := (rfl)
@[simp] theorem xh_nil : exh c n e [] ρ = .er e ρ := by rw [exh]
@[simp] theorem xh_as {b : Ec} {i : Nat} {ts : List T} {hs : List (Ec × Option Nat × List T)} : exh c n e ((b, some i, ts) :: hs) ρ = if c.ecs.contains e then (if e.sub b then suX i (exs { c with ce := some e } n ts (ρ.set i (some .exc))) else exh c n e hs ρ) else .st := by rw [exh]; rfl
@[simp] theorem xh_no {b : Ec} {ts : List T} {hs : List (Ec × Option Nat × List T)} : exh c n e ((b, none, ts) :: hs) ρ = if c.ecs.contains e then (if e.sub b then su0 (exs c n ts ρ) else exh c n e hs ρ) else .st := by rw [exh]; rfl
/-- what a def's end tells -/
def outR (o : Out) : Re D := match o with
  | .nx _ => .ok .non
  | .rt d => .ok d
  | .er e _ => .er e
  | _ => .st
@[simp] theorem outR_nx : outR (.nx ρ) = .ok .non := (rfl)
@[simp] theorem outR_rt {d : D} : outR (.rt d) = .ok d := (rfl)
@[simp] theorem outR_er : outR (.er e ρ) = .er e := (rfl)
theorem run_eq {k : Nat} {b : List T} {as : List D} : run c n k b as = outR (exs c n b (as.map some ++ List.replicate k none)) := rfl
end
end Ds

namespace Ds
open PySem PySem.Spec PyProof.Rows L2
/-! ## 24. Reckoning with values -/
@[simp] theorem frz_non : frz .non = .non := by rw [frz]
@[simp] theorem frz_bl {b : Bool} : frz (.bl b) = .bl b := by rw [frz]
@[simp] theorem frz_int {i : Int} : frz (.int i) = .int i := by rw [frz]
@[simp] theorem frz_str {x : Str} : frz (.str x) = .str x := by rw [frz]
@[simp] theorem frz_tup {ds : List D} : frz (.tup ds) = .tup ds := by rw [frz]
@[simp] theorem frz_ow {ds : List D} : frz (.lst .ow ds) = .lst .fr (frzs ds) := by rw [frz]
@[simp] theorem frz_fr {ds : List D} : frz (.lst .fr ds) = .lst .fr ds := by rw [frz]
@[simp] theorem frz_lk {ds : List D} : frz (.lst .lk ds) = .lst .lk ds := by rw [frz]
@[simp] theorem frzs_nil : frzs [] = [] := by rw [frzs]
@[simp] theorem frzs_cons {d : D} {ds : List D} : frzs (d :: ds) = frz d :: frzs ds := by rw [frzs]
@[simp] theorem frzs_ints {ns : List Int} : frzs (ns.map .int) = ns.map .int := frzs_of_F1 (by simp [isF1])
@[simp] theorem isF1_non : isF1 .non = true := (rfl)
@[simp] theorem isF1_bl {b : Bool} : isF1 (.bl b) = true := (rfl)
@[simp] theorem isF1_int {i : Int} : isF1 (.int i) = true := (rfl)
@[simp] theorem isF1_str {x : Str} : isF1 (.str x) = true := (rfl)
@[simp] theorem isF1_tup {ds : List D} : isF1 (.tup ds) = true := (rfl)
@[simp] theorem isF1_fr {ds : List D} : isF1 (.lst .fr ds) = true := (rfl)
@[simp] theorem isF1_lk {ds : List D} : isF1 (.lst .lk ds) = true := (rfl)
@[simp] theorem isF1_ow {ds : List D} : isF1 (.lst .ow ds) = false := (rfl)
@[simp] theorem kid_non : kid .non = .non := (rfl)
@[simp] theorem kid_bl {b : Bool} : kid (.bl b) = .bl b := (rfl)
@[simp] theorem kid_int {i : Int} : kid (.int i) = .int i := (rfl)
@[simp] theorem kid_str {x : Str} : kid (.str x) = .str x := (rfl)
@[simp] theorem kid_tup {ds : List D} : kid (.tup ds) = .tup ds := (rfl)
@[simp] theorem kid_ow {ds : List D} : kid (.lst .ow ds) = .lst .bo ds := (rfl)
@[simp] theorem kid_fr {ds : List D} : kid (.lst .fr ds) = .lst .fr ds := (rfl)
@[simp] theorem kid_lk {ds : List D} : kid (.lst .lk ds) = .lst .lk ds := (rfl)
@[simp] theorem kid_bo {ds : List D} : kid (.lst .bo ds) = .lst .bo ds := (rfl)
@[simp] theorem isBo_non : isBo .non = false := (rfl)
@[simp] theorem isBo_bl {b : Bool} : isBo (.bl b) = false := (rfl)
@[simp] theorem isBo_int {i : Int} : isBo (.int i) = false := (rfl)
@[simp] theorem isBo_str {x : Str} : isBo (.str x) = false := (rfl)
@[simp] theorem isBo_tup {ds : List D} : isBo (.tup ds) = false := (rfl)
@[simp] theorem isBo_ow {ds : List D} : isBo (.lst .ow ds) = false := (rfl)
@[simp] theorem isBo_fr {ds : List D} : isBo (.lst .fr ds) = false := (rfl)
@[simp] theorem isBo_lk {ds : List D} : isBo (.lst .lk ds) = false := (rfl)
@[simp] theorem isBo_bo {ds : List D} : isBo (.lst .bo ds) = true := (rfl)
@[simp] theorem argD_bo {ds : List D} : argD (.lst .bo ds) = .lst .fr (frzs ds) := (rfl)
@[simp] theorem argD_non : argD .non = .non := by simp [argD]
@[simp] theorem argD_bl {b : Bool} : argD (.bl b) = .bl b := by simp [argD]
@[simp] theorem argD_int {i : Int} : argD (.int i) = .int i := by simp [argD]
@[simp] theorem argD_str {x : Str} : argD (.str x) = .str x := by simp [argD]
@[simp] theorem argD_tup {ds : List D} : argD (.tup ds) = .tup ds := by simp [argD]
@[simp] theorem argD_ow {ds : List D} : argD (.lst .ow ds) = .lst .fr (frzs ds) := by simp [argD]
@[simp] theorem argD_fr {ds : List D} : argD (.lst .fr ds) = .lst .fr ds := by simp [argD]
@[simp] theorem argD_lk {ds : List D} : argD (.lst .lk ds) = .lst .lk ds := by simp [argD]
@[simp] theorem clean_non : clean .non = true := by rw [clean] <;> simp
@[simp] theorem clean_bl {b : Bool} : clean (.bl b) = true := by rw [clean] <;> simp
@[simp] theorem clean_int {i : Int} : clean (.int i) = true := by rw [clean] <;> simp
@[simp] theorem clean_str {x : Str} : clean (.str x) = true := by rw [clean] <;> simp
@[simp] theorem clean_tup {ds : List D} : clean (.tup ds) = cleans ds := by rw [clean]
@[simp] theorem clean_ow {ds : List D} : clean (.lst .ow ds) = cleans ds := by rw [clean]
@[simp] theorem cleans_nil : cleans [] = true := by rw [cleans]
@[simp] theorem cleans_cons {d : D} {ds : List D} : cleans (d :: ds) = (clean d && cleans ds) := by rw [cleans]
@[simp] theorem cleans_ints : ∀ {ns : List Int}, cleans (ns.map .int) = true
  | [] => by simp
  | n :: ns => by rw [List.map_cons, cleans_cons, cleans_ints]; simp
def dicOf (t : Bool) (o : Option (List D × List D)) : Re D := match o with
  | some p => .ok (.dct .ow t p.1 p.2)
  | none => .st
@[simp] theorem dicOf_some {t : Bool} {p : List D × List D} : dicOf t (some p) = .ok (.dct .ow t p.1 p.2) := (rfl)
@[simp] theorem frz_dow {t : Bool} {ks vs : List D} : frz (.dct .ow t ks vs) = .dct .fr t ks vs := by rw [frz]
@[simp] theorem frz_dfr {t : Bool} {ks vs : List D} : frz (.dct .fr t ks vs) = .dct .fr t ks vs := by rw [frz]
@[simp] theorem isF1_dow {t : Bool} {ks vs : List D} : isF1 (.dct .ow t ks vs) = false := (rfl)
@[simp] theorem isF1_dfr {t : Bool} {ks vs : List D} : isF1 (.dct .fr t ks vs) = true := (rfl)
@[simp] theorem kid_dow {t : Bool} {ks vs : List D} : kid (.dct .ow t ks vs) = .dct .bo t ks vs := (rfl)
@[simp] theorem kid_dfr {t : Bool} {ks vs : List D} : kid (.dct .fr t ks vs) = .dct .fr t ks vs := (rfl)
@[simp] theorem isBo_dow {t : Bool} {ks vs : List D} : isBo (.dct .ow t ks vs) = false := (rfl)
@[simp] theorem isBo_dfr {t : Bool} {ks vs : List D} : isBo (.dct .fr t ks vs) = false := (rfl)
@[simp] theorem isBo_dbo {t : Bool} {ks vs : List D} : isBo (.dct .bo t ks vs) = true := (rfl)
@[simp] theorem argD_dbo {t : Bool} {ks vs : List D} : argD (.dct .bo t ks vs) = .dct .fr t ks vs := (rfl)
@[simp] theorem argD_dow {t : Bool} {ks vs : List D} : argD (.dct .ow t ks vs) = .dct .fr t ks vs := by simp [argD]
@[simp] theorem argD_dfr {t : Bool} {ks vs : List D} : argD (.dct .fr t ks vs) = .dct .fr t ks vs := by simp [argD]
@[simp] theorem noX_dct {o : Ow} {t : Bool} {ks vs : List D} : noX (.dct o t ks vs) = (noXs ks && noXs vs) := by rw [noX]
@[simp] theorem dget_d {o : Ow} {t : Bool} {ks vs : List D} {y : D} : evDget (.dct o t ks vs) y = if keyOk t y then lift (getK ks vs y) else .st := (rfl)
@[simp] theorem din_d {g : Bool} {o : Ow} {t : Bool} {ks vs : List D} {y : D} : evDin g y (.dct o t ks vs) = if keyOk t y then .ok (.bl (if g then !(getK ks vs y).isSome else (getK ks vs y).isSome)) else .st := (rfl)
@[simp] theorem dgt_d {o : Ow} {t : Bool} {ks vs : List D} {y : D} : evDgt (.dct o t ks vs) y = if keyOk t y then .ok ((getK ks vs y).getD .non) else .st := (rfl)
@[simp] theorem dlen_d {o : Ow} {t : Bool} {ks vs : List D} : evDlen (.dct o t ks vs) = .ok (.int ks.length) := (rfl)
@[simp] theorem key_i {i : Int} : keyOk false (.int i) = true := (rfl)
@[simp] theorem key_s {x : Str} : keyOk false (.str x) = true := (rfl)
def tupK (o : Option (List NestedKey)) : Bool := match o with
  | some ks => decide ((NestedKey.tup ks).depth ≤ 8)
  | none => false
@[simp] theorem tupK_some {ks : List NestedKey} : tupK (some ks) = decide ((NestedKey.tup ks).depth ≤ 8) := (rfl)
@[simp] theorem key_t {ds : List D} : keyOk true (.tup ds) = tupK (toNs ds) := (rfl)
@[simp] theorem getK_nil {vs : List D} {x : D} : getK [] vs x = none := by cases vs <;> rfl
@[simp] theorem getK_cons {k v : D} {ks vs : List D} {x : D} : getK (k :: ks) (v :: vs) x = if deq k x then some v else getK ks vs x := (rfl)
@[simp] theorem putKs_nil {x : D} : putKs [] x = [x] := (rfl)
@[simp] theorem putKs_cons {k : D} {ks : List D} {x : D} : putKs (k :: ks) x = if deq k x then k :: ks else k :: putKs ks x := (rfl)
@[simp] theorem putVs_nil {vs : List D} {x y : D} : putVs [] vs x y = [y] := (rfl)
@[simp] theorem putVs_cons {k v : D} {ks vs : List D} {x y : D} : putVs (k :: ks) (v :: vs) x y = if deq k x then y :: vs else v :: putVs ks vs x y := (rfl)
@[simp] theorem mkDic_nil {t : Bool} {ks vs : List D} : mkDic t [] ks vs = some (ks, vs) := (rfl)
@[simp] theorem mkDic_cons {t : Bool} {k v : D} {r ks vs : List D} : mkDic t (k :: v :: r) ks vs = if keyOk t k && plainV v then mkDic t r (putKs ks k) (putVs ks vs k v) else none := (rfl)
@[simp] theorem evDic_eq {t : Bool} {ds : List D} : evDic t ds = if ds.length ≤ 30 then dicOf t (mkDic t ds [] []) else .st := by unfold evDic dicOf; cases mkDic t ds [] [] <;> rfl
@[simp] theorem plain_i {i : Int} : plainV (.int i) = true := (rfl)
@[simp] theorem plain_s {i : Str} : plainV (.str i) = true := (rfl)
@[simp] theorem plain_b {i : Bool} : plainV (.bl i) = true := (rfl)
@[simp] theorem plain_n : plainV .non = true := (rfl)
@[simp] theorem plain_t {ds : List D} : plainV (.tup ds) = true := (rfl)
@[simp] theorem flat_non : flat .non = true := (rfl)
@[simp] theorem flat_bl {b : Bool} : flat (.bl b) = true := (rfl)
@[simp] theorem flat_int {i : Int} : flat (.int i) = true := (rfl)
@[simp] theorem flat_str {x : Str} : flat (.str x) = true := (rfl)
@[simp] theorem flat_tup {ds : List D} : flat (.tup ds) = false := (rfl)
@[simp] theorem flat_lst {o : Ow} {ds : List D} : flat (.lst o ds) = false := (rfl)
@[simp] theorem lstOf_fr {ds : List D} : lstOf (.lst .fr ds) = some ds := (rfl)
@[simp] theorem lstOf_lk {ds : List D} : lstOf (.lst .lk ds) = some ds := (rfl)
@[simp] theorem lstOf_ow {ds : List D} : lstOf (.lst .ow ds) = some (frzs ds) := (rfl)
@[simp] theorem lstOf_bo {ds : List D} : lstOf (.lst .bo ds) = if ds.all isF1 then some ds else none := (rfl)
@[simp] theorem seqOf_tup {ds : List D} : seqOf (.tup ds) = some ds := (rfl)
@[simp] theorem seqOf_lst {o : Ow} {ds : List D} : seqOf (.lst o ds) = lstOf (.lst o ds) := (rfl)
@[simp] theorem strLit_tup {ds : List D} : strLit (.tup ds) = some ds := (rfl)
@[simp] theorem strLit_lst {o : Ow} {ds : List D} : strLit (.lst o ds) = lstOf (.lst o ds) := (rfl)
@[simp] theorem isW_false {d : D} : isW false d = false := (rfl)
@[simp] theorem isW_tup {st : Bool} {ds : List D} : isW st (.tup ds) = false := by cases st <;> rfl
@[simp] theorem isW_ow {st : Bool} {ds : List D} : isW st (.lst .ow ds) = false := by cases st <;> rfl
@[simp] theorem isW_fr {st : Bool} {ds : List D} : isW st (.lst .fr ds) = false := by cases st <;> rfl
@[simp] theorem isW_lk {st : Bool} {ds : List D} : isW st (.lst .lk ds) = false := by cases st <;> rfl
@[simp] theorem compOut_nb {d : D} (h : isBo d = false) : compOut d = .ok d := by unfold compOut; rw [h]; rfl
@[simp] theorem noX1_non : noX1 .non = true := (rfl)
@[simp] theorem noX1_bl {b : Bool} : noX1 (.bl b) = true := (rfl)
@[simp] theorem noX1_int {i : Int} : noX1 (.int i) = true := (rfl)
@[simp] theorem noX1_str {x : Str} : noX1 (.str x) = true := (rfl)
@[simp] theorem noX1_tup {ds : List D} : noX1 (.tup ds) = true := (rfl)
@[simp] theorem noX1_lst {o : Ow} {ds : List D} : noX1 (.lst o ds) = true := (rfl)
@[simp] theorem noX_bl {b : Bool} : noX (.bl b) = true := by rw [noX]
@[simp] theorem noX_int {b : Int} : noX (.int b) = true := by rw [noX]
@[simp] theorem noX_non : noX .non = true := by rw [noX]
@[simp] theorem noX_lst {o : Ow} {ds : List D} : noX (.lst o ds) = noXs ds := by rw [noX]
@[simp] theorem noX_tup {ds : List D} : noX (.tup ds) = noXs ds := by rw [noX]
@[simp] theorem noXs_nil : noXs [] = true := by rw [noXs]
@[simp] theorem noXs_cons {d : D} {ds : List D} : noXs (d :: ds) = (noX d && noXs ds) := by rw [noXs]

/-! ### operations -/
section
variable {i j : Int} {xs ys : List D}
@[simp] theorem bin_add : evBin .add (.int i) (.int j) = .ok (.int (i + j)) := (rfl)
@[simp] theorem bin_sub : evBin .sub (.int i) (.int j) = .ok (.int (i - j)) := (rfl)
@[simp] theorem bin_mul : evBin .mul (.int i) (.int j) = ok? (mulOk i j) (.int (i * j)) := (rfl)
theorem bin_div : evBin .div (.int i) (.int j) = if 0 < j then ok? (decide (j.natAbs.log2 < 9000)) (.int (i / j)) else ok? (decide (j ≠ 0) && decide (j.natAbs.log2 < 9000)) (.int (i.fdiv j)) := (rfl)
@[simp] theorem bin_mod : evBin .mod (.int i) (.int j) = if 0 < j then .ok (.int (i % j)) else ok? (decide (j ≠ 0)) (.int (i.fmod j)) := (rfl)
@[simp] theorem bin_pow : evBin .pow (.int i) (.int j) = ok? (decide (0 ≤ j) && decide (j ≤ 1000000) && decide (i.natAbs < 18446744073709551616)) (.int (i ^ j.toNat)) := (rfl)
@[simp] theorem bin_addt : evBin .add (.tup xs) (.tup ys) = ok? (decide (xs.length + ys.length ≤ sizeLine)) (.tup (xs ++ ys)) := (rfl)
theorem bin_addl {o o' : Ow} : evBin .add (.lst o xs) (.lst o' ys) = if o = .lk ∨ o' = .lk then .st else lift (lstOf (.lst o xs)) >>= fun us => lift (lstOf (.lst o' ys)) >>= fun ws => ok? (decide (us.length + ws.length ≤ sizeLine)) (.lst .ow (us ++ ws)) := rfl
theorem bin_mull {o : Ow} {k : Int} : evBin .mul (.lst o xs) (.int k) = if o = .lk then .st else lift (lstOf (.lst o xs)) >>= fun us => ok? (decide (-p63 ≤ k) && decide (k < p63) && decide (us.length * k.toNat ≤ sizeLine)) (.lst .ow (List.replicate k.toNat us).flatten) := rfl
@[simp] theorem bin_div_s (h : 0 < j) (h2 : j < 18446744073709551616) : evBin .div (.int i) (.int j) = .ok (.int (i / j)) := by
  rw [bin_div, if_pos h]
  have a : j.natAbs < 2 ^ 64 := by omega
  have b : j.natAbs.log2 < 9000 := by
    by_cases z : j.natAbs = 0
    · rw [z]; decide
    · exact Nat.lt_of_lt_of_le ((Nat.log2_lt z).mpr a) (by decide)
  rw [decide_eq_true b]; rfl
/-- a small factor -/
def sml (i : Int) : Bool := decide (-big64 < i) && decide (i < big64)
theorem mulOk_l (h : sml i = true) : mulOk i j = true := by unfold mulOk; unfold sml at h; rw [h]; rfl
theorem mulOk_r (h : sml j = true) : mulOk i j = true := by unfold mulOk; unfold sml at h; rw [h]; simp
/-- not beyond 400000 bits -/
def Sm (i : Int) : Prop := i.natAbs < 2 ^ 400000
theorem log2_of {n k : Nat} (h : n < 2 ^ k) (hk : 0 < k) : n.log2 < k := by
  by_cases z : n = 0
  · subst z; simpa using hk
  · exact (Nat.log2_lt z).mpr h
theorem mulOk_sm (h : Sm i) (h' : Sm j) : mulOk i j = true := by
  unfold mulOk
  have a := log2_of h (by decide)
  have b := log2_of h' (by decide)
  have : i.natAbs.log2 + j.natAbs.log2 < 1000000 := by omega
  rw [decide_eq_true this]
  simp
@[simp] theorem cmp_lt : evCmp .lt (.int i) (.int j) = .ok (.bl (decide (i < j))) := (rfl)
@[simp] theorem cmp_le : evCmp .le (.int i) (.int j) = .ok (.bl (decide (i ≤ j))) := (rfl)
@[simp] theorem cmp_gt : evCmp .gt (.int i) (.int j) = .ok (.bl (decide (j < i))) := (rfl)
@[simp] theorem cmp_ge : evCmp .ge (.int i) (.int j) = .ok (.bl (decide (j ≤ i))) := (rfl)
@[simp] theorem cmp_eq {a b : D} : evCmp .eq a b = ok? (dep 12 a && dep 12 b) (.bl (deq a b)) := by cases a <;> rfl
@[simp] theorem cmp_ne {a b : D} : evCmp .ne a b = ok? (dep 12 a && dep 12 b) (.bl (!deq a b)) := by cases a <;> rfl
@[simp] theorem cmp_in {a b : D} : evCmp .isin a b = evIn a b >>= fun k => .ok (.bl k) := by cases a <;> rfl
@[simp] theorem cmp_nin {a b : D} : evCmp .nin a b = evIn a b >>= fun k => .ok (.bl (!k)) := by cases a <;> rfl
@[simp] theorem cmp_is_non {a : D} : evCmp .is a .non = .ok (.bl (match a with | .non => true | _ => false)) := by cases a <;> rfl
@[simp] theorem cmp_nis_non {a : D} : evCmp .nis a .non = .ok (.bl (match a with | .non => false | _ => true)) := by cases a <;> rfl
@[simp] theorem cmp_is_bl {x y : Bool} : evCmp .is (.bl x) (.bl y) = .ok (.bl (decide (x = y))) := (rfl)
@[simp] theorem cmp_nis_bl {x y : Bool} : evCmp .nis (.bl x) (.bl y) = .ok (.bl (!decide (x = y))) := (rfl)
@[simp] theorem dep_non {n : Nat} : dep n .non = true := by cases n <;> simp [dep]
@[simp] theorem dep_bl {n : Nat} {b : Bool} : dep n (.bl b) = true := by cases n <;> simp [dep]
@[simp] theorem dep_int {n : Nat} : dep n (.int i) = true := by cases n <;> simp [dep]
@[simp] theorem dep_str {n : Nat} {x : Str} : dep n (.str x) = PyData.strOk x := by cases n <;> simp [dep]
@[simp] theorem dep_tup {n : Nat} : dep (n + 1) (.tup xs) = deps n xs := by simp [dep]
@[simp] theorem dep_lst {n : Nat} {o : Ow} : dep (n + 1) (.lst o xs) = deps n xs := by simp [dep]
@[simp] theorem deps_nil {n : Nat} : deps n [] = true := by simp [deps]
@[simp] theorem deps_cons {n : Nat} {d : D} : deps n (d :: xs) = (dep n d && deps n xs) := by simp [deps]
@[simp] theorem deps_ints {n : Nat} : ∀ {ns : List Int}, deps n (ns.map .int) = true
  | [] => by simp
  | m :: ns => by rw [List.map_cons, deps_cons, deps_ints]; simp
mutual
theorem self_py : ∀ d : D, PyData.eqv (toPy d) (toPy d) = true
  | .non => by simp [toPy, PyData.eqv]
  | .bl _ => by simp [toPy, PyData.eqv]
  | .int _ => by simp [toPy, PyData.eqv]
  | .str _ => by simp [toPy, PyData.eqv]
  | .tup ds => by simp [toPy, PyData.eqv, self_pys ds]
  | .lst _ ds => by simp [toPy, PyData.eqv, self_pys ds]
  | .exc => by simp [toPy, PyData.eqv]
  | .rg _ _ => by simp [toPy, PyData.eqv]
  | .dct _ _ _ _ => by simp [toPy, PyData.eqv]
  | .obj _ _ _ _ => by simp [toPy, PyData.eqv]
theorem self_pys : ∀ ds : List D, PyData.eqvAll (toPys ds) (toPys ds) = true
  | [] => by simp [toPys, PyData.eqvAll]
  | d :: ds => by simp [toPys, PyData.eqvAll, self_py d, self_pys ds]
end
@[simp] theorem deq_refl {d : D} : deq d d = true := self_py d
@[simp] theorem deq_ii : deq (.int i) (.int j) = decide (i = j) := by
  unfold deq; simp only [toPy, PyData.eqv]; by_cases h : i = j <;> simp [h]
@[simp] theorem deq_bb {a b : Bool} : deq (.bl a) (.bl b) = decide (a = b) := by
  unfold deq; simp only [toPy, PyData.eqv]; cases a <;> cases b <;> rfl
@[simp] theorem deq_bi {a : Bool} : deq (.bl a) (.int j) = decide ((if a then 1 else 0) = j) := by
  unfold deq; simp only [toPy, PyData.eqv]; by_cases h : (if a = true then (1 : Int) else 0) = j <;> simp [h]
@[simp] theorem deq_ib {a : Bool} : deq (.int i) (.bl a) = decide (i = (if a then 1 else 0)) := by
  unfold deq; simp only [toPy, PyData.eqv]; by_cases h : i = (if a = true then (1 : Int) else 0) <;> simp [h]
@[simp] theorem deq_ss {x y : Str} : deq (.str x) (.str y) = decide (x = y) := by
  unfold deq; simp only [toPy, PyData.eqv]; by_cases h : x = y <;> simp [h]
def deqs (xs ys : List D) : Bool := PyData.eqvAll (toPys xs) (toPys ys)
@[simp] theorem deq_tt : deq (.tup xs) (.tup ys) = deqs xs ys := by unfold deq deqs; simp only [toPy, PyData.eqv]
@[simp] theorem deq_ll {o o' : Ow} : deq (.lst o xs) (.lst o' ys) = deqs xs ys := by unfold deq deqs; simp only [toPy, PyData.eqv]
@[simp] theorem deqs_refl : deqs xs xs = true := by
  have := deq_refl (d := .tup xs)
  rwa [deq_tt] at this
@[simp] theorem deqs_nil : deqs [] [] = true := (rfl)
@[simp] theorem deqs_cons {d e : D} : deqs (d :: xs) (e :: ys) = (deq d e && deqs xs ys) := by unfold deqs deq; simp only [toPys, PyData.eqvAll]
@[simp] theorem deqs_nc {e : D} : deqs [] (e :: ys) = false := by unfold deqs; simp only [toPys, PyData.eqvAll]
@[simp] theorem deqs_cn {e : D} : deqs (e :: ys) [] = false := by unfold deqs; simp only [toPys, PyData.eqvAll]
@[simp] theorem deq_it : deq (.int i) (.tup ys) = false := by unfold deq; simp only [toPy, PyData.eqv]
@[simp] theorem deq_ti : deq (.tup ys) (.int i) = false := by unfold deq; simp only [toPy, PyData.eqv]
@[simp] theorem deq_il {o : Ow} : deq (.int i) (.lst o ys) = false := by unfold deq; simp only [toPy, PyData.eqv]
@[simp] theorem deq_li {o : Ow} : deq (.lst o ys) (.int i) = false := by unfold deq; simp only [toPy, PyData.eqv]
@[simp] theorem deq_tl {o : Ow} : deq (.tup xs) (.lst o ys) = false := by unfold deq; simp only [toPy, PyData.eqv]
@[simp] theorem deq_lt {o : Ow} : deq (.lst o xs) (.tup ys) = false := by unfold deq; simp only [toPy, PyData.eqv]
@[simp] theorem deq_nt : deq .non (.tup ys) = false := by unfold deq; simp only [toPy, PyData.eqv]
@[simp] theorem deq_tn : deq (.tup ys) .non = false := by unfold deq; simp only [toPy, PyData.eqv]
@[simp] theorem deq_ni : deq .non (.int j) = false := by unfold deq; simp only [toPy, PyData.eqv]
@[simp] theorem deq_in : deq (.int j) .non = false := by unfold deq; simp only [toPy, PyData.eqv]
@[simp] theorem deq_is {x : Str} : deq (.int j) (.str x) = false := by unfold deq; simp only [toPy, PyData.eqv]
@[simp] theorem deq_si {x : Str} : deq (.str x) (.int j) = false := by unfold deq; simp only [toPy, PyData.eqv]
/-- a flat thing among flat things -/
theorem in_tup {x : D} (h : flat x = true) (hs : ys.all flat = true) : evIn x (.tup ys) = .ok (ys.any fun z => deq z x) := by
  unfold evIn; simp [h, hs]
/-- a tuple in a tuple of tuples -/
theorem in_tupT {xs ys : List D} (h : (dep 12 (.tup xs) && deps 12 ys) = true) : evIn (.tup xs) (.tup ys) = .ok (ys.any fun z => deq z (.tup xs)) := by
  unfold evIn
  have e : seqOf (.tup ys) = some ys := rfl
  have f : flat (.tup xs) = false := rfl
  simp only [e, f, Bool.false_and, Bool.false_eq_true, if_false, h, ok?_true]
@[simp] theorem tru_bl {b : Bool} : evTru (.bl b) = .ok b := (rfl)
@[simp] theorem tru_int : evTru (.int i) = .ok (i != 0) := (rfl)
@[simp] theorem tru_tup : evTru (.tup xs) = .ok !xs.isEmpty := (rfl)
@[simp] theorem tru_lst {o : Ow} : evTru (.lst o xs) = .ok !xs.isEmpty := (rfl)
@[simp] theorem tru_non : evTru .non = .ok false := (rfl)
@[simp] theorem ix_tup {k : Int} : evIx (.tup xs) (.int k) = lift (atI xs k) := (rfl)
@[simp] theorem ix_bo {k : Int} : evIx (.lst .bo xs) (.int k) = (lift (atI xs k) >>= fun d => .ok (kid d)) := (rfl)
@[simp] theorem ix_fr {k : Int} : evIx (.lst .fr xs) (.int k) = (lift (atI xs k) >>= fun d => .ok (frz d)) := (rfl)
@[simp] theorem ix_lk {k : Int} : evIx (.lst .lk xs) (.int k) = (lift (atI xs k) >>= fun d => .ok (frz d)) := (rfl)
@[simp] theorem ix_ow {k : Int} : evIx (.lst .ow xs) (.int k) = (lift (atI xs k) >>= fun d => .ok (frz d)) := (rfl)
theorem atI_nat {α : Type} {l : List α} (n : Nat) : atI l (n : Int) = l[n]? := by
  unfold atI ixN
  rw [if_pos (Int.natCast_nonneg n)]
  by_cases h : n < l.length
  · rw [if_pos (by exact_mod_cast h)]; rfl
  · rw [if_neg (by omega)]; simp; omega
@[simp] theorem atI_0 {α : Type} {l : List α} : atI l 0 = l[0]? := atI_nat 0
@[simp] theorem atI_1 {α : Type} {l : List α} : atI l 1 = l[1]? := atI_nat 1
@[simp] theorem atI_2 {α : Type} {l : List α} : atI l 2 = l[2]? := atI_nat 2
@[simp] theorem atI_3 {α : Type} {l : List α} : atI l 3 = l[3]? := atI_nat 3
@[simp] theorem atI_4 {α : Type} {l : List α} : atI l 4 = l[4]? := atI_nat 4
@[simp] theorem atI_5 {α : Type} {l : List α} : atI l 5 = l[5]? := atI_nat 5
@[simp] theorem atI_6 {α : Type} {l : List α} : atI l 6 = l[6]? := atI_nat 6
@[simp] theorem atI_7 {α : Type} {l : List α} : atI l 7 = l[7]? := atI_nat 7
@[simp] theorem atI_8 {α : Type} {l : List α} : atI l 8 = l[8]? := atI_nat 8
@[simp] theorem atI_9 {α : Type} {l : List α} : atI l 9 = l[9]? := atI_nat 9
@[simp] theorem atI_10 {α : Type} {l : List α} : atI l 10 = l[10]? := atI_nat 10
@[simp] theorem atI_11 {α : Type} {l : List α} : atI l 11 = l[11]? := atI_nat 11
@[simp] theorem atI_12 {α : Type} {l : List α} : atI l 12 = l[12]? := atI_nat 12
@[simp] theorem atI_13 {α : Type} {l : List α} : atI l 13 = l[13]? := atI_nat 13
@[simp] theorem atI_14 {α : Type} {l : List α} : atI l 14 = l[14]? := atI_nat 14
@[simp] theorem atI_15 {α : Type} {l : List α} : atI l 15 = l[15]? := atI_nat 15
@[simp] theorem atI_16 {α : Type} {l : List α} : atI l 16 = l[16]? := atI_nat 16
@[simp] theorem atI_17 {α : Type} {l : List α} : atI l 17 = l[17]? := atI_nat 17
@[simp] theorem atI_18 {α : Type} {l : List α} : atI l 18 = l[18]? := atI_nat 18
@[simp] theorem atI_19 {α : Type} {l : List α} : atI l 19 = l[19]? := atI_nat 19
@[simp] theorem atI_20 {α : Type} {l : List α} : atI l 20 = l[20]? := atI_nat 20
@[simp] theorem atI_21 {α : Type} {l : List α} : atI l 21 = l[21]? := atI_nat 21
@[simp] theorem atI_22 {α : Type} {l : List α} : atI l 22 = l[22]? := atI_nat 22
@[simp] theorem atI_23 {α : Type} {l : List α} : atI l 23 = l[23]? := atI_nat 23
@[simp] theorem atI_24 {α : Type} {l : List α} : atI l 24 = l[24]? := atI_nat 24
@[simp] theorem atI_25 {α : Type} {l : List α} : atI l 25 = l[25]? := atI_nat 25
@[simp] theorem atI_26 {α : Type} {l : List α} : atI l 26 = l[26]? := atI_nat 26
@[simp] theorem atI_27 {α : Type} {l : List α} : atI l 27 = l[27]? := atI_nat 27
@[simp] theorem atI_28 {α : Type} {l : List α} : atI l 28 = l[28]? := atI_nat 28
@[simp] theorem atI_29 {α : Type} {l : List α} : atI l 29 = l[29]? := atI_nat 29
@[simp] theorem atI_30 {α : Type} {l : List α} : atI l 30 = l[30]? := atI_nat 30
@[simp] theorem atI_31 {α : Type} {l : List α} : atI l 31 = l[31]? := atI_nat 31
@[simp] theorem atI_32 {α : Type} {l : List α} : atI l 32 = l[32]? := atI_nat 32
@[simp] theorem atI_33 {α : Type} {l : List α} : atI l 33 = l[33]? := atI_nat 33
@[simp] theorem atI_34 {α : Type} {l : List α} : atI l 34 = l[34]? := atI_nat 34
@[simp] theorem atI_35 {α : Type} {l : List α} : atI l 35 = l[35]? := atI_nat 35
@[simp] theorem atI_36 {α : Type} {l : List α} : atI l 36 = l[36]? := atI_nat 36
@[simp] theorem atI_37 {α : Type} {l : List α} : atI l 37 = l[37]? := atI_nat 37
@[simp] theorem atI_38 {α : Type} {l : List α} : atI l 38 = l[38]? := atI_nat 38
@[simp] theorem atI_39 {α : Type} {l : List α} : atI l 39 = l[39]? := atI_nat 39
@[simp] theorem atI_40 {α : Type} {l : List α} : atI l 40 = l[40]? := atI_nat 40
@[simp] theorem atI_41 {α : Type} {l : List α} : atI l 41 = l[41]? := atI_nat 41
@[simp] theorem atI_42 {α : Type} {l : List α} : atI l 42 = l[42]? := atI_nat 42
@[simp] theorem atI_43 {α : Type} {l : List α} : atI l 43 = l[43]? := atI_nat 43
@[simp] theorem atI_44 {α : Type} {l : List α} : atI l 44 = l[44]? := atI_nat 44
@[simp] theorem atI_45 {α : Type} {l : List α} : atI l 45 = l[45]? := atI_nat 45
@[simp] theorem atI_46 {α : Type} {l : List α} : atI l 46 = l[46]? := atI_nat 46
@[simp] theorem atI_47 {α : Type} {l : List α} : atI l 47 = l[47]? := atI_nat 47
@[simp] theorem atI_48 {α : Type} {l : List α} : atI l 48 = l[48]? := atI_nat 48
@[simp] theorem atI_49 {α : Type} {l : List α} : atI l 49 = l[49]? := atI_nat 49
@[simp] theorem atI_50 {α : Type} {l : List α} : atI l 50 = l[50]? := atI_nat 50
@[simp] theorem atI_51 {α : Type} {l : List α} : atI l 51 = l[51]? := atI_nat 51
@[simp] theorem atI_52 {α : Type} {l : List α} : atI l 52 = l[52]? := atI_nat 52
@[simp] theorem atI_53 {α : Type} {l : List α} : atI l 53 = l[53]? := atI_nat 53
@[simp] theorem atI_54 {α : Type} {l : List α} : atI l 54 = l[54]? := atI_nat 54
@[simp] theorem atI_55 {α : Type} {l : List α} : atI l 55 = l[55]? := atI_nat 55
@[simp] theorem atI_56 {α : Type} {l : List α} : atI l 56 = l[56]? := atI_nat 56
@[simp] theorem atI_57 {α : Type} {l : List α} : atI l 57 = l[57]? := atI_nat 57
@[simp] theorem atI_58 {α : Type} {l : List α} : atI l 58 = l[58]? := atI_nat 58
@[simp] theorem atI_59 {α : Type} {l : List α} : atI l 59 = l[59]? := atI_nat 59
@[simp] theorem atI_60 {α : Type} {l : List α} : atI l 60 = l[60]? := atI_nat 60
@[simp] theorem atI_61 {α : Type} {l : List α} : atI l 61 = l[61]? := atI_nat 61
@[simp] theorem atI_62 {α : Type} {l : List α} : atI l 62 = l[62]? := atI_nat 62
@[simp] theorem atI_63 {α : Type} {l : List α} : atI l 63 = l[63]? := atI_nat 63
@[simp] theorem sl_tup {lo hi : Option Int} : evSl (.tup xs) lo hi = .ok (.tup (cutD xs lo hi)) := (rfl)
@[simp] theorem sl_lst {o : Ow} {lo hi : Option Int} : evSl (.lst o xs) lo hi = (lift (lstOf (.lst o xs)) >>= fun us => .ok (.lst .ow (cutD us lo hi))) := (rfl)
@[simp] theorem b_len_t : evBlt .len [.tup xs] = .ok (.int xs.length) := (rfl)
@[simp] theorem b_len_l {o : Ow} : evBlt .len [.lst o xs] = .ok (.int xs.length) := (rfl)
@[simp] theorem b_sum {o : Ow} : evBlt .sum [.lst o xs] = (lift (lstOf (.lst o xs)) >>= fun us => lift (intsOf us) >>= fun ns => .ok (.int ns.sum)) := (rfl)
@[simp] theorem b_all {o : Ow} : evBlt .all [.lst o xs] = (lift (lstOf (.lst o xs)) >>= fun us => lift (blsOf us) >>= fun ns => .ok (.bl (ns.all id))) := (rfl)
@[simp] theorem b_any {o : Ow} : evBlt .any [.lst o xs] = (lift (lstOf (.lst o xs)) >>= fun us => lift (blsOf us) >>= fun ns => .ok (.bl (ns.any id))) := (rfl)
@[simp] theorem b_tuple_t : evBlt .tuple [.tup xs] = .ok (.tup xs) := (rfl)
@[simp] theorem b_tuple_l {o : Ow} : evBlt .tuple [.lst o xs] = (lift (lstOf (.lst o xs)) >>= fun us => .ok (.tup us)) := (rfl)
@[simp] theorem b_list_s {x : Str} : evBlt .list [.str x] = ok? (decide (x.length ≤ sizeLine)) (.lst .ow (chars x)) := (rfl)
@[simp] theorem b_list_t : evBlt .list [.tup xs] = .ok (.lst .ow xs) := (rfl)
@[simp] theorem b_list_l {o : Ow} : evBlt .list [.lst o xs] = (lift (lstOf (.lst o xs)) >>= fun us => .ok (.lst .ow us)) := (rfl)
@[simp] theorem b_int_i : evBlt .int [.int i] = .ok (.int i) := (rfl)
@[simp] theorem b_int_b {k : Bool} : evBlt .int [.bl k] = .ok (.int (if k then 1 else 0)) := (rfl)
@[simp] theorem b_abs : evBlt .abs [.int i] = .ok (.int (if i < 0 then -i else i)) := (rfl)
@[simp] theorem b_min : evBlt .min [.int i, .int j] = .ok (.int (if j < i then j else i)) := (rfl)
@[simp] theorem b_max : evBlt .max [.int i, .int j] = .ok (.int (if j > i then j else i)) := (rfl)
@[simp] theorem b_gcd : evBlt .gcd [.int i, .int j] = .ok (.int (Nat.gcd i.natAbs j.natAbs : Nat)) := (rfl)
@[simp] theorem b_sorted {o : Ow} : evBlt .sorted [.lst o xs] = (lift (lstOf (.lst o xs)) >>= fun us => srt1 us (intsOf us)) := (rfl)
@[simp] theorem srt1_i {ns : List Int} : srt1 xs (some ns) = .ok (.lst .ow ((sortI ns).map .int)) := (rfl)
theorem srt1_n : srt1 xs none = if srtOk xs = true then .ok (.lst .ow (sortD xs)) else .st := (rfl)
@[simp] theorem b_inst {t : Ty} {d : D} : evBlt (.inst t) [d] = ok? (noX1 d) (.bl (tyOf d t)) := (rfl)
@[simp] theorem ints_nil : intsOf [] = some [] := (rfl)
@[simp] theorem ints_cons : intsOf (.int i :: xs) = (intsOf xs).map (i :: ·) := (rfl)
@[simp] theorem ints_map : ∀ {ns : List Int}, intsOf (ns.map .int) = some ns
  | [] => rfl
  | n :: ns => by rw [List.map_cons, ints_cons, ints_map]; rfl
@[simp] theorem bls_nil : blsOf [] = some [] := (rfl)
@[simp] theorem bls_cons {b : Bool} : blsOf (.bl b :: xs) = (blsOf xs).map (b :: ·) := (rfl)
@[simp] theorem bls_map : ∀ {ns : List Bool}, blsOf (ns.map .bl) = some ns
  | [] => rfl
  | n :: ns => by rw [List.map_cons, bls_cons, bls_map]; rfl
@[simp] theorem ty_tt : tyOf (.tup xs) .tuple = true := (rfl)
@[simp] theorem ty_t {t : Ty} (h : t ≠ .tuple) : tyOf (.tup xs) t = false := by cases t <;> first | rfl | exact absurd rfl h
@[simp] theorem ty_ll {o : Ow} : tyOf (.lst o xs) .list = true := (rfl)
@[simp] theorem ty_l {o : Ow} {t : Ty} (h : t ≠ .list) : tyOf (.lst o xs) t = false := by cases t <;> first | rfl | exact absurd rfl h
@[simp] theorem ty_ii : tyOf (.int i) .int = true := (rfl)
@[simp] theorem ty_i {t : Ty} (h : t ≠ .int) : tyOf (.int i) t = false := by cases t <;> first | rfl | exact absurd rfl h
@[simp] theorem ty_bi {b : Bool} : tyOf (.bl b) .int = true := (rfl)
@[simp] theorem ty_bb {b : Bool} : tyOf (.bl b) .bool = true := (rfl)
@[simp] theorem ty_bt {b : Bool} : tyOf (.bl b) .tuple = false := (rfl)
@[simp] theorem ty_bl {b : Bool} : tyOf (.bl b) .list = false := (rfl)
@[simp] theorem ty_bs {b : Bool} : tyOf (.bl b) .str = false := (rfl)
@[simp] theorem ty_n {t : Ty} : tyOf .non t = false := by cases t <;> rfl
@[simp] theorem ty_ss {x : Str} : tyOf (.str x) .str = true := (rfl)
@[simp] theorem ty_s {x : Str} {t : Ty} (h : t ≠ .str) : tyOf (.str x) t = false := by cases t <;> first | rfl | exact absurd rfl h
@[simp] theorem unp_t : unpD (.tup xs) = some xs := (rfl)
@[simp] theorem unp_l {o : Ow} : unpD (.lst o xs) = if xs.all isF1 then some xs else none := (rfl)
@[simp] theorem setG_nm {k : Nat} {d : D} {ρ : Rho} : setG (.nm k) d ρ = some (ρ.set k (some d)) := by rw [setG]
def thenG (gs : List G) (o : Option (List D)) (ρ : Rho) : Option Rho := match o with
  | some ds => setGs gs ds ρ
  | none => none
@[simp] theorem thenG_some {gs : List G} {ds : List D} {ρ : Rho} : thenG gs (some ds) ρ = setGs gs ds ρ := (rfl)
@[simp] theorem setG_tup {gs : List G} {d : D} {ρ : Rho} : setG (.tup gs) d ρ = thenG gs (unpD d) ρ := by rw [setG]; rfl
@[simp] theorem setGs_nil {ρ : Rho} : setGs [] [] ρ = some ρ := by rw [setGs]
def nextG (gs : List G) (ds : List D) (o : Option Rho) : Option Rho := match o with
  | some ρ => setGs gs ds ρ
  | none => none
@[simp] theorem nextG_some {gs : List G} {ds : List D} {ρ : Rho} : nextG gs ds (some ρ) = setGs gs ds ρ := (rfl)
@[simp] theorem setGs_cons {g : G} {gs : List G} {d : D} {ds : List D} {ρ : Rho} : setGs (g :: gs) (d :: ds) ρ = nextG gs ds (setG g d ρ) := by rw [setGs]; rfl
@[simp] theorem setAll_nil {ρ : Rho} : setAll [] [] ρ = some ρ := (rfl)
@[simp] theorem setAll_cons {k : Nat} {is : List Nat} {d : D} {ds : List D} {ρ : Rho} : setAll (k :: is) (d :: ds) ρ = if isBo d then none else setAll is ds (ρ.set k (some d)) := (rfl)
@[simp] theorem wipe_nil {ρ : Rho} : wipeR ρ [] = ρ := (rfl)
@[simp] theorem wipe_cons {ρ : Rho} {v : Nat} {vs : List Nat} : wipeR ρ (v :: vs) = (wipeR ρ vs).set v none := (rfl)
@[simp] theorem frzR_nil {ρ : Rho} : frzR ρ [] = ρ := (rfl)
def frz1R (o : Option (Option D)) (x : Nat) (ρ : Rho) : Rho := match o with
  | some (some d) => ρ.set x (some (frz d))
  | _ => ρ
@[simp] theorem frz1R_some {d : D} {x : Nat} {ρ : Rho} : frz1R (some (some d)) x ρ = ρ.set x (some (frz d)) := (rfl)
@[simp] theorem frz1R_none {x : Nat} {ρ : Rho} : frz1R (some none) x ρ = ρ := (rfl)
@[simp] theorem frzR_cons {ρ : Rho} {x : Nat} {xs : List Nat} : frzR ρ (x :: xs) = frz1R (frzR ρ xs)[x]? x (frzR ρ xs) := (rfl)
@[simp] theorem map_nil {α β : Type} {f : α → Re β} : mapRe f [] = .ok [] := (rfl)
@[simp] theorem map_cons {α β : Type} {f : α → Re β} {a : α} {as : List α} : mapRe f (a :: as) = (f a >>= fun b => mapRe f as >>= fun bs => .ok (b :: bs)) := (rfl)
@[simp] theorem noEr_is {α : Type} {a : α} : noEr (.ok a) = .ok a := (rfl)
end
@[simp] theorem putG_nb {g : G} {d : D} {ρ : Rho} (h : isBo d = false) : putG g d ρ = nxO (setG g d ρ) := by unfold putG; rw [h]; rfl
@[simp] theorem mkTup_eq {ds : List D} : mkTup ds = if ds.any isBo then .st else ok? (decide (ds.length ≤ sizeLine)) (.tup (frzs ds)) := (rfl)
@[simp] theorem mkLst_eq {ds : List D} : mkLst ds = if ds.any isBo then .st else ok? (decide (ds.length ≤ sizeLine)) (.lst .ow ds) := (rfl)
@[simp] theorem setI_int {ds : List D} {k : Int} {d : D} : setI ds (.int k) d = (ixN ds.length k).map fun j => ds.set j d := (rfl)
@[simp] theorem atII_int {ds : List D} {k : Int} : atII ds (.int k) = if 0 ≤ k ∧ k < p63 then atI ds k else none := (rfl)
theorem range_lit {lo : Int} {n : Nat} : rangeD lo (lo + n) = (List.range n).map fun (k : Nat) => .int (lo + k) := by
  unfold rangeD; congr 2; omega
theorem size_small {n : Nat} (h : n ≤ 16777216) : n ≤ sizeLine := by rw [sizeLine_eq]; exact h
@[simp] theorem dec_size {n : Nat} : decide (n ≤ sizeLine) = decide (n ≤ 16777216) := by rw [sizeLine_eq]
@[simp] theorem lt_size {n : Nat} : (n < sizeLine) = (n < 16777216) := by rw [sizeLine_eq]
@[simp] theorem le_size {n : Nat} : (n ≤ sizeLine) = (n ≤ 16777216) := by rw [sizeLine_eq]
@[simp] theorem rng_0 : rngD (.int 0) (.int 0) = .ok [] := (rfl)
@[simp] theorem rng_1 : rngD (.int 0) (.int 1) = .ok [.int 0] := (rfl)
@[simp] theorem rng_2 : rngD (.int 0) (.int 2) = .ok [.int 0, .int 1] := (rfl)
@[simp] theorem rng_3 : rngD (.int 0) (.int 3) = .ok [.int 0, .int 1, .int 2] := (rfl)
@[simp] theorem rng_4 : rngD (.int 0) (.int 4) = .ok [.int 0, .int 1, .int 2, .int 3] := (rfl)
@[simp] theorem rng_5 : rngD (.int 0) (.int 5) = .ok [.int 0, .int 1, .int 2, .int 3, .int 4] := (rfl)
@[simp] theorem rng_6 : rngD (.int 0) (.int 6) = .ok [.int 0, .int 1, .int 2, .int 3, .int 4, .int 5] := (rfl)
@[simp] theorem rng_7 : rngD (.int 0) (.int 7) = .ok [.int 0, .int 1, .int 2, .int 3, .int 4, .int 5, .int 6] := (rfl)
@[simp] theorem rng_8 : rngD (.int 0) (.int 8) = .ok [.int 0, .int 1, .int 2, .int 3, .int 4, .int 5, .int 6, .int 7] := (rfl)
@[simp] theorem rng_9 : rngD (.int 0) (.int 9) = .ok [.int 0, .int 1, .int 2, .int 3, .int 4, .int 5, .int 6, .int 7, .int 8] := (rfl)
@[simp] theorem rng_10 : rngD (.int 0) (.int 10) = .ok [.int 0, .int 1, .int 2, .int 3, .int 4, .int 5, .int 6, .int 7, .int 8, .int 9] := (rfl)
@[simp] theorem rng_11 : rngD (.int 0) (.int 11) = .ok [.int 0, .int 1, .int 2, .int 3, .int 4, .int 5, .int 6, .int 7, .int 8, .int 9, .int 10] := (rfl)
@[simp] theorem rng_12 : rngD (.int 0) (.int 12) = .ok [.int 0, .int 1, .int 2, .int 3, .int 4, .int 5, .int 6, .int 7, .int 8, .int 9, .int 10, .int 11] := (rfl)
@[simp] theorem rng_13 : rngD (.int 0) (.int 13) = .ok [.int 0, .int 1, .int 2, .int 3, .int 4, .int 5, .int 6, .int 7, .int 8, .int 9, .int 10, .int 11, .int 12] := (rfl)
@[simp] theorem rng_14 : rngD (.int 0) (.int 14) = .ok [.int 0, .int 1, .int 2, .int 3, .int 4, .int 5, .int 6, .int 7, .int 8, .int 9, .int 10, .int 11, .int 12, .int 13] := (rfl)
@[simp] theorem rng_15 : rngD (.int 0) (.int 15) = .ok [.int 0, .int 1, .int 2, .int 3, .int 4, .int 5, .int 6, .int 7, .int 8, .int 9, .int 10, .int 11, .int 12, .int 13, .int 14] := (rfl)
@[simp] theorem rng_16 : rngD (.int 0) (.int 16) = .ok [.int 0, .int 1, .int 2, .int 3, .int 4, .int 5, .int 6, .int 7, .int 8, .int 9, .int 10, .int 11, .int 12, .int 13, .int 14, .int 15] := (rfl)
/-- a for whose turns keep something -/
theorem loop_ok {c : Cn} {n : Nat} {g : G} {b : List T} (I : Nat → Rho → Prop) : ∀ {ds : List D} {ρ : Rho} (k : Nat), I k ρ → (∀ i d ρ, ds[i]? = some d → I (k + i) ρ → ∃ ρ', (bodyO c n b (setG g d ρ) = .nx ρ' ∨ bodyO c n b (setG g d ρ) = .ct ρ') ∧ I (k + i + 1) ρ') → ∃ ρ', loopT c n g b ρ ds = .nx ρ' ∧ I (k + ds.length) ρ'
  | [], ρ, k, h, _ => ⟨ρ, by rw [loopT_nil], h⟩
  | d :: ds, ρ, k, h, st => by
    obtain ⟨ρ1, e, h1⟩ := st 0 d ρ rfl h
    obtain ⟨ρ2, e2, h2⟩ := loop_ok I (ds := ds) (ρ := ρ1) (k + 1) h1 fun i d' ρ' hi hI => by
      have := st (i + 1) d' ρ' (by simpa using hi) (by rw [Nat.add_assoc, Nat.add_comm 1 i] at hI; exact hI)
      rw [Nat.add_assoc k 1 i, Nat.add_comm 1 i]
      exact this
    refine ⟨ρ2, ?_, ?_⟩
    · rw [loopT_cons]
      rcases e with e | e <;> rw [e]
      · rw [nextT_nx]; exact e2
      · rw [nextT_ct]; exact e2
    · rw [List.length_cons, Nat.add_comm ds.length 1, ← Nat.add_assoc]; exact h2
theorem seq_of {c : Cn} {n : Nat} {t : T} {ts : List T} {ρ ρ' : Rho} (h : ex c n t ρ = .nx ρ') : exs c n (t :: ts) ρ = exs c n ts ρ' := by rw [xs_cons, h, seqO_nx]
end Ds

namespace Ds
open PySem L2
/-! ## 25. Sizes -/
def Bd (k : Nat) (i : Int) : Prop := i.natAbs < 2 ^ k
theorem bd_mono {j k : Nat} {i : Int} (h : Bd j i) (l : j ≤ k) : Bd k i := Nat.lt_of_lt_of_le h (Nat.pow_le_pow_right (by decide) l)
theorem bd_mul {j k : Nat} {a b : Int} (h : Bd j a) (h' : Bd k b) : Bd (j + k) (a * b) := by
  unfold Bd at *
  rw [Int.natAbs_mul, Nat.pow_add]
  have := Nat.mul_lt_mul'' h h'
  exact this
theorem bd_add {k : Nat} {a b : Int} (h : Bd k a) (h' : Bd k b) : Bd (k + 1) (a + b) := by
  unfold Bd at *
  rw [Nat.pow_succ]
  omega
theorem bd_sub {k : Nat} {a b : Int} (h : Bd k a) (h' : Bd k b) : Bd (k + 1) (a - b) := by
  unfold Bd at *
  rw [Nat.pow_succ]
  omega
theorem bd_neg {k : Nat} {a : Int} (h : Bd k a) : Bd k (-a) := by
  unfold Bd at *
  omega
theorem bd_lit {k : Nat} {a : Int} (h : a.natAbs < 2 ^ k) : Bd k a := h
theorem mulOk_bd {j k : Nat} {a b : Int} (h : Bd j a) (h' : Bd k b) (hj : j ≤ 499999) (hk : k ≤ 499999) : mulOk a b = true := by
  unfold mulOk
  have x := log2_of (Nat.lt_of_lt_of_le h (Nat.pow_le_pow_right (by decide) (Nat.le_succ_of_le hj))) (by decide)
  have y := log2_of (Nat.lt_of_lt_of_le h' (Nat.pow_le_pow_right (by decide) (Nat.le_succ_of_le hk))) (by decide)
  have : a.natAbs.log2 + b.natAbs.log2 < 1000000 := by omega
  rw [decide_eq_true this]
  simp
/-- an entry of a table; a sum of a few products of such -/
def Sq (i : Int) : Prop := Bd 10000 i
theorem mulOk_q {a b : Int} (h : Sq a) (h' : Sq b) : mulOk a b = true := mulOk_bd h h' (by decide) (by decide)
theorem mulOk_m {a x y z w : Int} (h : Sq a) (hx : Sq x) (hy : Sq y) (hz : Sq z) (hw : Sq w) : mulOk a (x * y - z * w) = true := mulOk_bd h (bd_sub (bd_mul hx hy) (bd_mul hz hw)) (by decide) (by decide)
theorem mulOk_0l {a : Int} : mulOk 0 a = true := mulOk_l (by decide)
theorem mulOk_0r {a : Int} : mulOk a 0 = true := mulOk_r (by decide)
theorem sq_lit {a : Int} (h : a.natAbs < 1267650600228229401496703205376) : Sq a := bd_mono (j := 100) (Nat.lt_of_lt_of_le h (by decide)) (by decide)
end Ds

namespace Ds
open PySem L2
/-! ## 26. Reckoning: more statements, loops -/
section
variable {c : Cn} {n : Nat} {ρ : Rho} {e : Ec}
@[simp] theorem aug_add {a b : Int} : evAug .add a b = .ok (.int (a + b)) := (rfl)
@[simp] theorem aug_sub {a b : Int} : evAug .sub a b = .ok (.int (a - b)) := (rfl)
@[simp] theorem aug_mul {a b : Int} : evAug .mul a b = ok? (sml a || sml b) (.int (a * b)) := (rfl)
@[simp] theorem aug_mod {a b : Int} : evAug .mod a b = ok? (decide (0 < b)) (.int (a % b)) := (rfl)
@[simp] theorem aug_div {a b : Int} : evAug .div a b = ok? (decide (0 < b) && decide (b < 1073741824)) (.int (a / b)) := (rfl)
def augi3 (xs : List D) (k : D) (x : Nat) (ρ : Rho) (r : Re D) : Out := Out.of r ρ fun d' => putL x ρ (setI xs k d')
@[simp] theorem augi3_ok {xs : List D} {k d : D} {x : Nat} : augi3 xs k x ρ (.ok d) = putL x ρ (setI xs k d) := (rfl)
def augi2 (xs : List D) (k : D) (r : Re D) (op : Bop) (x : Nat) (ρ : Rho) (o : Option D) : Out := match o with
  | some (.int a) => Out.of r ρ fun d => (match d with
    | .int b => augi3 xs k x ρ (evAug op a b)
    | _ => .st)
  | _ => .st
@[simp] theorem augi2_int {xs : List D} {k : D} {op : Bop} {x : Nat} {a b : Int} : augi2 xs k (.ok (.int b)) op x ρ (some (.int a)) = augi3 xs k x ρ (evAug op a b) := (rfl)
def augiD (o : Option (Option D)) (i r : Re D) (op : Bop) (x : Nat) (ρ : Rho) : Out := match o with
  | some (some (.lst .ow xs)) => Out.of i ρ fun k => augi2 xs k r op x ρ (atII xs k)
  | _ => .st
@[simp] theorem augiD_ok {xs : List D} {k : D} {r : Re D} {op : Bop} {x : Nat} : augiD (some (some (.lst .ow xs))) (.ok k) r op x ρ = augi2 xs k r op x ρ (atII xs k) := (rfl)
@[simp] theorem x_augi {x : Nat} {i : S} {op : Bop} {s : S} : ex c n (.augi x i op s) ρ = augiD ρ[x]? (ev c i ρ) (ev c s ρ) op x ρ := by
  rw [ex]; unfold augiD augi2 augi3; simp only [of_lift_L] <;> rfl
def pop2 (i x : Nat) (xs : List D) (ρ : Rho) (o : Option D) : Out := match o with
  | some d => if isF1 d && decide (i ≠ x) then .nx ((ρ.set x (some (.lst .ow xs.dropLast))).set i (some d)) else .st
  | none => .st
@[simp] theorem pop2_some {i x : Nat} {xs : List D} {d : D} : pop2 i x xs ρ (some d) = if isF1 d && decide (i ≠ x) then .nx ((ρ.set x (some (.lst .ow xs.dropLast))).set i (some d)) else .st := (rfl)
def popD (i x : Nat) (ρ : Rho) (o : Option (Option D)) : Out := match o with
  | some (some (.lst .ow xs)) => pop2 i x xs ρ xs[xs.length - 1]?
  | _ => .st
@[simp] theorem popD_ow {i x : Nat} {xs : List D} : popD i x ρ (some (some (.lst .ow xs))) = pop2 i x xs ρ xs[xs.length - 1]? := (rfl)
@[simp] theorem x_apop {i x : Nat} : ex c n (.apop i x) ρ = popD i x ρ ρ[x]? := by rw [ex]; rfl
def augpop2 (op : Bop) (i x : Nat) (ρ : Rho) (xs : List D) (a : Int) (o : Option D) : Out := match o with
  | some (.int b) => if i ≠ x then Out.of (evAug op a b) ρ fun d' => .nx ((ρ.set x (some (.lst .ow xs.dropLast))).set i (some d')) else .st
  | _ => .st
@[simp] theorem augpop2_int {op : Bop} {i x : Nat} {xs : List D} {a b : Int} : augpop2 op i x ρ xs a (some (.int b)) = if i ≠ x then Out.of (evAug op a b) ρ fun d' => .nx ((ρ.set x (some (.lst .ow xs.dropLast))).set i (some d')) else .st := (rfl)
def augpop1 (op : Bop) (i x : Nat) (j : Int) (ρ : Rho) (xs : List D) (a : Int) (o : Option D) : Out := match o with
  | some (.tup ys) => augpop2 op i x ρ xs a (atI ys j)
  | _ => .st
@[simp] theorem augpop1_tup {op : Bop} {i x : Nat} {j : Int} {xs ys : List D} {a : Int} : augpop1 op i x j ρ xs a (some (.tup ys)) = augpop2 op i x ρ xs a (atI ys j) := (rfl)
def augpop0 (op : Bop) (i x : Nat) (j : Int) (ρ : Rho) (u w : Option (Option D)) : Out := match u, w with
  | some (some (.int a)), some (some (.lst .ow xs)) => augpop1 op i x j ρ xs a xs[xs.length - 1]?
  | _, _ => .st
@[simp] theorem augpop0_ok {op : Bop} {i x : Nat} {j : Int} {xs : List D} {a : Int} : augpop0 op i x j ρ (some (some (.int a))) (some (some (.lst .ow xs))) = augpop1 op i x j ρ xs a xs[xs.length - 1]? := (rfl)
@[simp] theorem x_augpop {op : Bop} {i x : Nat} {j : Int} : ex c n (.augpop i op x j) ρ = augpop0 op i x j ρ ρ[i]? ρ[x]? := by
  rw [ex]; rfl
def dput2 (ρ : Rho) (x : Nat) (t : Bool) (ks vs : List D) (d k : D) : Out := if keyOk t k && decide (ks.length < sizeLine) then .nx (ρ.set x (some (.dct .ow t (putKs ks k) (putVs ks vs k d)))) else .st
@[simp] theorem dput2_eq {x : Nat} {t : Bool} {ks vs : List D} {d k : D} : dput2 ρ x t ks vs d k = if keyOk t k && decide (ks.length < sizeLine) then .nx (ρ.set x (some (.dct .ow t (putKs ks k) (putVs ks vs k d)))) else .st := (rfl)
def dput1 (ρ : Rho) (x : Nat) (r : Re D) (o : Option (Option D)) (d : D) : Out := match o with
  | some (some (.dct .ow t ks vs)) => Out.of r ρ fun k => dput2 ρ x t ks vs d k
  | _ => .st
@[simp] theorem dput1_ow {x : Nat} {k d : D} {t : Bool} {ks vs : List D} : dput1 ρ x (.ok k) (some (some (.dct .ow t ks vs))) d = dput2 ρ x t ks vs d k := (rfl)
def dputD (ρ : Rho) (x : Nat) (r s : Re D) (o : Option (Option D)) : Out := Out.of s ρ fun d => if plainV d then dput1 ρ x r o d else .st
@[simp] theorem dputD_ok {x : Nat} {r : Re D} {d : D} {o : Option (Option D)} : dputD ρ x r (.ok d) o = if plainV d then dput1 ρ x r o d else .st := (rfl)
@[simp] theorem x_dput {x : Nat} {i s : S} : ex c n (.dput x i s) ρ = dputD ρ x (ev c i ρ) (ev c s ρ) ρ[x]? := by
  rw [ex]; rfl
@[simp] theorem rng_nat {k : Nat} (h : k ≤ 1000000) : rngD (.int 0) (.int k) = .ok ((List.range k).map fun (i : Nat) => .int i) := by
  unfold rngD p62 rangeD
  have : (decide (-4611686018427387904 ≤ (0 : Int)) && decide ((0 : Int) < 4611686018427387904) && decide (-4611686018427387904 ≤ (k : Int)) && decide ((k : Int) < 4611686018427387904)) = true := by simp; omega
  simp only [this]
  simp
/-- a for over a range -/
theorem loop_rng {x : Nat} {b : List T} (I : Nat → Rho → Prop) {k : Nat} (h : I 0 ρ)
    (st : ∀ i ρ, i < k → I i ρ → ∃ ρ', (exs c n b (ρ.set x (some (.int (i : Nat)))) = .nx ρ' ∨ exs c n b (ρ.set x (some (.int (i : Nat)))) = .ct ρ') ∧ I (i + 1) ρ') :
    ∃ ρ', loopT c n (.nm x) b ρ ((List.range k).map fun (i : Nat) => .int i) = .nx ρ' ∧ I k ρ' := by
  obtain ⟨ρ', e, h'⟩ := loop_ok (c := c) (n := n) (g := .nm x) (b := b) I (ds := (List.range k).map fun (i : Nat) => .int i) (ρ := ρ) 0 h (fun i d ρ hd hI => by
    have hi : i < k := by
      have := (List.getElem?_eq_some_iff.mp hd).1
      simpa using this
    have ed : d = .int (i : Int) := by
      rw [List.getElem?_map, List.getElem?_range hi] at hd
      simpa using hd.symm
    subst ed
    rw [Nat.zero_add] at hI ⊢
    obtain ⟨ρ', q, r⟩ := st i ρ hi hI
    exact ⟨ρ', by simpa using q, r⟩)
  exact ⟨ρ', e, by simpa using h'⟩
/-- a for over ints -/
theorem loop_ints {x : Nat} {b : List T} (I : Nat → Rho → Prop) {l : List Int} (h : I 0 ρ)
    (st : ∀ i ρ (hi : i < l.length), I i ρ → ∃ ρ', (exs c n b (ρ.set x (some (.int l[i]))) = .nx ρ' ∨ exs c n b (ρ.set x (some (.int l[i]))) = .ct ρ') ∧ I (i + 1) ρ') :
    ∃ ρ', loopT c n (.nm x) b ρ (l.map .int) = .nx ρ' ∧ I l.length ρ' := by
  obtain ⟨ρ', e, h'⟩ := loop_ok (c := c) (n := n) (g := .nm x) (b := b) I (ds := l.map .int) (ρ := ρ) 0 h (fun i d ρ hd hI => by
    have hi : i < l.length := by
      have := (List.getElem?_eq_some_iff.mp hd).1
      simpa using this
    have ed : d = .int l[i] := by
      rw [List.getElem?_map, List.getElem?_eq_getElem hi] at hd
      simpa using hd.symm
    subst ed
    rw [Nat.zero_add] at hI ⊢
    obtain ⟨ρ', q, r⟩ := st i ρ hi hI
    exact ⟨ρ', by simpa using q, r⟩)
  exact ⟨ρ', e, by simpa using h'⟩
theorem enum_getL {ds : List D} {i : Nat} {d : D} (h : (enumD ds)[i]? = some d) : ∃ hi : i < ds.length, d = .tup [.int (i : Nat), ds[i]] := by
  unfold enumD at h
  rw [List.getElem?_map] at h
  have hl : i < ds.length := by
    cases q : (ds.zipIdx)[i]? with
    | none => rw [q] at h; cases h
    | some p =>
      have := (List.getElem?_eq_some_iff.mp q).1
      simpa using this
  refine ⟨hl, ?_⟩
  simp [List.getElem?_zipIdx, hl] at h
  exact h.symm
/-- a for over enumerate(ints) -/
theorem loop_enum {x y : Nat} {b : List T} (I : Nat → Rho → Prop) {l : List Int} (h : I 0 ρ)
    (st : ∀ i ρ (hi : i < l.length), I i ρ → ∃ ρ', (exs c n b ((ρ.set x (some (.int (i : Nat)))).set y (some (.int l[i]))) = .nx ρ' ∨ exs c n b ((ρ.set x (some (.int (i : Nat)))).set y (some (.int l[i]))) = .ct ρ') ∧ I (i + 1) ρ') :
    ∃ ρ', loopT c n (.tup [.nm x, .nm y]) b ρ (enumD (l.map .int)) = .nx ρ' ∧ I l.length ρ' := by
  obtain ⟨ρ', e, h'⟩ := loop_ok (c := c) (n := n) (g := .tup [.nm x, .nm y]) (b := b) I (ds := enumD (l.map .int)) (ρ := ρ) 0 h (fun i d ρ hd hI => by
    obtain ⟨hi, rfl⟩ := enum_getL hd
    have hi' : i < l.length := by simpa using hi
    rw [Nat.zero_add] at hI ⊢
    obtain ⟨ρ', q, r⟩ := st i ρ hi' hI
    exact ⟨ρ', by simpa using q, r⟩)
  refine ⟨ρ', e, ?_⟩
  have : (enumD (l.map .int)).length = l.length := by simp [enumD]
  rw [this] at h'
  simpa using h'
theorem whl_go {t : Rho → Re Bool} {f : Rho → Out} (I : Nat → Rho → Prop) (Q : Rho → Prop) (st : ∀ k ρ, I k ρ → (t ρ = .ok false ∧ Q ρ) ∨ (t ρ = .ok true ∧ ∃ ρ' j, (f ρ = .nx ρ' ∨ f ρ = .ct ρ') ∧ j < k ∧ I j ρ')) :
    ∀ (j k : Nat) {ρ : Rho}, I k ρ → k < j → ∃ ρ', whlD t f j ρ = .nx ρ' ∧ Q ρ'
  | 0, k, ρ, _, h => absurd h (Nat.not_lt_zero _)
  | j + 1, k, ρ, hI, h => by
    rcases st k ρ hI with ⟨h1, h2⟩ | ⟨h1, ρ', i, h2, h3, h4⟩
    · exact ⟨ρ, by unfold whlD; rw [h1]; simp, h2⟩
    · obtain ⟨ρ2, e, q⟩ := whl_go I Q st j i h4 (by omega)
      refine ⟨ρ2, ?_, q⟩
      unfold whlD
      rw [h1]
      rcases h2 with h2 | h2 <;> simp [h2, e]
/-- a while whose turns make something less -/
theorem whl_ok {t : S} {b : List T} (I : Nat → Rho → Prop) (Q : Rho → Prop) (k : Nat) (h : I k ρ) (hk : k < n)
    (st : ∀ k ρ, I k ρ → (tsR (ev c t ρ) = .ok false ∧ Q ρ) ∨ (tsR (ev c t ρ) = .ok true ∧ ∃ ρ' j, (exs c n b ρ = .nx ρ' ∨ exs c n b ρ = .ct ρ') ∧ j < k ∧ I j ρ')) :
    ∃ ρ', whlT c n t b n ρ = .nx ρ' ∧ Q ρ' := whl_go I Q st n k h hk
theorem exs_app {c : Cn} {n : Nat} : ∀ {a b : List T} {ρ : Rho}, exs c n (a ++ b) ρ = seqO c n b (exs c n a ρ)
  | [], b, ρ => by simp
  | t :: a, b, ρ => by
    rw [List.cons_append, xs_cons, xs_cons]
    cases ex c n t ρ with
    | nx ρ' => rw [seqO_nx, seqO_nx]; exact exs_app
    | _ => rfl
theorem exs_cut {c : Cn} {n k : Nat} {ts : List T} {ρ ρ' : Rho} (h : exs c n (ts.take k) ρ = .nx ρ') : exs c n ts ρ = exs c n (ts.drop k) ρ' := by
  have e : exs c n ts ρ = exs c n (ts.take k ++ ts.drop k) ρ := by rw [List.take_append_drop]
  rw [e, exs_app, h, seqO_nx]

theorem run_of {g : List D → Re D} {k : Nat} {b : List T} (h : g = fun as => run c n k b as) (as : List D) : g as = outR (exs c n b (as.map some ++ List.replicate k none)) := by rw [h]; exact run_eq
@[simp] theorem rng3D_int {i j k : Int} : rng3D (.int i) (.int j) (.int k) = lift (rng3 i j k) := (rfl)
/-- a comprehension whose every turn gives one thing -/
theorem comp_map {α : Type} {g : G} {t s : S} {f h : α → D} : ∀ {xs : List α}, (∀ x ∈ xs, turn1 c t s (setG g (f x) ρ) = .ok [h x]) → compL c g t s ρ (xs.map f) = .ok (xs.map fun x => [h x])
  | [], _ => rfl
  | x :: xs, k => by
    rw [List.map_cons, compL_cons, k x List.mem_cons_self, comp_map fun y m => k y (List.mem_cons_of_mem _ m)]
    rfl
@[simp] theorem flat_one {α : Type} {h : α → D} : ∀ {xs : List α}, (xs.map fun x => [h x]).flatten = xs.map h
  | [] => rfl
  | x :: xs => by simp [flat_one (xs := xs)]

@[simp] theorem frzs_app {a b : List D} : frzs (a ++ b) = frzs a ++ frzs b := by simp [frzs_map]
@[simp] theorem frzs_rev {a : List D} : frzs a.reverse = (frzs a).reverse := by simp [frzs_map]
@[simp] theorem frzs_rep {k : Nat} {i : Int} : frzs (List.replicate k (.int i)) = List.replicate k (.int i) := by simp [frzs_map]
theorem ixN_nat {n : Nat} {k : Int} (i : Nat) (hk : k = i) (h : i < n) : ixN n k = some i := by
  subst hk
  unfold ixN
  rw [if_pos (Int.natCast_nonneg i), if_pos (by exact_mod_cast h)]
  rfl
theorem atI_int {l : List Int} {k : Int} (i : Nat) (hk : k = i) (h : i < l.length) : atI (l.map D.int) k = some (.int l[i]) := by
  unfold atI
  rw [ixN_nat i hk (by simpa using h)]
  simp [h]
theorem atII_ints {l : List Int} {k : Int} (i : Nat) (hk : k = i) (h : i < l.length) (hi : i < 1000000000) : atII (l.map D.int) (.int k) = some (.int l[i]) := by
  rw [atII_int, if_pos (by subst hk; unfold p63; omega), atI_int i hk h]
theorem setI_ints {l : List Int} {k v : Int} (i : Nat) (hk : k = i) (h : i < l.length) : setI (l.map D.int) (.int k) (.int v) = some ((l.set i v).map .int) := by
  rw [setI_int, ixN_nat i hk (by simpa using h)]
  simp [List.map_set]
end
/-- a thing that stands for itself -/
def Self (v : D) : Prop := isBo v = false ∧ argD v = v ∧ kid v = v ∧ frz v = v
theorem self_i {i : Int} : Self (.int i) := ⟨rfl, by simp, rfl, by simp⟩
theorem self_b {i : Bool} : Self (.bl i) := ⟨rfl, by simp, rfl, by simp⟩
theorem self_n : Self .non := ⟨rfl, by simp, rfl, by simp⟩
theorem self_s {x : Str} : Self (.str x) := ⟨rfl, by simp, rfl, by simp⟩
theorem self_t {ds : List D} : Self (.tup ds) := ⟨rfl, by simp, rfl, by simp⟩
theorem self_fr {ds : List D} : Self (.lst .fr ds) := ⟨rfl, by simp, rfl, by simp⟩
end Ds

namespace Ds
open PySem L2
/-! ## 27. Reckoning: lists of ints, slices, loops turn by turn -/
theorem deqs_im : ∀ {a b : List Int}, deqs (a.map .int) (b.map .int) = decide (a = b)
  | [], [] => by simp
  | [], _ :: _ => by simp
  | _ :: _, [] => by simp
  | x :: a, y :: b => by
    rw [List.map_cons, List.map_cons, deqs_cons, deq_ii, deqs_im]
    by_cases h : x = y <;> by_cases h' : a = b <;> simp [h, h']
theorem cut_from {xs : List D} {k : Nat} (h : k ≤ xs.length) : Ds.cutD xs (some (k : Int)) none = xs.drop k := by
  unfold Ds.cutD
  rw [HT.sIx_none, HT.sIx_nat, Nat.min_eq_left h]
  exact List.take_of_length_le (by simp)
theorem cut_to {xs : List D} {k : Nat} (h : k ≤ xs.length) : Ds.cutD xs none (some (k : Int)) = xs.take k := by
  unfold Ds.cutD
  rw [HT.sIx_none, HT.sIx_nat, Nat.min_eq_left h]
  simp
theorem cut_mid {xs : List D} {j k : Nat} (h : j ≤ xs.length) (h' : k ≤ xs.length) : Ds.cutD xs (some (j : Int)) (some (k : Int)) = (xs.drop j).take (k - j) := by
  unfold Ds.cutD
  rw [HT.sIx_nat, HT.sIx_nat, Nat.min_eq_left h, Nat.min_eq_left h']
section
variable {c : Cn} {n : Nat} {ρ ρ1 ρ2 : Rho} {g : G} {b : List T} {d : D} {ds : List D}
/-- a turn -/
theorem loop_turn (hg : setG g d ρ = some ρ1) (h : exs c n b ρ1 = .nx ρ2) : loopT c n g b ρ (d :: ds) = loopT c n g b ρ2 ds := by
  rw [loopT_cons, hg, bodyO_some, h, nextT_nx]
/-- a turn that ends the def -/
theorem loop_ret {e : D} (hg : setG g d ρ = some ρ1) (h : exs c n b ρ1 = .rt e) : loopT c n g b ρ (d :: ds) = .rt e := by
  rw [loopT_cons, hg, bodyO_some, h, nextT_rt]
end
/-- the item i of a list of draws -/
def dv (l : List Int) (i : Nat) : Int := l.getD i 0
theorem at_dv {l : List Int} {k : Int} (i : Nat) (hk : k = i) (h : i < l.length) : atI (l.map D.int) k = some (.int (dv l i)) := by
  rw [atI_int i hk h]; simp [dv, h]
theorem dv_drop {l : List Int} {i k : Nat} : dv (l.drop k) i = dv l (k + i) := by
  simp [dv, List.getD_eq_getElem?_getD, List.getElem?_drop]
theorem dv_mem {l : List Int} {i : Nat} {P : Int → Prop} (h : ∀ x ∈ l, P x) (hi : i < l.length) : P (dv l i) := by
  have : dv l i = l[i] := by simp [dv, hi]
  rw [this]; exact h _ (List.getElem_mem hi)
@[simp] theorem frzs_drop {ds : List D} {k : Nat} : frzs (ds.drop k) = (frzs ds).drop k := by simp [frzs_map, List.map_drop]
@[simp] theorem frzs_take {ds : List D} {k : Nat} : frzs (ds.take k) = (frzs ds).take k := by simp [frzs_map, List.map_take]
theorem frzs_idr {ds : List D} : frzs (frzs ds) = frzs ds := by
  have : ∀ d : D, frz (frz d) = frz d := fun d => by
    cases d with
    | lst o ds => cases o <;> simp [frz]
    | dct o t ks vs => cases o <;> simp [frz]
    | obj o c ns ds => cases o <;> simp [frz]
    | exc => rw [frz, frz]
    | rg i j => rw [frz, frz]
    | _ => simp
  simp [frzs_map, this]
end Ds

namespace Ds
open PySem L2
/-! ## 28. Closed reckoning by the kernel: answers compared, loops in pieces -/
mutual
def eqD : D → D → Bool
  | .non, .non => true
  | .exc, .exc => true
  | .bl a, .bl b => decide (a = b)
  | .int a, .int b => decide (a = b)
  | .str a, .str b => decide (a = b)
  | .tup a, .tup b => eqDs a b
  | .lst o a, .lst p b => decide (o = p) && eqDs a b
  | .dct o t a b, .dct p u a' b' => decide (o = p) && decide (t = u) && eqDs a a' && eqDs b b'
  | _, _ => false
def eqDs : List D → List D → Bool
  | [], [] => true
  | a :: as, b :: bs => eqD a b && eqDs as bs
  | _, _ => false
end
mutual
theorem eqD_eq : ∀ {a b : D}, eqD a b = true → a = b
  | .non, b, h => by cases b <;> first | rfl | simp [eqD] at h
  | .exc, b, h => by cases b <;> first | rfl | simp [eqD] at h
  | .bl _, b, h => by cases b <;> simp_all [eqD]
  | .int _, b, h => by cases b <;> simp_all [eqD]
  | .str _, b, h => by cases b <;> simp_all [eqD]
  | .tup as, b, h => by
    cases b with
    | tup bs => simp only [eqD] at h; rw [eqDs_eq h]
    | _ => simp [eqD] at h
  | .lst o as, b, h => by
    cases b with
    | lst p bs => simp only [eqD, Bool.and_eq_true, decide_eq_true_eq] at h; rw [h.1, eqDs_eq h.2]
    | _ => simp [eqD] at h
  | .dct o t as bs, b, h => by
    cases b with
    | dct p u as' bs' => simp only [eqD, Bool.and_eq_true, decide_eq_true_eq] at h; rw [h.1.1.1, h.1.1.2, eqDs_eq h.1.2, eqDs_eq h.2]
    | _ => simp [eqD] at h
theorem eqDs_eq : ∀ {a b : List D}, eqDs a b = true → a = b
  | [], b, h => by cases b <;> first | rfl | simp [eqDs] at h
  | a :: as, b, h => by
    cases b with
    | nil => simp [eqDs] at h
    | cons b bs => simp only [eqDs, Bool.and_eq_true] at h; rw [eqD_eq h.1, eqDs_eq h.2]
end
def isOk (r : Re D) (d : D) : Bool := match r with
  | .ok x => eqD x d
  | _ => false
theorem isOk_eq {r : Re D} {d : D} (h : isOk r d = true) : r = .ok d := by
  unfold isOk at h
  split at h
  · rw [eqD_eq h]
  · cases h
def isEr (r : Re D) (e : Ec) : Bool := match r with
  | .er c => decide (c = e)
  | _ => false
theorem isEr_eq {r : Re D} {e : Ec} (h : isEr r e = true) : r = .er e := by
  unfold isEr at h
  split at h
  · rw [of_decide_eq_true h]
  · cases h
def eqRho : Rho → Rho → Bool
  | [], [] => true
  | none :: a, none :: b => eqRho a b
  | some x :: a, some y :: b => eqD x y && eqRho a b
  | _, _ => false
theorem eqRho_eq : ∀ {a b : Rho}, eqRho a b = true → a = b
  | [], [], _ => rfl
  | none :: a, none :: b, h => by simp only [eqRho] at h; rw [eqRho_eq h]
  | some x :: a, some y :: b, h => by simp only [eqRho, Bool.and_eq_true] at h; rw [eqD_eq h.1, eqRho_eq h.2]
  | [], none :: _, h => by simp [eqRho] at h
  | [], some _ :: _, h => by simp [eqRho] at h
  | none :: _, [], h => by simp [eqRho] at h
  | some _ :: _, [], h => by simp [eqRho] at h
  | none :: _, some _ :: _, h => by simp [eqRho] at h
  | some _ :: _, none :: _, h => by simp [eqRho] at h
def isNx (o : Out) (ρ : Rho) : Bool := match o with
  | .nx x => eqRho x ρ
  | _ => false
theorem isNx_eq {o : Out} {ρ : Rho} (h : isNx o ρ = true) : o = .nx ρ := by
  unfold isNx at h
  split at h
  · rw [eqRho_eq h]
  · cases h
/-- turns without a way out -/
def loopN (c : Cn) (n : Nat) (g : G) (b : List T) : List D → Rho → Option Rho
  | [], ρ => some ρ
  | d :: ds, ρ => match setG g d ρ with
    | some ρ1 => (match exs c n b ρ1 with
      | .nx ρ2 => loopN c n g b ds ρ2
      | .ct ρ2 => loopN c n g b ds ρ2
      | _ => none)
    | none => none
theorem loopN_app {c : Cn} {n : Nat} {g : G} {b : List T} {ys : List D} : ∀ {xs : List D} {ρ ρ' : Rho}, loopN c n g b xs ρ = some ρ' → loopT c n g b ρ (xs ++ ys) = loopT c n g b ρ' ys
  | [], ρ, ρ', h => by cases h; rfl
  | d :: xs, ρ, ρ', h => by
    rw [loopN] at h
    split at h
    · rename_i ρ1 e
      rw [List.cons_append, loopT_cons, e, bodyO_some]
      split at h
      · rename_i ρ2 e2
        rw [e2, nextT_nx]; exact loopN_app h
      · rename_i ρ2 e2
        rw [e2, nextT_ct]; exact loopN_app h
      · cases h
    · cases h
theorem loopN_all {c : Cn} {n : Nat} {g : G} {b : List T} {xs : List D} {ρ ρ' : Rho} (h : loopN c n g b xs ρ = some ρ') : loopT c n g b ρ xs = .nx ρ' := by
  have := loopN_app (ys := []) h
  rw [List.append_nil, loopT_nil] at this
  exact this
def isSo (o : Option Rho) (ρ : Rho) : Bool := match o with
  | some x => eqRho x ρ
  | none => false
theorem isSo_eq {o : Option Rho} {ρ : Rho} (h : isSo o ρ = true) : o = some ρ := by
  unfold isSo at h
  split at h
  · rw [eqRho_eq h]
  · cases h
end Ds

namespace Ds
open PySem L2
/-! ## 29. Reckoning: instances -/
section
variable {c : Cn} {n : Nat} {ρ : Rho} {e : Ec}
def inrgR (g : Bool) (r s : Re D) : Re D := r >>= fun x => s >>= fun y => evInrg g x y
@[simp] theorem inrgR_ok {g : Bool} {i j : Int} : inrgR g (.ok (.int i)) (.ok (.int j)) = .ok (.bl (if g then !(decide (0 ≤ i) && decide (i < j)) else (decide (0 ≤ i) && decide (i < j)))) := (rfl)
@[simp] theorem v_inrg {g : Bool} {a b : S} : ev c (.inrg g a b) ρ = inrgR g (ev c a ρ) (ev c b ρ) := by rw [ev]; rfl
def lrgR (g : Bool) (r s : Re D) : Re D := r >>= fun x => s >>= fun y => evLrg g x y
@[simp] theorem lrgR_ok {g : Bool} {x y : D} : lrgR g (.ok x) (.ok y) = evLrg g x y := (rfl)
@[simp] theorem v_lrg {g o : Bool} {a b : S} : ev c (.lrg g o a b) ρ = lrgR g (ev c a ρ) (ev c b ρ) := by rw [ev]; rfl
def rgvR (r s : Re D) : Re D := r >>= fun x => s >>= fun y => evRgv x y
@[simp] theorem rgvR_ok {i j : Int} : rgvR (.ok (.int i)) (.ok (.int j)) = ok? (decide (-p62 ≤ i) && decide (i < p62) && decide (-p62 ≤ j) && decide (j < p62)) (.rg i j) := (rfl)
@[simp] theorem v_rgv {a b : S} : ev c (.rgv a b) ρ = rgvR (ev c a ρ) (ev c b ρ) := by rw [ev]; rfl
@[simp] theorem kid_rg {i j : Int} : kid (.rg i j) = .rg i j := (rfl)
@[simp] theorem isBo_rg {i j : Int} : isBo (.rg i j) = false := (rfl)
@[simp] theorem frz_rg {i j : Int} : frz (.rg i j) = .rg i j := by simp only [frz]
@[simp] theorem argD_rg {i j : Int} : argD (.rg i j) = .rg i j := by simp only [argD, frz]
def zip3 (o o' : Option (List D)) : Re (List D) := match o, o' with
  | some us, some ws => .ok (zipD us ws)
  | _, _ => .st
@[simp] theorem zip3_some {us ws : List D} : zip3 (some us) (some ws) = .ok (zipD us ws) := (rfl)
@[simp] theorem zip2_lst {o o' : Ow} {xs ys : List D} : zip2 (.lst o xs) (.lst o' ys) = zip3 (lstOf (.lst o xs)) (lstOf (.lst o' ys)) := by
  unfold zip2
  simp only
  cases lstOf (.lst o xs) with
  | none => rfl
  | some us => cases lstOf (.lst o' ys) <;> rfl
def fldR (fl : List (Nat × Str)) (x : Str) (r : Re D) : Re D := r >>= evFld fl x
@[simp] theorem fldR_ok {fl : List (Nat × Str)} {x : Str} {d : D} : fldR fl x (.ok d) = evFld fl x d := (rfl)
@[simp] theorem v_fld {a : S} {x : Str} : ev c (.fld a x) ρ = fldR c.flds x (ev c a ρ) := by rw [ev]; rfl
def getFR (bo : Bool) (o : Option D) : Re D := match o with
  | some d => .ok (if bo then kid d else d)
  | none => .st
@[simp] theorem getFR_some {bo : Bool} {d : D} : getFR bo (some d) = .ok (if bo then kid d else d) := (rfl)
@[simp] theorem evFld_fr {fl : List (Nat × Str)} {x : Str} {k : Nat} {ns : List Str} {ds : List D} : evFld fl x (.obj .fr k ns ds) = if fl.contains (k, x) then getFR false (getF ns ds x) else .st := by
  show (if fl.contains (k, x) then _ else _) = _
  cases getF ns ds x <;> rfl
@[simp] theorem evFld_bo {fl : List (Nat × Str)} {x : Str} {k : Nat} {ns : List Str} {ds : List D} : evFld fl x (.obj .bo k ns ds) = if fl.contains (k, x) then getFR true (getF ns ds x) else .st := by
  show (if fl.contains (k, x) then _ else _) = _
  cases getF ns ds x <;> rfl
@[simp] theorem kid_obj {k : Nat} {ns : List Str} {ds : List D} : kid (.obj .ow k ns ds) = .obj .bo k ns ds := (rfl)
@[simp] theorem kid_slf {k : Nat} {ns : List Str} {ds : List D} : kid (.obj .lk k ns ds) = .obj .bo k ns ds := (rfl)
@[simp] theorem kid_objbo {k : Nat} {ns : List Str} {ds : List D} : kid (.obj .bo k ns ds) = .obj .bo k ns ds := (rfl)
@[simp] theorem kid_objfr {k : Nat} {ns : List Str} {ds : List D} : kid (.obj .fr k ns ds) = .obj .fr k ns ds := (rfl)
@[simp] theorem isBo_objow {k : Nat} {ns : List Str} {ds : List D} : isBo (.obj .ow k ns ds) = false := (rfl)
@[simp] theorem isBo_objbo {k : Nat} {ns : List Str} {ds : List D} : isBo (.obj .bo k ns ds) = true := (rfl)
@[simp] theorem isBo_objfr {k : Nat} {ns : List Str} {ds : List D} : isBo (.obj .fr k ns ds) = false := (rfl)
@[simp] theorem argD_objbo {k : Nat} {ns : List Str} {ds : List D} : argD (.obj .bo k ns ds) = .obj .fr k ns (frzs ds) := (rfl)
theorem argD_objfr {k : Nat} {ns : List Str} {ds : List D} : argD (.obj .fr k ns ds) = .obj .fr k ns ds := by simp only [argD, frz]
def mkR (c : Cn) (f : Nat) (r : Re (List D)) : Re D := r >>= evMk c f
@[simp] theorem mkR_ok {f : Nat} {ds : List D} : mkR c f (.ok ds) = evMk c f ds := (rfl)
@[simp] theorem v_mk {f : Nat} {es : List S} : ev c (.mk f es) ρ = mkR c f (evs c es ρ) := by rw [ev]; rfl
def mkD1 (bo : Bool) (r : Re D) : Re D := r >>= mkD bo
@[simp] theorem mkD1_er {bo : Bool} : mkD1 bo (.er e) = .er e := (rfl)
@[simp] theorem mkD1_ok {bo : Bool} {k : Nat} {ns : List Str} {ds : List D} : mkD1 bo (.ok (.obj .lk k ns ds)) = ok? (!bo || cleans ds) (.obj .ow k ns ds) := (rfl)
def evMk1 (o : Option (Nat × (List D → Re D))) (as : List D) : Re D := match o with
  | some (k, g) => mkD1 (as.any isBo) (g (.obj .lk k [] [] :: as.map argD))
  | none => .st
@[simp] theorem evMk1_some {k : Nat} {g : List D → Re D} {as : List D} : evMk1 (some (k, g)) as = mkD1 (as.any isBo) (g (.obj .lk k [] [] :: as.map argD)) := (rfl)
@[simp] theorem evMk_eq {f : Nat} {as : List D} : evMk c f as = evMk1 c.ms[f]? as := by unfold evMk evMk1; cases c.ms[f]? <;> rfl
def rm2 (c : Cn) (ρ : Rho) (f : Nat) (d : D) (r : Re (List D)) : Re D := r >>= fun ds => evCall c f (d :: ds)
@[simp] theorem rm2_ok {f : Nat} {d : D} {ds : List D} : rm2 c ρ f d (.ok ds) = callO c.fs[f]? (d :: ds) := by
  show evCall c f (d :: ds) = _
  unfold evCall callO
  cases c.fs[f]? <;> rfl
@[simp] theorem rm2_er {f : Nat} {d : D} : rm2 c ρ f d (.er e) = .er e := (rfl)
def rmR (c : Cn) (ρ : Rho) (m : Str) (k f : Nat) (es : List S) (r : Re D) : Re D := r >>= fun d => if isInsM k m [d] then rm2 c ρ f d (evs c es ρ) else .st
@[simp] theorem rmR_ok {m : Str} {k f : Nat} {es : List S} {d : D} : rmR c ρ m k f es (.ok d) = if isInsM k m [d] then rm2 c ρ f d (evs c es ρ) else .st := (rfl)
@[simp] theorem v_rmeth {m : Str} {k f : Nat} {a : S} {es : List S} : ev c (.rmeth m k f a es) ρ = rmR c ρ m k f es (ev c a ρ) := by rw [ev]; rfl
@[simp] theorem isInsM_obj {k k' : Nat} {m : Str} {o : Ow} {ns : List Str} {ds : List D} : isInsM k m [.obj o k' ns ds] = (decide (k' = k) && !ns.contains m) := (rfl)
@[simp] theorem x_retk : ex c n .retk ρ = .rk ρ := by rw [ex]
@[simp] theorem seqO_rk {ts : List T} : seqO c n ts (.rk ρ) = .rk ρ := (rfl)
@[simp] theorem objOf_ow {k : Nat} {ns : List Str} {ds : List D} : objOf (some (some (.obj .ow k ns ds))) = some (.ow, k, ns, ds) := (rfl)
@[simp] theorem objOf_lk {k : Nat} {ns : List Str} {ds : List D} : objOf (some (some (.obj .lk k ns ds))) = some (.lk, k, ns, ds) := (rfl)
def oset1 (c : Cn) (x : Nat) (f : Str) (ρ : Rho) (d : D) (o : Option (Ow × Nat × List Str × List D)) : Out := match o with
  | some (o, k, ns, ds) => if c.flds.contains (k, f) && decide (ns.length < 1000) then .nx (ρ.set x (some (.obj o k (putNs ns f) (putA ns ds f d)))) else .st
  | none => .st
@[simp] theorem oset1_some {x : Nat} {f : Str} {d : D} {o : Ow} {k : Nat} {ns : List Str} {ds : List D} : oset1 c x f ρ d (some (o, k, ns, ds)) = if c.flds.contains (k, f) && decide (ns.length < 1000) then .nx (ρ.set x (some (.obj o k (putNs ns f) (putA ns ds f d)))) else .st := (rfl)
def osetR (c : Cn) (x : Nat) (f : Str) (ρ : Rho) (r : Re D) : Out := Out.of r ρ fun d => if isBo d then .st else oset1 c x f ρ d (objOf ρ[x]?)
@[simp] theorem osetR_ok {x : Nat} {f : Str} {d : D} (h : isBo d = false) : osetR c x f ρ (.ok d) = oset1 c x f ρ d (objOf ρ[x]?) := by unfold osetR; simp [h]
@[simp] theorem osetR_er {x : Nat} {f : Str} : osetR c x f ρ (.er e) = .er e ρ := (rfl)
@[simp] theorem x_oset {x : Nat} {f : Str} {s : S} : ex c n (.oset x f s) ρ = osetR c x f ρ (ev c s ρ) := by rw [ex]; rfl
def oseti2 (x : Nat) (f : Str) (ρ : Rho) (o : Ow) (k : Nat) (ns : List Str) (ds : List D) (r : Option (List D)) : Out := match r with
  | some ys => .nx (ρ.set x (some (.obj o k ns (putA ns ds f (.lst .ow ys)))))
  | none => .st
@[simp] theorem oseti2_some {x : Nat} {f : Str} {o : Ow} {k : Nat} {ns : List Str} {ds ys : List D} : oseti2 x f ρ o k ns ds (some ys) = .nx (ρ.set x (some (.obj o k ns (putA ns ds f (.lst .ow ys))))) := (rfl)
def oseti1 (x : Nat) (f : Str) (ρ : Rho) (o : Ow) (k : Nat) (ns : List Str) (ds : List D) (d : D) (i : Re D) (l : Option D) : Out := match l with
  | some (.lst .ow xs) => Out.of i ρ fun l => oseti2 x f ρ o k ns ds (setI xs l d)
  | _ => .st
@[simp] theorem oseti1_ok {x : Nat} {f : Str} {o : Ow} {k : Nat} {ns : List Str} {ds xs : List D} {l d : D} : oseti1 x f ρ o k ns ds d (.ok l) (some (.lst .ow xs)) = oseti2 x f ρ o k ns ds (setI xs l d) := (rfl)
def oseti0 (c : Cn) (x : Nat) (f : Str) (ρ : Rho) (d : D) (i : Re D) (o : Option (Ow × Nat × List Str × List D)) : Out := match o with
  | some (o, k, ns, ds) => if c.flds.contains (k, f) then oseti1 x f ρ o k ns ds d i (getF ns ds f) else .st
  | none => .st
@[simp] theorem oseti0_some {x : Nat} {f : Str} {d : D} {i : Re D} {o : Ow} {k : Nat} {ns : List Str} {ds : List D} : oseti0 c x f ρ d i (some (o, k, ns, ds)) = if c.flds.contains (k, f) then oseti1 x f ρ o k ns ds d i (getF ns ds f) else .st := (rfl)
def osetiR (c : Cn) (x : Nat) (f : Str) (ρ : Rho) (i r : Re D) : Out := Out.of r ρ fun d => if isBo d then .st else oseti0 c x f ρ d i (objOf ρ[x]?)
@[simp] theorem osetiR_ok {x : Nat} {f : Str} {i : Re D} {d : D} (h : isBo d = false) : osetiR c x f ρ i (.ok d) = oseti0 c x f ρ d i (objOf ρ[x]?) := by unfold osetiR; simp [h]
theorem of_lift_O {x : Nat} {f : Str} {o : Ow} {k : Nat} {ns : List Str} {ds : List D} {r : Option (List D)} : Out.of (lift r) ρ (fun ys => .nx (ρ.set x (some (.obj o k ns (putA ns ds f (.lst .ow ys)))))) = oseti2 x f ρ o k ns ds r := by cases r <;> rfl
@[simp] theorem x_oseti {x : Nat} {f : Str} {i s : S} : ex c n (.oseti x f i s) ρ = osetiR c x f ρ (ev c i ρ) (ev c s ρ) := by
  rw [ex]; unfold osetiR oseti0 oseti1; simp only [of_lift_O] <;> rfl
def oapp1 (x : Nat) (f : Str) (ρ : Rho) (o : Ow) (k : Nat) (ns : List Str) (ds : List D) (r : Re D) (l : Option D) : Out := match l with
  | some (.lst .ow xs) => Out.of r ρ fun d => if isBo d then .st else if xs.length < sizeLine then .nx (ρ.set x (some (.obj o k ns (putA ns ds f (.lst .ow (xs ++ [d])))))) else .st
  | _ => .st
@[simp] theorem oapp1_ok {x : Nat} {f : Str} {o : Ow} {k : Nat} {ns : List Str} {ds xs : List D} {d : D} (h : isBo d = false) : oapp1 x f ρ o k ns ds (.ok d) (some (.lst .ow xs)) = if xs.length < sizeLine then .nx (ρ.set x (some (.obj o k ns (putA ns ds f (.lst .ow (xs ++ [d])))))) else .st := by unfold oapp1; simp [h]
def oappR (c : Cn) (x : Nat) (f : Str) (ρ : Rho) (r : Re D) (o : Option (Ow × Nat × List Str × List D)) : Out := match o with
  | some (o, k, ns, ds) => if c.flds.contains (k, f) then oapp1 x f ρ o k ns ds r (getF ns ds f) else .st
  | none => .st
@[simp] theorem oappR_some {x : Nat} {f : Str} {r : Re D} {o : Ow} {k : Nat} {ns : List Str} {ds : List D} : oappR c x f ρ r (some (o, k, ns, ds)) = if c.flds.contains (k, f) then oapp1 x f ρ o k ns ds r (getF ns ds f) else .st := (rfl)
@[simp] theorem x_oapp {x : Nat} {f : Str} {s : S} : ex c n (.oapp x f s) ρ = oappR c x f ρ (ev c s ρ) (objOf ρ[x]?) := by rw [ex]; rfl
def rfld1 (o : Option D) : Out := match o with
  | some d => .rt d
  | none => .st
@[simp] theorem rfld1_some {d : D} : rfld1 (some d) = .rt d := (rfl)
def rfldR (c : Cn) (f : Str) (o : Option (Ow × Nat × List Str × List D)) : Out := match o with
  | some (_, k, ns, ds) => if c.flds.contains (k, f) then rfld1 (getF ns ds f) else .st
  | none => .st
@[simp] theorem rfldR_some {f : Str} {o : Ow} {k : Nat} {ns : List Str} {ds : List D} : rfldR c f (some (o, k, ns, ds)) = if c.flds.contains (k, f) then rfld1 (getF ns ds f) else .st := (rfl)
@[simp] theorem x_rfld {x : Nat} {f : Str} : ex c n (.rfld x f) ρ = rfldR c f (objOf ρ[x]?) := by rw [ex]; rfl
@[simp] theorem mtD_ok {x : Nat} {o : Ow} {k : Nat} {ns : List Str} {ds : List D} : mtD x o ρ (.ok (.obj .lk k ns ds)) = .nx (ρ.set x (some (.obj o k ns ds))) := (rfl)
@[simp] theorem mtD_er {x : Nat} {o : Ow} : mtD x o ρ (.er e) = .er e (ρ.set x none) := (rfl)
def meth2 (x : Nat) (ρ : Rho) (o : Ow) (k : Nat) (ns : List Str) (ds : List D) (g : List D → Re D) (r : Re (List D)) : Out := Out.of r ρ fun as => if as.any isBo then .st else mtD x o ρ (g (.obj .lk k ns ds :: as.map argD))
@[simp] theorem meth2_ok {x : Nat} {o : Ow} {k : Nat} {ns : List Str} {ds as : List D} {g : List D → Re D} : meth2 x ρ o k ns ds g (.ok as) = if as.any isBo then .st else mtD x o ρ (g (.obj .lk k ns ds :: as.map argD)) := (rfl)
@[simp] theorem meth2_er {x : Nat} {o : Ow} {k : Nat} {ns : List Str} {ds : List D} {g : List D → Re D} : meth2 x ρ o k ns ds g (.er e) = .er e ρ := (rfl)
def methR (c : Cn) (x : Nat) (m : Str) (ρ : Rho) (r : Re (List D)) (o : Option (Ow × Nat × List Str × List D)) (h : Option (Nat × (List D → Re D))) : Out := match o, h with
  | some (o, k, ns, ds), some (k', g) => if decide (k' = k) && !ns.contains m && (decide (o = .lk) || !c.slf) then meth2 x ρ o k ns ds g r else .st
  | _, _ => .st
@[simp] theorem methR_some {x : Nat} {m : Str} {r : Re (List D)} {o : Ow} {k k' : Nat} {ns : List Str} {ds : List D} {g : List D → Re D} : methR c x m ρ r (some (o, k, ns, ds)) (some (k', g)) = if decide (k' = k) && !ns.contains m && (decide (o = .lk) || !c.slf) then meth2 x ρ o k ns ds g r else .st := (rfl)
@[simp] theorem x_meth {x f : Nat} {m : Str} {es : List S} : ex c n (.meth x m f es) ρ = methR c x m ρ (evs c es ρ) (objOf ρ[x]?) c.ms[f]? := by rw [ex]; rfl
def ofnR (c : Cn) (x : Nat) (ρ : Rho) (r : Re (List D)) (o : Option (Ow × Nat × List Str × List D)) (h : Option (Nat × (List D → Re D))) : Out := match o, h with
  | some (o, k, ns, ds), some (_, g) => if (decide (o = .lk) || !c.slf) = true then meth2 x ρ o k ns ds g r else .st
  | _, _ => .st
@[simp] theorem ofnR_some {x : Nat} {r : Re (List D)} {o : Ow} {k k' : Nat} {ns : List Str} {ds : List D} {g : List D → Re D} : ofnR c x ρ r (some (o, k, ns, ds)) (some (k', g)) = if (decide (o = .lk) || !c.slf) = true then meth2 x ρ o k ns ds g r else .st := (rfl)
@[simp] theorem x_ofn {x f : Nat} {es : List S} : ex c n (.ofn x f es) ρ = ofnR c x ρ (evs c es ρ) (objOf ρ[x]?) c.ms[f]? := by rw [ex]; rfl
/-- what a def that writes into its first argument tells at its end -/
def outM (o : Out) : Re D := match o with
  | .nx ρ => selfOut ρ
  | .rk ρ => selfOut ρ
  | .er e _ => .er e
  | _ => .st
@[simp] theorem outM_nx : outM (.nx ρ) = selfOut ρ := (rfl)
@[simp] theorem outM_rk : outM (.rk ρ) = selfOut ρ := (rfl)
@[simp] theorem outM_er : outM (.er e ρ) = .er e := (rfl)
theorem selfOut_eq {k : Nat} {ns : List Str} {ds : List D} (h : ρ[(0 : Nat)]? = some (some (.obj .lk k ns ds))) : selfOut ρ = .ok (.obj .lk k ns ds) := by unfold selfOut; rw [h]
@[simp] theorem selfOut_cons {k : Nat} {ns : List Str} {ds : List D} : selfOut (some (.obj .lk k ns ds) :: ρ) = .ok (.obj .lk k ns ds) := (rfl)
theorem runM_eq {k : Nat} {b : List T} {as : List D} : runM c n k b as = outM (exs c n b (as.map some ++ List.replicate k none)) := rfl
end
end Ds

namespace K05
open Ds PySem L2 PySem.Spec PyProof.Rows
def prog : Program := PySem.Challenge.pw_rowsteps_k05_numbers_of_tables
def topS (i : Nat) : Stmt := prog.main.body.getD i (.Pass ⟨0, 0, 0, 0⟩)
/-- is_integer(value) -/
def t_is_integer : List T :=
   [.ret (.and (.blt (.inst .int) [(.var 0)]) (.not (.blt (.inst .bool) [(.var 0)])))]
/-- look_at_size(n) calls is_integer -/
def t_look_at_size : List T :=
   [.ifs (.or (.not (.call 0 [(.var 0)])) (.cmp .nin (.var 0) (.con "SIZES" (.tup [(.int 2), (.int 3)])))) [.rais .number] []]
/-- look_at_number(N, most) calls is_integer -/
def t_look_at_number : List T :=
   [.ifs (.or (.not (.call 0 [(.var 0)])) (.not (.chn .le .le (.int 1) (.var 0) (.var 1)))) [.rais .number] []]
/-- count(n, N, found, p, d) calls look_at_size, look_at_number -/
abbrev t_count_L1 : List T :=
   [.ifs (.and (.cmp .eq (.bin .mod (.var 1) (.var 3)) (.int 0)) (.blt .all [(.comp [4] (.nm 4) (.irng (.int 2) (.var 3)) (.bl true) (.cmp .ne (.bin .mod (.var 3) (.var 4)) (.int 0)))])) [.asg (.nm 2) (.bin .mul (.bin .div (.var 2) (.bin .pow (.var 3) (.int 2))) (.bin .sub (.bin .pow (.var 3) (.int 2)) (.int 1))),
    .ifs (.cmp .eq (.var 0) (.int 3)) [.asg (.nm 2) (.bin .mul (.bin .div (.var 2) (.bin .pow (.var 3) (.int 3))) (.bin .sub (.bin .pow (.var 3) (.int 3)) (.int 1)))] []] []]
def t_count : List T :=
   [.expr (.call 0 [(.var 0)]),
    .expr (.call 1 [(.var 1), (.con "MOST" (.int 60))]),
    .asg (.nm 2) (.ite (.cmp .eq (.var 0) (.int 2)) (.bin .pow (.var 1) (.int 3)) (.bin .pow (.var 1) (.int 8))),
    .for (.nm 3) (.irng (.int 2) (.bin .add (.var 1) (.int 1))) t_count_L1,
    .rmv 2]
/-- all_modulo(N, every, found, a, b, c, d) calls look_at_number -/
abbrev t_all_modulo_L1 : List T :=
   [.ifs (.cmp .eq (.bin .mod (.bin .sub (.bin .sub (.bin .mul (.var 3) (.var 6)) (.bin .mul (.var 4) (.var 5))) (.int 1)) (.var 0)) (.int 0)) [.app 2 (.tup [(.tup [(.var 3), (.var 4)]), (.tup [(.var 5), (.var 6)])])] []]
abbrev t_all_modulo_L2 : List T :=
   [.for (.nm 6) (.iseq (.var 1)) t_all_modulo_L1]
abbrev t_all_modulo_L3 : List T :=
   [.for (.nm 5) (.iseq (.var 1)) t_all_modulo_L2]
abbrev t_all_modulo_L4 : List T :=
   [.for (.nm 4) (.iseq (.var 1)) t_all_modulo_L3]
def t_all_modulo : List T :=
   [.expr (.call 0 [(.var 0), (.con "MOST_LISTED" (.int 12))]),
    .asg (.nm 1) (.rgv (.int 0) (.var 0)),
    .asg (.nm 2) (.lst []),
    .for (.nm 3) (.iseq (.var 1)) t_all_modulo_L4,
    .rmv 2]
/-- _law_cell(script, k) -/
def t_law_cell : List T :=
   [.ifs (.cmp .lt (.var 1) (.blt .len [(.var 0)])) [.ret (.ix (.var 0) (.var 1))] [],
    .ret (.int 0)]
/-- _law_mixed(cell, k, first, second, third) -/
def t_law_mixed : List T :=
   [.asg (.nm 2) (.bin .mod (.blt .int [(.bin .add (.bin .add (.bin .mul (.blt .int [(.var 0)]) (.int 48271)) (.bin .mul (.var 1) (.int 69621))) (.int 11))]) (.int 2147483647)),
    .asg (.nm 3) (.bin .mod (.blt .int [(.bin .add (.bin .add (.bin .mul (.var 2) (.int 16807)) (.bin .mul (.bin .add (.var 1) (.int 3)) (.int 40692))) (.int 5))]) (.int 2147483563)),
    .asg (.nm 4) (.bin .mod (.blt .int [(.bin .add (.bin .add (.bin .mul (.var 3) (.var 3)) (.bin .mul (.int 7) (.var 1))) (.int 3))]) (.int 2147483629)),
    .ret (.bin .div (.var 4) (.int 5))]
/-- _law_digits(cell, size, many, digits, k) calls _law_mixed -/
abbrev t_law_digits_L1 : List T :=
   [.app 3 (.bin .mod (.blt .int [(.call 0 [(.var 0), (.var 4)])]) (.var 2))]
abbrev t_law_digits_L2 : List T :=
   [.app 3 (.bin .mod (.blt .int [(.var 0)]) (.var 2)),
    .asg (.nm 0) (.bin .div (.var 0) (.var 2))]
def t_law_digits : List T :=
   [.asg (.nm 3) (.lst []),
    .ifs (.cmp .lt (.var 0) (.bin .pow (.int 10) (.int 18))) [.for (.nm 4) (.irng (.int 0) (.var 1)) t_law_digits_L1,
    .rmv 3] [],
    .for (.nm 4) (.irng (.int 0) (.var 1)) t_law_digits_L2,
    .rmv 3]
/-- _law_det(m, first, second) -/
def t_law_det : List T :=
   [.ifs (.cmp .eq (.blt .len [(.var 0)]) (.int 2)) [.ret (.bin .sub (.bin .mul (.ix (.ix (.var 0) (.int 0)) (.int 0)) (.ix (.ix (.var 0) (.int 1)) (.int 1))) (.bin .mul (.ix (.ix (.var 0) (.int 0)) (.int 1)) (.ix (.ix (.var 0) (.int 1)) (.int 0))))] [],
    .asg (.nm 1) (.bin .mul (.ix (.ix (.var 0) (.int 0)) (.int 0)) (.bin .sub (.bin .mul (.ix (.ix (.var 0) (.int 1)) (.int 1)) (.ix (.ix (.var 0) (.int 2)) (.int 2))) (.bin .mul (.ix (.ix (.var 0) (.int 1)) (.int 2)) (.ix (.ix (.var 0) (.int 2)) (.int 1))))),
    .asg (.nm 2) (.bin .mul (.ix (.ix (.var 0) (.int 0)) (.int 1)) (.bin .sub (.bin .mul (.ix (.ix (.var 0) (.int 1)) (.int 0)) (.ix (.ix (.var 0) (.int 2)) (.int 2))) (.bin .mul (.ix (.ix (.var 0) (.int 1)) (.int 2)) (.ix (.ix (.var 0) (.int 2)) (.int 0))))),
    .ret (.bin .add (.bin .sub (.var 1) (.var 2)) (.bin .mul (.ix (.ix (.var 0) (.int 0)) (.int 2)) (.bin .sub (.bin .mul (.ix (.ix (.var 0) (.int 1)) (.int 0)) (.ix (.ix (.var 0) (.int 2)) (.int 1))) (.bin .mul (.ix (.ix (.var 0) (.int 1)) (.int 1)) (.ix (.ix (.var 0) (.int 2)) (.int 0))))))]
/-- _law_told(word, first, second, e) calls count, all_modulo -/
def t_law_told : List T :=
   [.tr [.ifs (.cmp .eq (.var 0) (.int 0)) [.expr (.call 0 [(.var 1), (.var 2)])] [.expr (.call 1 [(.var 1)])]] [(.base, some 3, [.ret (.and (.isE 3 .number) (.not (.isE 3 .table)))])],
    .ret (.bl false)]
/-- _law_count(n, N, found, k, p, power, m, d) -/
abbrev t_law_count_L1 : List T :=
   [.asg (.nm 2) (.bin .mul (.var 2) (.var 1))]
abbrev t_law_count_L2 : List T :=
   [.asg (.nm 5) (.bin .mul (.var 5) (.var 4)),
    .asg (.nm 2) (.bin .mul (.bin .div (.var 2) (.var 5)) (.bin .sub (.var 5) (.int 1)))]
abbrev t_law_count_L3 : List T :=
   [.ifs (.and (.cmp .eq (.bin .mod (.blt .int [(.var 1)]) (.var 4)) (.int 0)) (.cmp .eq (.blt .len [(.comp [7] (.nm 7) (.irng (.int 2) (.var 4)) (.cmp .eq (.bin .mod (.blt .int [(.var 4)]) (.var 7)) (.int 0)) (.var 7))]) (.int 0))) [.asg (.nm 5) (.var 4),
    .for (.nm 6) (.irng (.int 2) (.bin .add (.var 0) (.int 1))) t_law_count_L2] []]
def t_law_count : List T :=
   [.asg (.nm 2) (.int 1),
    .for (.nm 3) (.irng (.int 0) (.bin .sub (.bin .mul (.var 0) (.var 0)) (.int 1))) t_law_count_L1,
    .for (.nm 4) (.irng (.int 2) (.bin .add (.var 1) (.int 1))) t_law_count_L3,
    .rmv 2]
/-- _law_squares(n, N, found, many, k, number, items, left, square, i, j) calls _law_det -/
abbrev t_law_squares_L1 : List T :=
   [.asg (.nm 3) (.bin .mul (.var 3) (.var 1))]
abbrev t_law_squares_L2 : List T :=
   [.app 6 (.bin .mod (.blt .int [(.var 7)]) (.var 1)),
    .asg (.nm 7) (.bin .div (.var 7) (.var 1))]
abbrev t_law_squares_L3 : List T :=
   [.par [6, 7] [(.lst []), (.var 5)],
    .for (.nm 4) (.irng (.int 0) (.bin .mul (.var 0) (.var 0))) t_law_squares_L2,
    .asg (.nm 8) (.blt .tuple [(.comp [9] (.nm 9) (.irng (.int 0) (.var 0)) (.bl true) (.blt .tuple [(.comp [10] (.nm 10) (.irng (.int 0) (.var 0)) (.bl true) (.ix (.var 6) (.bin .add (.bin .mul (.var 0) (.var 9)) (.var 10))))]))]),
    .ifs (.cmp .eq (.bin .mod (.blt .int [(.bin .sub (.call 0 [(.var 8)]) (.int 1))]) (.var 1)) (.int 0)) [.app 2 (.var 8)] []]
def t_law_squares : List T :=
   [.par [2, 3] [(.lst []), (.int 1)],
    .for (.nm 4) (.irng (.int 0) (.bin .mul (.var 0) (.var 0))) t_law_squares_L1,
    .for (.nm 5) (.irng (.int 0) (.var 3)) t_law_squares_L3,
    .fz [2],
    .ret (.blt .sorted [(.var 2)])]
/-- law(script, numbers, n, N, small, squares, told, wrong) calls _law_digits, _law_cell, count, _law_count, _law_squares, all_modulo, _law_told -/
abbrev t_law_L1 : List T :=
   [.ifs (.or (.not (.call 6 [(.int 0), (.int 2), (.var 7)])) (.or (.not (.call 6 [(.int 1), (.var 7), (.int 0)])) (.not (.call 6 [(.int 0), (.var 7), (.int 5)])))) [.ret (.bl false)] []]
def t_law : List T :=
   [.asg (.nm 1) (.call 0 [(.call 1 [(.var 0), (.int 0)]), (.int 4), (.int 900)]),
    .fz [1],
    .par [2, 3, 4] [(.bin .add (.int 2) (.bin .mod (.ix (.var 1) (.int 0)) (.int 2))), (.bin .add (.int 1) (.bin .mod (.ix (.var 1) (.int 1)) (.int 60))), (.bin .add (.int 1) (.bin .mod (.ix (.var 1) (.int 2)) (.int 9)))],
    .ifs (.or (.cmp .ne (.call 2 [(.var 2), (.var 3)]) (.call 3 [(.var 2), (.var 3)])) (.blt (.inst .bool) [(.call 2 [(.var 2), (.var 3)])])) [.ret (.bl false)] [],
    .asg (.nm 5) (.call 4 [(.int 2), (.var 4)]),
    .asg (.nm 6) (.call 5 [(.var 4)]),
    .fz [5],
    .ifs (.or (.not (.blt (.inst .list) [(.var 6)])) (.or (.cmp .ne (.var 6) (.var 5)) (.cmp .ne (.call 2 [(.int 2), (.var 4)]) (.blt .len [(.var 5)])))) [.ret (.bl false)] [],
    .app 6 (.int 0),
    .ifs (.or (.cmp .ne (.call 5 [(.var 4)]) (.var 5)) (.or (.cmp .ne (.call 2 [(.int 3), (.int 1)]) (.int 1)) (.cmp .ne (.call 2 [(.int 3), (.int 2)]) (.blt .len [(.call 4 [(.int 3), (.int 2)])])))) [.ret (.bl false)] [],
    .for (.nm 7) (.iseq (.lst [(.int 0), (.neg (.int 1)), (.bl true), (.bin .pow (.int 10) (.int 20))])) t_law_L1,
    .ret (.and (.call 6 [(.int 0), (.int 2), (.int 61)]) (.and (.call 6 [(.int 1), (.int 13), (.int 0)]) (.call 6 [(.int 0), (.int 4), (.int 61)])))]
def mo : Mo := { cons := [("SIZES", (.tup [(.int 2), (.int 3)])), ("MOST", (.int 60)), ("MOST_LISTED", (.int 12))], free := ["isinstance", "tuple", "list", "int", "bool", "len", "all", "range", "sorted", "ValueError"], gcd := false, exs := [("RowstepsError", .base), ("BadTable", .table), ("BadNumber", .number), ("ValueError", .base)], rs := [("BadTable", .table), ("BadNumber", .number)], ecs := [.table, .number] }
theorem c_is_integer : chkL mo ["value"] ["value"] 0 { fns := [] } t_is_integer (topS 6) = true := by kernel_rfl
theorem c_look_at_size : chkL mo ["n"] ["n"] 0 { fns := [("is_integer", 1)] } t_look_at_size (topS 7) = true := by kernel_rfl
theorem c_look_at_number : chkL mo ["N", "most"] ["N", "most"] 0 { fns := [("is_integer", 1)] } t_look_at_number (topS 11) = true := by kernel_rfl
theorem c_count : chkL mo ["n", "N", "found", "p", "d"] ["n", "N"] 3 { fns := [("look_at_size", 1), ("look_at_number", 2)] } t_count (topS 12) = true := by kernel_rfl
theorem c_all_modulo : chkL mo ["N", "every", "found", "a", "b", "c", "d"] ["N"] 6 { fns := [("look_at_number", 2)] } t_all_modulo (topS 13) = true := by kernel_rfl
theorem c_law_cell : chkL mo ["script", "k"] ["script", "k"] 0 { fns := [] } t_law_cell (topS 15) = true := by kernel_rfl
theorem c_law_mixed : chkL mo ["cell", "k", "first", "second", "third"] ["cell", "k"] 3 { fns := [] } t_law_mixed (topS 16) = true := by kernel_rfl
theorem c_law_digits : chkL mo ["cell", "size", "many", "digits", "k"] ["cell", "size", "many"] 2 { fns := [("_law_mixed", 2)] } t_law_digits (topS 17) = true := by kernel_rfl
theorem c_law_det : chkL mo ["m", "first", "second"] ["m"] 2 { fns := [] } t_law_det (topS 18) = true := by kernel_rfl
theorem c_law_told : chkL mo ["word", "first", "second", "e"] ["word", "first", "second"] 1 { fns := [("count", 2), ("all_modulo", 1)] } t_law_told (topS 19) = true := by kernel_rfl
theorem c_law_count : chkL mo ["n", "N", "found", "k", "p", "power", "m", "d"] ["n", "N"] 6 { fns := [] } t_law_count (topS 20) = true := by kernel_rfl
theorem c_law_squares : chkL mo ["n", "N", "found", "many", "k", "number", "items", "left", "square", "i", "j"] ["n", "N"] 9 { fns := [("_law_det", 1)] } t_law_squares (topS 21) = true := by kernel_rfl
theorem c_law : chkL mo ["script", "numbers", "n", "N", "small", "squares", "told", "wrong"] ["script"] 7 { fns := [("_law_digits", 3), ("_law_cell", 2), ("count", 2), ("_law_count", 2), ("_law_squares", 2), ("all_modulo", 1), ("_law_told", 3)] } t_law (topS 22) = true := by kernel_rfl
def g_is_integer : List D → Re D := fun as => run { fs := [], ecs := mo.ecs } (0) 0 t_is_integer as
def g_look_at_size : List D → Re D := fun as => run { fs := [g_is_integer], ecs := mo.ecs } (0) 0 t_look_at_size as
def g_look_at_number : List D → Re D := fun as => run { fs := [g_is_integer], ecs := mo.ecs } (0) 0 t_look_at_number as
def g_count : List D → Re D := fun as => run { fs := [g_look_at_size, g_look_at_number], ecs := mo.ecs } (0) 3 t_count as
def g_all_modulo : List D → Re D := fun as => run { fs := [g_look_at_number], ecs := mo.ecs } (0) 6 t_all_modulo as
def g_law_cell : List D → Re D := fun as => run { fs := [], ecs := mo.ecs } (0) 0 t_law_cell as
def g_law_mixed : List D → Re D := fun as => run { fs := [], ecs := mo.ecs } (0) 3 t_law_mixed as
def g_law_digits : List D → Re D := fun as => run { fs := [g_law_mixed], ecs := mo.ecs } (0) 2 t_law_digits as
def g_law_det : List D → Re D := fun as => run { fs := [], ecs := mo.ecs } (0) 2 t_law_det as
def g_law_told : List D → Re D := fun as => run { fs := [g_count, g_all_modulo], ecs := mo.ecs } (0) 1 t_law_told as
def g_law_count : List D → Re D := fun as => run { fs := [], ecs := mo.ecs } (0) 6 t_law_count as
def g_law_squares : List D → Re D := fun as => run { fs := [g_law_det], ecs := mo.ecs } (0) 9 t_law_squares as
def g_law : List D → Re D := fun as => run { fs := [g_law_digits, g_law_cell, g_count, g_law_count, g_law_squares, g_all_modulo, g_law_told], ecs := mo.ecs } (0) 7 t_law as
/-! ### the functions about tables -/
abbrev T2 (a b c d : Int) : D := .tup [.tup [.int a, .int b], .tup [.int c, .int d]]
abbrev T3 (a b c d e f g h i : Int) : D := .tup [.tup [.int a, .int b, .int c], .tup [.int d, .int e, .int f], .tup [.int g, .int h, .int i]]
def det3 (a b c d e f g h i : Int) : Int := a * (e * i - f * h) - b * (d * i - f * g) + c * (d * h - e * g)
def S2 (a b c d : Int) : Prop := Sq a ∧ Sq b ∧ Sq c ∧ Sq d
def S3 (a b c d e f g h i : Int) : Prop := Sq a ∧ Sq b ∧ Sq c ∧ Sq d ∧ Sq e ∧ Sq f ∧ Sq g ∧ Sq h ∧ Sq i
theorem is_integer_i {i : Int} : g_is_integer [.int i] = .ok (.bl true) := by
  simp [g_is_integer, run_eq, t_is_integer]
theorem is_integer_b {b : Bool} : g_is_integer [.bl b] = .ok (.bl false) := by
  simp [g_is_integer, run_eq, t_is_integer]
theorem is_integer_s {x : Str} : g_is_integer [.str x] = .ok (.bl false) := by
  simp [g_is_integer, run_eq, t_is_integer]
/-! ### the law's own small functions -/
theorem sml_of {x m : Int} (h0 : 0 < m) (h : m ≤ 18446744073709551616) : sml (x % m) = true := by
  have a := Int.emod_nonneg x (by omega : m ≠ 0)
  have b := Int.emod_lt_of_pos x h0
  unfold sml big64
  simp
  omega
theorem law_cell_ok (ns : List Int) (k : Int) (h : 0 ≤ k) : ∃ v, g_law_cell [.lst .lk (ns.map .int), .int k] = .ok (.int v) := by
  by_cases q : k < ns.length
  · obtain ⟨n, rfl⟩ := Int.eq_ofNat_of_zero_le h
    have q' : n < ns.length := by omega
    refine ⟨ns[n], ?_⟩
    simp [g_law_cell, run_eq, t_law_cell, q', Ds.atI_nat]
  · exact ⟨0, by simp [g_law_cell, run_eq, t_law_cell, q]⟩
def mix1 (cell k : Int) : Int := (cell * 48271 + k * 69621 + 11) % 2147483647
def mix2 (cell k : Int) : Int := (mix1 cell k * 16807 + (k + 3) * 40692 + 5) % 2147483563
def mix3 (cell k : Int) : Int := (mix2 cell k * mix2 cell k + 7 * k + 3) % 2147483629
theorem law_mixed_ok (cell k : Int) : ∃ v, g_law_mixed [.int cell, .int k] = .ok (.int v) := by
  refine ⟨mix3 cell k / 5, ?_⟩
  simp [mix1, mix2, mix3, g_law_mixed, run_eq, t_law_mixed, mulOk_r (show sml 48271 = true by decide), mulOk_r (show sml 69621 = true by decide), mulOk_r (show sml 16807 = true by decide), mulOk_r (show sml 40692 = true by decide), mulOk_l (show sml 7 = true by decide), mulOk_l (sml_of (m := 2147483563) (by decide) (by decide))]
theorem law_digits_ok (cell : Int) (size : Nat) (many : Int) (hs : size ≤ 1000) (hm : 0 < many) (hm2 : many < 1000000) : ∃ l : List Int, l.length = size ∧ (∀ x ∈ l, 0 ≤ x ∧ x < many) ∧ g_law_digits [.int cell, .int size, .int many] = .ok (.lst .ow (l.map .int)) := by
  have hr : rngD (.int 0) (.int (size : Int)) = .ok ((List.range size).map fun (k : Nat) => .int (k : Int)) := by
    unfold rngD p62 rangeD
    have : (decide (-4611686018427387904 ≤ (0 : Int)) && decide ((0 : Int) < 4611686018427387904) && decide (-4611686018427387904 ≤ (size : Int)) && decide ((size : Int) < 4611686018427387904)) = true := by simp; omega
    simp only [this]
    simp
  by_cases q : cell < 1000000000000000000
  · obtain ⟨ρ, e, l, o, h1, h2, rfl⟩ := loop_ok (c := { fs := [g_law_mixed], ecs := mo.ecs }) (n := 0) (g := .nm 4) (b := [.app 3 (.bin .mod (.blt .int [(.call 0 [(.var 0), (.var 4)])]) (.var 2))])
      (fun i ρ => ∃ (l : List Int) (o : Option D), l.length = i ∧ (∀ x ∈ l, 0 ≤ x ∧ x < many) ∧ ρ = [some (.int cell), some (.int size), some (.int many), some (.lst .ow (l.map .int)), o]) (ds := (List.range size).map fun (k : Nat) => .int (k : Int)) (ρ := [some (.int cell), some (.int size), some (.int many), some (.lst .ow []), none]) 0
      ⟨[], none, rfl, by simp, rfl⟩ (fun i d ρ hd hI => by
        obtain ⟨l, o, h1, h2, rfl⟩ := hI
        have hi : i < size := by
          have := (List.getElem?_eq_some_iff.mp hd).1
          simpa using this
        have ed : d = .int (i : Int) := by
          rw [List.getElem?_map, List.getElem?_range hi] at hd
          simpa using hd.symm
        subst ed
        obtain ⟨v, hv⟩ := law_mixed_ok cell i
        refine ⟨_, .inl ?_, l ++ [v % many], some (.int i), by simp [h1], ?_, rfl⟩
        · have : l.length < 16777216 := by omega
          simp [hv, hm, this]
        · intro x hx
          rcases List.mem_append.mp hx with m | m
          · exact h2 x m
          · simp at m
            subst m
            exact ⟨Int.emod_nonneg _ (by omega), Int.emod_lt_of_pos _ hm⟩)
    refine ⟨l, by simpa using h1, h2, ?_⟩
    simp [g_law_digits, run_eq, t_law_digits, q, hr, e]
  · obtain ⟨ρ, e, l, o, cl, h1, h2, rfl⟩ := loop_ok (c := { fs := [g_law_mixed], ecs := mo.ecs }) (n := 0) (g := .nm 4) (b := [.app 3 (.bin .mod (.blt .int [(.var 0)]) (.var 2)), .asg (.nm 0) (.bin .div (.var 0) (.var 2))])
      (fun i ρ => ∃ (l : List Int) (o : Option D) (cl : Int), l.length = i ∧ (∀ x ∈ l, 0 ≤ x ∧ x < many) ∧ ρ = [some (.int cl), some (.int size), some (.int many), some (.lst .ow (l.map .int)), o]) (ds := (List.range size).map fun (k : Nat) => .int (k : Int)) (ρ := [some (.int cell), some (.int size), some (.int many), some (.lst .ow []), none]) 0
      ⟨[], none, cell, rfl, by simp, rfl⟩ (fun i d ρ hd hI => by
        obtain ⟨l, o, cl, h1, h2, rfl⟩ := hI
        have hi : i < size := by
          have := (List.getElem?_eq_some_iff.mp hd).1
          simpa using this
        have ed : d = .int (i : Int) := by
          rw [List.getElem?_map, List.getElem?_range hi] at hd
          simpa using hd.symm
        subst ed
        refine ⟨_, .inl ?_, l ++ [cl % many], some (.int i), cl / many, by simp [h1], ?_, rfl⟩
        · have : l.length < 16777216 := by omega
          have lg : many < 18446744073709551616 := by omega
          simp [hm, this, lg]
        · intro x hx
          rcases List.mem_append.mp hx with m | m
          · exact h2 x m
          · simp at m
            subst m
            exact ⟨Int.emod_nonneg _ (by omega), Int.emod_lt_of_pos _ hm⟩)
    refine ⟨l, by simpa using h1, h2, ?_⟩
    simp [g_law_digits, run_eq, t_law_digits, q, hr, e]

/-! ### the law's own tables -/
/-- entries of at most k bits -/
def B2 (k : Nat) (a b c d : Int) : Prop := Bd k a ∧ Bd k b ∧ Bd k c ∧ Bd k d
def B3 (k : Nat) (a b c d e f g h i : Int) : Prop := Bd k a ∧ Bd k b ∧ Bd k c ∧ Bd k d ∧ Bd k e ∧ Bd k f ∧ Bd k g ∧ Bd k h ∧ Bd k i
theorem B2.s {k : Nat} {a b c d : Int} (h : B2 k a b c d) (l : k ≤ 10000) : S2 a b c d := by
  obtain ⟨h1, h2, h3, h4⟩ := h
  exact ⟨bd_mono h1 l, bd_mono h2 l, bd_mono h3 l, bd_mono h4 l⟩
theorem B3.s {k : Nat} {a b c d e f g h i : Int} (x : B3 k a b c d e f g h i) (l : k ≤ 10000) : S3 a b c d e f g h i := by
  obtain ⟨h1, h2, h3, h4, h5, h6, h7, h8, h9⟩ := x
  exact ⟨bd_mono h1 l, bd_mono h2 l, bd_mono h3 l, bd_mono h4 l, bd_mono h5 l, bd_mono h6 l, bd_mono h7 l, bd_mono h8 l, bd_mono h9 l⟩
theorem B3.up {j k : Nat} {a b c d e f g h i : Int} (x : B3 j a b c d e f g h i) (l : j ≤ k) : B3 k a b c d e f g h i := by
  obtain ⟨h1, h2, h3, h4, h5, h6, h7, h8, h9⟩ := x
  exact ⟨bd_mono h1 l, bd_mono h2 l, bd_mono h3 l, bd_mono h4 l, bd_mono h5 l, bd_mono h6 l, bd_mono h7 l, bd_mono h8 l, bd_mono h9 l⟩
theorem bd1 {k : Nat} (h : 1 ≤ k) : Bd k 1 := bd_mono (j := 1) (by unfold Bd; decide) h
theorem bd0 {k : Nat} : Bd k 0 := by unfold Bd; simp; exact Nat.pow_pos (by decide)
/-- a sum of products with numbers of at most m bits -/
theorem bd_pp {k m : Nat} {a b x y : Int} (ha : Bd k a) (hb : Bd k b) (hx : Bd m x) (hy : Bd m y) : Bd (k + m + 1) (a * x + b * y) := bd_add (bd_mul ha hx) (bd_mul hb hy)
theorem bd_ppp {k m : Nat} {a b c x y z : Int} (ha : Bd k a) (hb : Bd k b) (hc : Bd k c) (hx : Bd m x) (hy : Bd m y) (hz : Bd m z) : Bd (k + m + 2) (a * x + (b * y + c * z)) :=
  bd_add (bd_mono (bd_mul ha hx) (by omega)) (bd_add (bd_mul hb hy) (bd_mul hc hz))
theorem B2.mul {k m : Nat} {a b c d e f g h : Int} (x : B2 k a b c d) (y : B2 m e f g h) : B2 (k + m + 1) (a * e + b * g) (a * f + b * h) (c * e + d * g) (c * f + d * h) := by
  obtain ⟨h1, h2, h3, h4⟩ := x
  obtain ⟨g1, g2, g3, g4⟩ := y
  exact ⟨bd_pp h1 h2 g1 g3, bd_pp h1 h2 g2 g4, bd_pp h3 h4 g1 g3, bd_pp h3 h4 g2 g4⟩
theorem B3.mul {k m : Nat} {a b c d e f g h i a' b' c' d' e' f' g' h' i' : Int} (x : B3 k a b c d e f g h i) (y : B3 m a' b' c' d' e' f' g' h' i') :
    B3 (k + m + 2) (a * a' + (b * d' + c * g')) (a * b' + (b * e' + c * h')) (a * c' + (b * f' + c * i')) (d * a' + (e * d' + f * g')) (d * b' + (e * e' + f * h')) (d * c' + (e * f' + f * i')) (g * a' + (h * d' + i * g')) (g * b' + (h * e' + i * h')) (g * c' + (h * f' + i * i')) := by
  obtain ⟨h1, h2, h3, h4, h5, h6, h7, h8, h9⟩ := x
  obtain ⟨g1, g2, g3, g4, g5, g6, g7, g8, g9⟩ := y
  exact ⟨bd_ppp h1 h2 h3 g1 g4 g7, bd_ppp h1 h2 h3 g2 g5 g8, bd_ppp h1 h2 h3 g3 g6 g9, bd_ppp h4 h5 h6 g1 g4 g7, bd_ppp h4 h5 h6 g2 g5 g8, bd_ppp h4 h5 h6 g3 g6 g9, bd_ppp h7 h8 h9 g1 g4 g7, bd_ppp h7 h8 h9 g2 g5 g8, bd_ppp h7 h8 h9 g3 g6 g9⟩
theorem det3_mul {a b c d e f g h i a' b' c' d' e' f' g' h' i' : Int} (x : det3 a b c d e f g h i = 1) (y : det3 a' b' c' d' e' f' g' h' i' = 1) :
    det3 (a * a' + (b * d' + c * g')) (a * b' + (b * e' + c * h')) (a * c' + (b * f' + c * i')) (d * a' + (e * d' + f * g')) (d * b' + (e * e' + f * h')) (d * c' + (e * f' + f * i')) (g * a' + (h * d' + i * g')) (g * b' + (h * e' + i * h')) (g * c' + (h * f' + i * i')) = 1 := by
  have : det3 (a * a' + (b * d' + c * g')) (a * b' + (b * e' + c * h')) (a * c' + (b * f' + c * i')) (d * a' + (e * d' + f * g')) (d * b' + (e * e' + f * h')) (d * c' + (e * f' + f * i')) (g * a' + (h * d' + i * g')) (g * b' + (h * e' + i * h')) (g * c' + (h * f' + i * i')) =
      det3 a b c d e f g h i * det3 a' b' c' d' e' f' g' h' i' := by unfold det3; grind
  rw [this, x, y]; rfl
theorem det2_mul {a b c d e f g h : Int} (x : a * d - b * c = 1) (y : e * h - f * g = 1) : (a * e + b * g) * (c * f + d * h) - (a * f + b * h) * (c * e + d * g) = 1 := by grind
/-- the factor of a step -/
theorem fac_bd {x most : Int} (h : 0 ≤ most) (h2 : most ≤ 1000) : Bd 11 (x % (2 * most + 1) - most) := by
  have a := Int.emod_nonneg x (by omega : 2 * most + 1 ≠ 0)
  have b := Int.emod_lt_of_pos x (by omega : 0 < 2 * most + 1)
  unfold Bd
  omega
theorem adj_s {a b c d e f g h i : Int} {k : Nat} (x : B3 k a b c d e f g h i) : B3 (k + k + 1) (e * i - f * h) (-(b * i - c * h)) (b * f - c * e) (-(d * i - f * g)) (a * i - c * g) (-(a * f - c * d)) (d * h - e * g) (-(a * h - b * g)) (a * e - b * d) := by
  obtain ⟨ha, hb, hc, hd, he, hf, hg, hh, hi⟩ := x
  have m : ∀ {x y z w : Int}, Bd k x → Bd k y → Bd k z → Bd k w → Bd (k + k + 1) (x * y - z * w) := fun p q r s => bd_sub (bd_mul p q) (bd_mul r s)
  exact ⟨m he hi hf hh, bd_neg (m hb hi hc hh), m hb hf hc he, bd_neg (m hd hi hf hg), m ha hi hc hg, bd_neg (m ha hf hc hd), m hd hh he hg, bd_neg (m ha hh hb hg), m ha he hb hd⟩
theorem adj_det {a b c d e f g h i : Int} (t : det3 a b c d e f g h i = 1) : det3 (e * i - f * h) (-(b * i - c * h)) (b * f - c * e) (-(d * i - f * g)) (a * i - c * g) (-(a * f - c * d)) (d * h - e * g) (-(a * h - b * g)) (a * e - b * d) = 1 := by
  have : det3 (e * i - f * h) (-(b * i - c * h)) (b * f - c * e) (-(d * i - f * g)) (a * i - c * g) (-(a * f - c * d)) (d * h - e * g) (-(a * h - b * g)) (a * e - b * d) = det3 a b c d e f g h i * det3 a b c d e f g h i := by unfold det3; grind
  rw [this, t]; rfl



/-! ### tables of two and of three rows at once: three rows, two rows bordered -/
structure M9 where
  a : Int
  b : Int
  c : Int
  d : Int
  e : Int
  f : Int
  g : Int
  h : Int
  i : Int
deriving DecidableEq
def T9 (n : Nat) (x : M9) : D := if n = 2 then T2 x.a x.b x.d x.e else T3 x.a x.b x.c x.d x.e x.f x.g x.h x.i
def In (n : Nat) (x : M9) : Prop := n = 3 ∨ n = 2 ∧ x.c = 0 ∧ x.f = 0 ∧ x.g = 0 ∧ x.h = 0 ∧ x.i = 1
def mul9 (x y : M9) : M9 := ⟨x.a * y.a + (x.b * y.d + x.c * y.g), x.a * y.b + (x.b * y.e + x.c * y.h), x.a * y.c + (x.b * y.f + x.c * y.i),
  x.d * y.a + (x.e * y.d + x.f * y.g), x.d * y.b + (x.e * y.e + x.f * y.h), x.d * y.c + (x.e * y.f + x.f * y.i),
  x.g * y.a + (x.h * y.d + x.i * y.g), x.g * y.b + (x.h * y.e + x.i * y.h), x.g * y.c + (x.h * y.f + x.i * y.i)⟩
def one9 : M9 := ⟨1, 0, 0, 0, 1, 0, 0, 0, 1⟩
def back9 (x : M9) : M9 := ⟨x.e * x.i - x.f * x.h, -(x.b * x.i - x.c * x.h), x.b * x.f - x.c * x.e, -(x.d * x.i - x.f * x.g), x.a * x.i - x.c * x.g, -(x.a * x.f - x.c * x.d), x.d * x.h - x.e * x.g, -(x.a * x.h - x.b * x.g), x.a * x.e - x.b * x.d⟩
def dt9 (x : M9) : Int := det3 x.a x.b x.c x.d x.e x.f x.g x.h x.i
def det9 (x : M9) : Prop := dt9 x = 1
instance det9_dec {x : M9} : Decidable (det9 x) := by unfold det9; infer_instance
def Bd9 (k : Nat) (x : M9) : Prop := B3 k x.a x.b x.c x.d x.e x.f x.g x.h x.i
def st9 (i j : Nat) (k : Int) : M9 := match i, j with
  | 0, 1 => ⟨1, k, 0, 0, 1, 0, 0, 0, 1⟩
  | 0, 2 => ⟨1, 0, k, 0, 1, 0, 0, 0, 1⟩
  | 1, 0 => ⟨1, 0, 0, k, 1, 0, 0, 0, 1⟩
  | 1, 2 => ⟨1, 0, 0, 0, 1, k, 0, 0, 1⟩
  | 2, 0 => ⟨1, 0, 0, 0, 1, 0, k, 0, 1⟩
  | _, _ => ⟨1, 0, 0, 0, 1, 0, 0, k, 1⟩
structure Pl (n i j : Nat) : Prop where
  lo : 2 ≤ n
  hi : n ≤ 3
  il : i < n
  jl : j < n
  ne : i ≠ j
theorem Pl.cases {n i j : Nat} (h : Pl n i j) : (n = 2 ∧ (i = 0 ∧ j = 1 ∨ i = 1 ∧ j = 0)) ∨ (n = 3 ∧ (i = 0 ∧ j = 1 ∨ i = 0 ∧ j = 2 ∨ i = 1 ∧ j = 0 ∨ i = 1 ∧ j = 2 ∨ i = 2 ∧ j = 0 ∨ i = 2 ∧ j = 1)) := by
  obtain ⟨h1, h2, h3, h4, h5⟩ := h
  omega
theorem mul9_assoc {x y z : M9} : mul9 (mul9 x y) z = mul9 x (mul9 y z) := by
  simp only [mul9, M9.mk.injEq]
  refine ⟨?_, ?_, ?_, ?_, ?_, ?_, ?_, ?_, ?_⟩ <;> grind
theorem one_mul9 {x : M9} : mul9 one9 x = x := by simp [mul9, one9]
theorem mul9_one {x : M9} : mul9 x one9 = x := by simp [mul9, one9]
theorem mul9_back {x : M9} (h : det9 x) : mul9 x (back9 x) = one9 := by
  have h : x.a * (x.e * x.i - x.f * x.h) - x.b * (x.d * x.i - x.f * x.g) + x.c * (x.d * x.h - x.e * x.g) = 1 := h
  simp only [mul9, back9, one9, M9.mk.injEq]
  refine ⟨?_, ?_, ?_, ?_, ?_, ?_, ?_, ?_, ?_⟩ <;> grind
theorem back9_mul {x : M9} (h : det9 x) : mul9 (back9 x) x = one9 := by
  have h : x.a * (x.e * x.i - x.f * x.h) - x.b * (x.d * x.i - x.f * x.g) + x.c * (x.d * x.h - x.e * x.g) = 1 := h
  simp only [mul9, back9, one9, M9.mk.injEq]
  refine ⟨?_, ?_, ?_, ?_, ?_, ?_, ?_, ?_, ?_⟩ <;> grind
theorem det9_mul {x y : M9} (h : det9 x) (h' : det9 y) : det9 (mul9 x y) := det3_mul h h'
theorem det9_one : det9 one9 := by decide
theorem det9_back {x : M9} (h : det9 x) : det9 (back9 x) := by
  unfold det9 dt9 back9
  exact adj_det h
theorem back9_unique {x y : M9} (h : det9 x) (e : mul9 x y = one9) : y = back9 x := by
  have : mul9 (back9 x) (mul9 x y) = back9 x := by rw [e, mul9_one]
  rw [← mul9_assoc, back9_mul h, one_mul9] at this
  exact this
theorem back9_of_mul {x y : M9} (h : det9 x) (h' : det9 y) : back9 (mul9 x y) = mul9 (back9 y) (back9 x) := by
  refine (back9_unique (det9_mul h h') ?_).symm
  rw [mul9_assoc, ← mul9_assoc (x := y), mul9_back h', one_mul9, mul9_back h]
theorem back9_one : back9 one9 = one9 := by decide
theorem back9_back {x : M9} (h : det9 x) : back9 (back9 x) = x := (back9_unique (det9_back h) (back9_mul h)).symm
theorem In.mul {n : Nat} {x y : M9} (h : In n x) (h' : In n y) : In n (mul9 x y) := by
  rcases h with h | ⟨h, h1, h2, h3, h4, h5⟩
  · exact .inl h
  · rcases h' with h' | ⟨_, g1, g2, g3, g4, g5⟩
    · exact .inl h'
    · exact .inr ⟨h, by simp [mul9, *]⟩
theorem In.back {n : Nat} {x : M9} (h : In n x) (d : det9 x) : In n (back9 x) := by
  rcases h with h | ⟨h, h1, h2, h3, h4, h5⟩
  · exact .inl h
  · refine .inr ⟨h, ?_⟩
    have d : x.a * (x.e * x.i - x.f * x.h) - x.b * (x.d * x.i - x.f * x.g) + x.c * (x.d * x.h - x.e * x.g) = 1 := d
    rw [h1, h2, h3, h4, h5] at d
    simp only [back9, h1, h2, h3, h4, h5]
    refine ⟨by simp, by simp, by simp, by simp, ?_⟩
    grind
theorem In.one {n : Nat} (hn : n = 2 ∨ n = 3) : In n one9 := by
  rcases hn with h | h
  · exact .inr ⟨h, by decide⟩
  · exact .inl h
theorem Pl.in9 {n i j : Nat} (h : Pl n i j) (k : Int) : In n (st9 i j k) := by
  rcases h.cases with ⟨rfl, ⟨rfl, rfl⟩ | ⟨rfl, rfl⟩⟩ | ⟨rfl, _⟩
  · exact .inr ⟨rfl, by simp [st9]⟩
  · exact .inr ⟨rfl, by simp [st9]⟩
  · exact .inl rfl
theorem Pl.det {n i j : Nat} (h : Pl n i j) (k : Int) : det9 (st9 i j k) := by
  rcases h.cases with ⟨rfl, ⟨rfl, rfl⟩ | ⟨rfl, rfl⟩⟩ | ⟨rfl, ⟨rfl, rfl⟩ | ⟨rfl, rfl⟩ | ⟨rfl, rfl⟩ | ⟨rfl, rfl⟩ | ⟨rfl, rfl⟩ | ⟨rfl, rfl⟩⟩ <;> simp [det9, dt9, det3, st9]
theorem Pl.add {n i j : Nat} (h : Pl n i j) (k l : Int) : mul9 (st9 i j k) (st9 i j l) = st9 i j (k + l) := by
  rcases h.cases with ⟨rfl, ⟨rfl, rfl⟩ | ⟨rfl, rfl⟩⟩ | ⟨rfl, ⟨rfl, rfl⟩ | ⟨rfl, rfl⟩ | ⟨rfl, rfl⟩ | ⟨rfl, rfl⟩ | ⟨rfl, rfl⟩ | ⟨rfl, rfl⟩⟩ <;> simp [mul9, st9] <;> omega
theorem Pl.zero {n i j : Nat} (h : Pl n i j) : st9 i j 0 = one9 := by
  rcases h.cases with ⟨rfl, ⟨rfl, rfl⟩ | ⟨rfl, rfl⟩⟩ | ⟨rfl, ⟨rfl, rfl⟩ | ⟨rfl, rfl⟩ | ⟨rfl, rfl⟩ | ⟨rfl, rfl⟩ | ⟨rfl, rfl⟩ | ⟨rfl, rfl⟩⟩ <;> rfl
theorem Pl.back {n i j : Nat} (h : Pl n i j) (k : Int) : back9 (st9 i j k) = st9 i j (-k) :=
  (back9_unique (h.det k) (by rw [h.add, Int.add_right_neg, h.zero])).symm
theorem Bd9.up {j k : Nat} {x : M9} (h : Bd9 j x) (l : j ≤ k) : Bd9 k x := B3.up h l
theorem Bd9.mul {j k : Nat} {x y : M9} (h : Bd9 j x) (h' : Bd9 k y) : Bd9 (j + k + 2) (mul9 x y) := B3.mul h h'
theorem Bd9.back {k : Nat} {x : M9} (h : Bd9 k x) : Bd9 (k + k + 1) (back9 x) := adj_s h
theorem Bd9.one {k : Nat} (h : 1 ≤ k) : Bd9 k one9 := ⟨bd1 h, bd0, bd0, bd0, bd1 h, bd0, bd0, bd0, bd1 h⟩
theorem Pl.bd {n i j m : Nat} {k : Int} (h : Pl n i j) (hk : Bd m k) (hm : 1 ≤ m) : Bd9 m (st9 i j k) := by
  have o : Bd m 1 := bd1 hm
  have z : Bd m 0 := bd0
  rcases h.cases with ⟨rfl, ⟨rfl, rfl⟩ | ⟨rfl, rfl⟩⟩ | ⟨rfl, ⟨rfl, rfl⟩ | ⟨rfl, rfl⟩ | ⟨rfl, rfl⟩ | ⟨rfl, rfl⟩ | ⟨rfl, rfl⟩ | ⟨rfl, rfl⟩⟩ <;>
    exact ⟨by simp [st9, *], by simp [st9, *], by simp [st9, *], by simp [st9, *], by simp [st9, *], by simp [st9, *], by simp [st9, *], by simp [st9, *], by simp [st9, *]⟩
/-! the functions on such tables -/
theorem t9_3 {x : M9} : T9 3 x = T3 x.a x.b x.c x.d x.e x.f x.g x.h x.i := rfl
theorem t9_2 {x : M9} : T9 2 x = T2 x.a x.b x.d x.e := rfl
theorem t9_facts (n : Nat) : (∀ x, isBo (T9 n x) = false) ∧ (∀ x, kid (T9 n x) = T9 n x) ∧ (∀ x, argD (T9 n x) = T9 n x) ∧ ∀ x, frz (T9 n x) = T9 n x := by
  refine ⟨fun x => ?_, fun x => ?_, fun x => ?_, fun x => ?_⟩ <;> unfold T9 <;> split <;> simp
theorem t9_self {n : Nat} {x : M9} : Self (T9 n x) := by
  obtain ⟨a, b, c, d⟩ := t9_facts n
  exact ⟨a x, c x, b x, d x⟩
theorem t9_len {n : Nat} {x : M9} (hn : n = 2 ∨ n = 3) : evBlt .len [T9 n x] = .ok (.int n) := by rcases hn with rfl | rfl <;> rfl
theorem T9_inj {n : Nat} {x y : M9} (h : In n x) (h' : In n y) (e : T9 n x = T9 n y) : x = y := by
  obtain ⟨_, _, _, _, _, _, _, _, _⟩ := x
  obtain ⟨_, _, _, _, _, _, _, _, _⟩ := y
  rcases h with rfl | ⟨rfl, h1, h2, h3, h4, h5⟩
  · simpa [T9, and_assoc] using e
  · rcases h' with h' | ⟨_, g1, g2, g3, g4, g5⟩
    · cases h'
    · simp only at *
      subst h1 h2 h3 h4 h5 g1 g2 g3 g4 g5
      simpa [T9, and_assoc] using e
theorem Bd9.s3 {k : Nat} {x : M9} (h : Bd9 k x) (l : k ≤ 10000) : S3 x.a x.b x.c x.d x.e x.f x.g x.h x.i := B3.s h l
theorem Bd9.s2 {k : Nat} {x : M9} (h : Bd9 k x) (l : k ≤ 10000) : S2 x.a x.b x.d x.e := by
  obtain ⟨h1, h2, h3, h4, h5, h6, h7, h8, h9⟩ := h
  exact ⟨bd_mono h1 l, bd_mono h2 l, bd_mono h4 l, bd_mono h5 l⟩
theorem In.cases {n : Nat} {x : M9} (h : In n x) : n = 2 ∧ x = ⟨x.a, x.b, 0, x.d, x.e, 0, 0, 0, 1⟩ ∨ n = 3 := by
  rcases h with h | ⟨h, h1, h2, h3, h4, h5⟩
  · exact .inr h
  · refine .inl ⟨h, ?_⟩
    obtain ⟨_, _, _, _, _, _, _, _, _⟩ := x
    simp only at *
    subst h1 h2 h3 h4 h5
    rfl
theorem dt_2 {a b d e : Int} : det3 a b 0 d e 0 0 0 1 = a * e - b * d := by unfold det3; grind


/-! ### remainders -/
theorem number_ok {N : Int} (h : 1 ≤ N) (h2 : N ≤ 60) : g_look_at_number [.int N, .int 60] = .ok .non := by
  simp [g_look_at_number, run_eq, t_look_at_number, is_integer_i, h, h2]
theorem number_bad {N : Int} (h : ¬ (1 ≤ N ∧ N ≤ 60)) : g_look_at_number [.int N, .int 60] = .er .number := by
  by_cases q : 1 ≤ N
  · have : ¬ N ≤ 60 := fun z => h ⟨q, z⟩
    simp [g_look_at_number, run_eq, t_look_at_number, is_integer_i, q, this]
  · simp [g_look_at_number, run_eq, t_look_at_number, is_integer_i, q]
theorem number_bl {b : Bool} : g_look_at_number [.bl b, .int 60] = .er .number := by
  simp [g_look_at_number, run_eq, t_look_at_number, is_integer_b]
/-! ### tables that are 1 modulo N -/
def One2 (N e f g h : Int) : Prop := ∃ p q r s, e = 1 + N * p ∧ f = N * q ∧ g = N * r ∧ h = 1 + N * s
def One3 (N a b c d e f g h i : Int) : Prop := ∃ p1 p2 p3 p4 p5 p6 p7 p8 p9, a = 1 + N * p1 ∧ b = N * p2 ∧ c = N * p3 ∧ d = N * p4 ∧ e = 1 + N * p5 ∧ f = N * p6 ∧ g = N * p7 ∧ h = N * p8 ∧ i = 1 + N * p9
theorem One2.mul {N a b c d e f g h : Int} (x : One2 N a b c d) (y : One2 N e f g h) : One2 N (a * e + b * g) (a * f + b * h) (c * e + d * g) (c * f + d * h) := by
  obtain ⟨p, q, r, s, rfl, rfl, rfl, rfl⟩ := x
  obtain ⟨p', q', r', s', rfl, rfl, rfl, rfl⟩ := y
  exact ⟨p + p' + N * p * p' + N * q * r', q' + N * p * q' + q + N * q * s', r + N * r * p' + r' + N * s * r', s + s' + N * s * s' + N * r * q', by grind, by grind, by grind, by grind⟩
theorem One3.mul {N a b c d e f g h i a' b' c' d' e' f' g' h' i' : Int} (x : One3 N a b c d e f g h i) (y : One3 N a' b' c' d' e' f' g' h' i') :
    One3 N (a * a' + (b * d' + c * g')) (a * b' + (b * e' + c * h')) (a * c' + (b * f' + c * i')) (d * a' + (e * d' + f * g')) (d * b' + (e * e' + f * h')) (d * c' + (e * f' + f * i')) (g * a' + (h * d' + i * g')) (g * b' + (h * e' + i * h')) (g * c' + (h * f' + i * i')) := by
  obtain ⟨p1, p2, p3, p4, p5, p6, p7, p8, p9, rfl, rfl, rfl, rfl, rfl, rfl, rfl, rfl, rfl⟩ := x
  obtain ⟨q1, q2, q3, q4, q5, q6, q7, q8, q9, rfl, rfl, rfl, rfl, rfl, rfl, rfl, rfl, rfl⟩ := y
  exact ⟨p1 + q1 + N * (p1 * q1 + p2 * q4 + p3 * q7), q2 + p2 + N * (p1 * q2 + p2 * q5 + p3 * q8), q3 + p3 + N * (p1 * q3 + p2 * q6 + p3 * q9), p4 + q4 + N * (p4 * q1 + p5 * q4 + p6 * q7), p5 + q5 + N * (p4 * q2 + p5 * q5 + p6 * q8), q6 + p6 + N * (p4 * q3 + p5 * q6 + p6 * q9),
    p7 + q7 + N * (p7 * q1 + p8 * q4 + p9 * q7), p8 + q8 + N * (p7 * q2 + p8 * q5 + p9 * q8), p9 + q9 + N * (p7 * q3 + p8 * q6 + p9 * q9), by grind, by grind, by grind, by grind, by grind, by grind, by grind, by grind, by grind⟩
theorem mod_one2 {N a b c d e f g h : Int} (y : One2 N e f g h) : (a * e + b * g) % N = a % N ∧ (a * f + b * h) % N = b % N ∧ (c * e + d * g) % N = c % N ∧ (c * f + d * h) % N = d % N := by
  obtain ⟨p, q, r, s, rfl, rfl, rfl, rfl⟩ := y
  have k : ∀ {x y z : Int}, x = y + N * z → x % N = y % N := fun {x y z} e => by rw [e]; exact Int.add_mul_emod_self_left y N z
  exact ⟨k (z := a * p + b * r) (by grind), k (z := a * q + b * s) (by grind), k (z := c * p + d * r) (by grind), k (z := c * q + d * s) (by grind)⟩
theorem mod_one3 {N a b c d e f g h i a' b' c' d' e' f' g' h' i' : Int} (y : One3 N a' b' c' d' e' f' g' h' i') :
    (a * a' + (b * d' + c * g')) % N = a % N ∧ (a * b' + (b * e' + c * h')) % N = b % N ∧ (a * c' + (b * f' + c * i')) % N = c % N ∧ (d * a' + (e * d' + f * g')) % N = d % N ∧ (d * b' + (e * e' + f * h')) % N = e % N ∧ (d * c' + (e * f' + f * i')) % N = f % N ∧ (g * a' + (h * d' + i * g')) % N = g % N ∧ (g * b' + (h * e' + i * h')) % N = h % N ∧ (g * c' + (h * f' + i * i')) % N = i % N := by
  obtain ⟨q1, q2, q3, q4, q5, q6, q7, q8, q9, rfl, rfl, rfl, rfl, rfl, rfl, rfl, rfl, rfl⟩ := y
  have k : ∀ {x y z : Int}, x = y + N * z → x % N = y % N := fun {x y z} e => by rw [e]; exact Int.add_mul_emod_self_left y N z
  exact ⟨k (z := a * q1 + b * q4 + c * q7) (by grind), k (z := a * q2 + b * q5 + c * q8) (by grind), k (z := a * q3 + b * q6 + c * q9) (by grind), k (z := d * q1 + e * q4 + f * q7) (by grind), k (z := d * q2 + e * q5 + f * q8) (by grind), k (z := d * q3 + e * q6 + f * q9) (by grind),
    k (z := g * q1 + h * q4 + i * q7) (by grind), k (z := g * q2 + h * q5 + i * q8) (by grind), k (z := g * q3 + h * q6 + i * q9) (by grind)⟩
/-! ### _law_det, _law_is_table (out of k41_z) -/
theorem law_det_2 {a b c d : Int} (s : S2 a b c d) : g_law_det [T2 a b c d] = .ok (.int (a * d - b * c)) := by
  obtain ⟨ha, hb, hc, hd⟩ := s
  simp [g_law_det, run_eq, t_law_det, mulOk_q, *]
theorem law_det_3 {a b c d e f g h i : Int} (s : S3 a b c d e f g h i) : g_law_det [T3 a b c d e f g h i] = .ok (.int (det3 a b c d e f g h i)) := by
  obtain ⟨ha, hb, hc, hd, he, hf, hg, hh, hi⟩ := s
  simp [g_law_det, run_eq, t_law_det, mulOk_q, mulOk_m, det3, *]
theorem law_det_n {n k : Nat} {x : M9} (h : In n x) (b : Bd9 k x) (hk : k ≤ 10000) (d : det9 x) : g_law_det [T9 n x] = .ok (.int 1) := by
  rcases h.cases with ⟨rfl, q⟩ | rfl
  · have := law_det_2 (b.s2 hk)
    rw [t9_2, this]
    congr 2
    rw [q] at d
    unfold det9 dt9 at d
    simp only [dt_2] at d
    exact d
  · have := law_det_3 (b.s3 hk)
    rw [t9_3, this]
    congr 2
/-! ### all_modulo -/
theorem loop_acc {α : Type} {c : Cn} {n : Nat} {g : G} {b : List T} (P : List D → α → Rho) (f : Nat → List D) (m : Nat) (hf : ∀ k, (f k).length ≤ m) :
    ∀ (xs : List Nat) (acc : List D) (o : α), acc.length + xs.length * m ≤ 16000000 → (∀ k ∈ xs, ∀ acc o, acc.length + m ≤ 16000000 → ∃ o', bodyO c n b (setG g (.int (0 + (k : Int))) (P acc o)) = .nx (P (acc ++ f k) o')) →
      ∃ o', loopT c n g b (P acc o) (xs.map fun (k : Nat) => D.int (0 + (k : Int))) = .nx (P (acc ++ xs.flatMap f) o')
  | [], acc, o, _, _ => ⟨o, by simp⟩
  | x :: xs, acc, o, h, st => by
    have hm := hf x
    rw [List.length_cons, Nat.add_mul, Nat.one_mul] at h
    obtain ⟨o1, e1⟩ := st x List.mem_cons_self acc o (by omega)
    obtain ⟨o2, e2⟩ := loop_acc P f m hf xs (acc ++ f x) o1 (by rw [List.length_append]; omega) fun k mk => st k (List.mem_cons_of_mem _ mk)
    refine ⟨o2, ?_⟩
    rw [List.map_cons, loopT_cons, e1, nextT_nx, e2, List.flatMap_cons, List.append_assoc]
theorem len_flat {α β : Type} {f : α → List β} {m : Nat} (hf : ∀ k, (f k).length ≤ m) : ∀ xs : List α, (xs.flatMap f).length ≤ xs.length * m
  | [] => by simp
  | x :: xs => by
    have := len_flat hf xs
    have := hf x
    rw [List.flatMap_cons, List.length_append, List.length_cons, Nat.add_mul, Nat.one_mul]
    omega
abbrev sq4 (a b c d : Nat) : D := .tup [.tup [.int (a : Int), .int (b : Int)], .tup [.int (c : Int), .int (d : Int)]]
def amD (N a b c d : Nat) : List D := if ((a : Int) * d - b * c - 1) % (N : Int) = 0 then [sq4 a b c d] else []
def amC (N a b c : Nat) : List D := (List.range N).flatMap (amD N a b c)
def amB (N a b : Nat) : List D := (List.range N).flatMap (amC N a b)
def amA (N a : Nat) : List D := (List.range N).flatMap (amB N a)
def amL (N : Nat) : List D := (List.range N).flatMap (amA N)
theorem amD_len {N a b c : Nat} : ∀ d, (amD N a b c d).length ≤ 1 := fun d => by unfold amD; split <;> simp
theorem amC_len {N a b : Nat} : ∀ c, (amC N a b c).length ≤ N := fun c => by
  have := len_flat (amD_len (N := N) (a := a) (b := b) (c := c)) (List.range N)
  rw [List.length_range, Nat.mul_one] at this
  exact this
theorem amB_len {N a : Nat} : ∀ b, (amB N a b).length ≤ N * N := fun b => by
  have := len_flat (amC_len (N := N) (a := a) (b := b)) (List.range N)
  rwa [List.length_range] at this
theorem amA_len {N : Nat} : ∀ a, (amA N a).length ≤ N * (N * N) := fun a => by
  have := len_flat (amB_len (N := N) (a := a)) (List.range N)
  rwa [List.length_range] at this
theorem amL_len {N : Nat} : (amL N).length ≤ N * (N * (N * N)) := by
  have := len_flat (amA_len (N := N)) (List.range N)
  rwa [List.length_range] at this
abbrev cAm : Cn := { fs := [g_look_at_number], ecs := mo.ecs }
abbrev amS (N : Nat) (acc : List D) (a b c d : Option D) : Rho := [some (.int (N : Int)), some (.rg 0 (N : Int)), some (.lst .ow acc), a, b, c, d]
theorem isW_rg {st : Bool} {i j : Int} : isW st (.rg i j) = false := by cases st <;> rfl
theorem sq_nil {c : Cn} {n : Nat} {o : Out} : seqO c n [] o = o := by cases o <;> simp [seqO]
section
variable {N : Nat}
theorem am_1 (hN : 1 ≤ N) (hN2 : N ≤ 12) {a b c d : Nat} (ha : a < N) (hb : b < N) {acc : List D} (hl : acc.length + 1 ≤ 16000000) :
    exs cAm 0 t_all_modulo_L1 (amS N acc (some (.int (a : Int))) (some (.int (b : Int))) (some (.int (c : Int))) (some (.int (d : Int)))) = .nx (amS N (acc ++ amD N a b c d) (some (.int (a : Int))) (some (.int (b : Int))) (some (.int (c : Int))) (some (.int (d : Int)))) := by
  have m1 : ∀ {z : Int}, mulOk (a : Int) z = true := mulOk_l (by unfold sml big64; simp; omega)
  have m2 : ∀ {z : Int}, mulOk (b : Int) z = true := mulOk_l (by unfold sml big64; simp; omega)
  have p : 0 < N := by omega
  have l : acc.length < 16777216 := by omega
  unfold amD
  by_cases h : ((a : Int) * d - b * c - 1) % (N : Int) = 0
  · rw [if_pos h]
    simp [t_all_modulo_L1, m1, m2, p, h, l]
  · rw [if_neg h]
    simp [t_all_modulo_L1, m1, m2, p, h]
theorem am_rng (hN2 : N ≤ 12) : ∀ {st : Bool}, evI cAm st (.iseq (.var 1)) = fun ρ => seqR st (ev cAm (.var 1) ρ) := by intro st; funext ρ; simp
theorem am_strLit (hN2 : N ≤ 12) : strLit (.rg 0 (N : Int)) = some ((List.range N).map fun (k : Nat) => D.int (0 + (k : Int))) := by
  have h1 : (N : Int) < 4611686018427387904 := by omega
  have h2 : (-4611686018427387904 : Int) ≤ (N : Int) := by omega
  simp [strLit, p62, rangeD, h1, h2]
theorem am_2 (hN : 1 ≤ N) (hN2 : N ≤ 12) {a b c : Nat} (ha : a < N) (hb : b < N) {acc : List D} (hl : acc.length + N ≤ 16000000) {o : Option D} :
    ∃ o', exs cAm 0 t_all_modulo_L2 (amS N acc (some (.int (a : Int))) (some (.int (b : Int))) (some (.int (c : Int))) o) = .nx (amS N (acc ++ amC N a b c) (some (.int (a : Int))) (some (.int (b : Int))) (some (.int (c : Int))) o') := by
  obtain ⟨o', e⟩ := loop_acc (c := cAm) (n := 0) (g := .nm 6) (b := t_all_modulo_L1) (fun acc (o : Option D) => amS N acc (some (.int (a : Int))) (some (.int (b : Int))) (some (.int (c : Int))) o) (amD N a b c) 1 amD_len (List.range N) acc o (by rw [List.length_range]; omega) fun d _ acc o h => ⟨some (.int (d : Int)), by
    rw [setG_nm]
    show bodyO cAm 0 t_all_modulo_L1 (some (amS N acc (some (.int (a : Int))) (some (.int (b : Int))) (some (.int (c : Int))) (some (.int (0 + (d : Int)))))) = _
    rw [bodyO_some, Int.zero_add]
    exact am_1 hN hN2 ha hb h⟩
  refine ⟨o', ?_⟩
  have sl := am_strLit hN2
  simp only [Int.zero_add] at e sl
  simp [t_all_modulo_L2, sl, isW_rg, sq_nil, -t_all_modulo_L1]
  exact e
theorem am_3 (hN : 1 ≤ N) (hN2 : N ≤ 12) {a b : Nat} (ha : a < N) (hb : b < N) {acc : List D} (hl : acc.length + N * N ≤ 16000000) {o : Option D × Option D} :
    ∃ o' : Option D × Option D, exs cAm 0 t_all_modulo_L3 (amS N acc (some (.int (a : Int))) (some (.int (b : Int))) o.1 o.2) = .nx (amS N (acc ++ amB N a b) (some (.int (a : Int))) (some (.int (b : Int))) o'.1 o'.2) := by
  obtain ⟨o', e⟩ := loop_acc (c := cAm) (n := 0) (g := .nm 5) (b := t_all_modulo_L2) (fun acc (o : Option D × Option D) => amS N acc (some (.int (a : Int))) (some (.int (b : Int))) o.1 o.2) (amC N a b) N amC_len (List.range N) acc o (by rw [List.length_range]; omega) fun c hc acc o h => by
    obtain ⟨o2, e2⟩ := am_2 hN hN2 ha hb (c := c) h (o := o.2)
    refine ⟨(some (.int (c : Int)), o2), ?_⟩
    rw [setG_nm]
    show bodyO cAm 0 t_all_modulo_L2 (some (amS N acc (some (.int (a : Int))) (some (.int (b : Int))) (some (.int (0 + (c : Int)))) o.2)) = _
    rw [bodyO_some, Int.zero_add]
    exact e2
  refine ⟨o', ?_⟩
  have sl := am_strLit hN2
  simp only [Int.zero_add] at e sl
  simp [t_all_modulo_L3, sl, isW_rg, sq_nil, -t_all_modulo_L2]
  exact e
theorem am_4 (hN : 1 ≤ N) (hN2 : N ≤ 12) {a : Nat} (ha : a < N) {acc : List D} (hl : acc.length + N * (N * N) ≤ 16000000) {o : Option D × Option D × Option D} :
    ∃ o' : Option D × Option D × Option D, exs cAm 0 t_all_modulo_L4 (amS N acc (some (.int (a : Int))) o.1 o.2.1 o.2.2) = .nx (amS N (acc ++ amA N a) (some (.int (a : Int))) o'.1 o'.2.1 o'.2.2) := by
  obtain ⟨o', e⟩ := loop_acc (c := cAm) (n := 0) (g := .nm 4) (b := t_all_modulo_L3) (fun acc (o : Option D × Option D × Option D) => amS N acc (some (.int (a : Int))) o.1 o.2.1 o.2.2) (amB N a) (N * N) amB_len (List.range N) acc o (by rw [List.length_range]; omega) fun b hb acc o h => by
    obtain ⟨o2, e2⟩ := am_3 hN hN2 ha (List.mem_range.mp hb) h (o := o.2)
    refine ⟨(some (.int (b : Int)), o2), ?_⟩
    rw [setG_nm]
    show bodyO cAm 0 t_all_modulo_L3 (some (amS N acc (some (.int (a : Int))) (some (.int (0 + (b : Int)))) o.2.1 o.2.2)) = _
    rw [bodyO_some, Int.zero_add]
    exact e2
  refine ⟨o', ?_⟩
  have sl := am_strLit hN2
  simp only [Int.zero_add] at e sl
  simp [t_all_modulo_L4, sl, isW_rg, sq_nil, -t_all_modulo_L3]
  exact e
theorem all_modulo_ok (hN : 1 ≤ N) (hN2 : N ≤ 12) : g_all_modulo [.int (N : Int)] = .ok (.lst .ow (amL N)) := by
  have cube : N * (N * (N * N)) ≤ 16000000 := by
    have h1 : N * N ≤ 12 * 12 := Nat.mul_le_mul hN2 hN2
    have h2 : N * (N * N) ≤ 12 * (12 * 12) := Nat.mul_le_mul hN2 h1
    have h3 : N * (N * (N * N)) ≤ 12 * (12 * (12 * 12)) := Nat.mul_le_mul hN2 h2
    omega
  obtain ⟨o', e⟩ := loop_acc (c := cAm) (n := 0) (g := .nm 3) (b := t_all_modulo_L4) (fun acc (o : Option D × Option D × Option D × Option D) => amS N acc o.1 o.2.1 o.2.2.1 o.2.2.2) (amA N) (N * (N * N)) amA_len (List.range N) [] (none, none, none, none) (by rw [List.length_range]; simpa using cube) fun a ha acc o h => by
    obtain ⟨o2, e2⟩ := am_4 hN hN2 (List.mem_range.mp ha) h (o := o.2)
    refine ⟨(some (.int (a : Int)), o2), ?_⟩
    rw [setG_nm]
    show bodyO cAm 0 t_all_modulo_L4 (some (amS N acc (some (.int (0 + (a : Int)))) o.2.1 o.2.2.1 o.2.2.2)) = _
    rw [bodyO_some, Int.zero_add]
    exact e2
  have sl := am_strLit hN2
  have nk : g_look_at_number [.int (N : Int), .int 12] = .ok .non := by
    have h1 : (1 : Int) ≤ (N : Int) := by omega
    have h2 : (N : Int) ≤ 12 := by omega
    simp [g_look_at_number, run_eq, t_look_at_number, is_integer_i, h1, h2]
  have h1 : (N : Int) < 4611686018427387904 := by omega
  have h2 : (-4611686018427387904 : Int) ≤ (N : Int) := by omega
  simp only [Int.zero_add] at e sl
  rw [List.nil_append] at e
  refine (run_of (g := g_all_modulo) (c := cAm) (n := 0) (k := 6) (b := t_all_modulo) rfl _).trans ?_
  show outR (exs cAm 0 t_all_modulo [some (.int (N : Int)), none, none, none, none, none, none]) = _
  have e : loopT cAm 0 (.nm 3) t_all_modulo_L4 [some (.int (N : Int)), some (.rg 0 (N : Int)), some (.lst .ow []), none, none, none, none] ((List.range N).map fun (k : Nat) => D.int (k : Int)) = .nx (amS N (amL N) o'.1 o'.2.1 o'.2.2.1 o'.2.2.2) := e
  simp [t_all_modulo, nk, p62, h1, h2, sl, isW_rg, e, -t_all_modulo_L4]
end

/-! ### the law k05: squares gone through -/
abbrev cS : Cn := { fs := [g_law_det], ecs := mo.ecs }
def q1 (N : Int) (k : Int) : Int := k / N
abbrev e2 (N k : Int) : M9 := ⟨k % N, k / N % N, 0, k / N / N % N, k / N / N / N % N, 0, 0, 0, 1⟩
abbrev e3 (N k : Int) : M9 := ⟨k % N, k / N % N, k / N / N % N, k / N / N / N % N, k / N / N / N / N % N, k / N / N / N / N / N % N, k / N / N / N / N / N / N % N, k / N / N / N / N / N / N / N % N, k / N / N / N / N / N / N / N / N % N⟩
def ls2 (N : Nat) (k : Nat) : List D := if ((e2 N k).a * (e2 N k).e - (e2 N k).b * (e2 N k).d - 1) % (N : Int) = 0 then [T9 2 (e2 N k)] else []
def ls3 (N : Nat) (k : Nat) : List D := if (dt9 (e3 N k) - 1) % (N : Int) = 0 then [T9 3 (e3 N k)] else []
theorem ls2_len {N : Nat} : ∀ k, (ls2 N k).length ≤ 1 := fun k => by unfold ls2; split <;> simp
theorem ls3_len {N : Nat} : ∀ k, (ls3 N k).length ≤ 1 := fun k => by unfold ls3; split <;> simp
theorem sq_mod {N z : Int} (h1 : 1 ≤ N) (h2 : N ≤ 12) : Sq (z % N) := by
  have a := Int.emod_nonneg z (show N ≠ 0 by omega)
  have b := Int.emod_lt_of_pos z (show 0 < N by omega)
  exact bd_mono (j := 4) (by unfold Bd; omega) (by decide)
section
variable {o3 o4 o6 o7 o8 o9 o10 : Option D} {N : Nat} {acc : List D}
theorem ls3_2 (h1 : 1 ≤ N) (h2 : N ≤ 9) (hl : acc.length + 1 ≤ 16000000) (k : Nat) :
    ∃ p4 p6 p7 p8, exs cS 0 t_law_squares_L3 [some (.int 2), some (.int (N : Int)), some (.lst .ow acc), o3, o4, some (.int (k : Int)), o6, o7, o8, o9, o10] = .nx [some (.int 2), some (.int (N : Int)), some (.lst .ow (acc ++ ls2 N k)), o3, p4, some (.int (k : Int)), p6, p7, p8, o9, o10] := by
  have p : (0 : Int) < (N : Int) := by omega
  have pn : 0 < N := by omega
  have lg : (N : Int) < 18446744073709551616 := by omega
  have lgn : N < 18446744073709551616 := by omega
  have m : ∀ {z : Int}, Sq (z % (N : Int)) := sq_mod (by omega) (by omega)
  have d2 := fun (a b c d : Int) => law_det_2 (a := a % (N : Int)) (b := b % (N : Int)) (c := c % (N : Int)) (d := d % (N : Int)) ⟨m, m, m, m⟩
  have l1 : acc.length < 16777216 := by omega
  have m2 : ∀ {z : Int}, mulOk 2 z = true := mulOk_l (by decide)
  refine ⟨some (.int 3), some (.lst .ow [.int ((k : Int) % N), .int ((k : Int) / N % N), .int ((k : Int) / N / N % N), .int ((k : Int) / N / N / N % N)]), some (.int ((k : Int) / N / N / N / N)), some (T9 2 (e2 N k)), ?_⟩
  unfold ls2
  by_cases h : ((e2 N k).a * (e2 N k).e - (e2 N k).b * (e2 N k).d - 1) % (N : Int) = 0
  · rw [if_pos h]
    simp [T9] at h ⊢
    simp [t_law_squares_L3, p, pn, lg, lgn, d2, m2, l1, h, rngD, p62, rangeD, List.range_succ]
  · rw [if_neg h]
    simp [T9] at h ⊢
    simp [t_law_squares_L3, p, pn, lg, lgn, d2, m2, l1, h, rngD, p62, rangeD, List.range_succ]
theorem ls3_3 (h1 : 1 ≤ N) (h2 : N ≤ 9) (hl : acc.length + 1 ≤ 16000000) (k : Nat) :
    ∃ p4 p6 p7 p8, exs cS 0 t_law_squares_L3 [some (.int 3), some (.int (N : Int)), some (.lst .ow acc), o3, o4, some (.int (k : Int)), o6, o7, o8, o9, o10] = .nx [some (.int 3), some (.int (N : Int)), some (.lst .ow (acc ++ ls3 N k)), o3, p4, some (.int (k : Int)), p6, p7, p8, o9, o10] := by
  have p : (0 : Int) < (N : Int) := by omega
  have pn : 0 < N := by omega
  have lg : (N : Int) < 18446744073709551616 := by omega
  have lgn : N < 18446744073709551616 := by omega
  have m : ∀ {z : Int}, Sq (z % (N : Int)) := sq_mod (by omega) (by omega)
  have d3 := fun (a b c d e f g h i : Int) => law_det_3 (a := a % (N : Int)) (b := b % (N : Int)) (c := c % (N : Int)) (d := d % (N : Int)) (e := e % (N : Int)) (f := f % (N : Int)) (g := g % (N : Int)) (h := h % (N : Int)) (i := i % (N : Int)) ⟨m, m, m, m, m, m, m, m, m⟩
  have l1 : acc.length < 16777216 := by omega
  have m3 : ∀ {z : Int}, mulOk 3 z = true := mulOk_l (by decide)
  refine ⟨some (.int 8), some (.lst .ow [.int ((k : Int) % N), .int ((k : Int) / N % N), .int ((k : Int) / N / N % N), .int ((k : Int) / N / N / N % N), .int ((k : Int) / N / N / N / N % N), .int ((k : Int) / N / N / N / N / N % N), .int ((k : Int) / N / N / N / N / N / N % N), .int ((k : Int) / N / N / N / N / N / N / N % N), .int ((k : Int) / N / N / N / N / N / N / N / N % N)]), some (.int ((k : Int) / N / N / N / N / N / N / N / N / N)), some (T9 3 (e3 N k)), ?_⟩
  unfold ls3
  by_cases h : (dt9 (e3 N k) - 1) % (N : Int) = 0
  · rw [if_pos h]
    simp [T9, dt9] at h ⊢
    simp [t_law_squares_L3, p, pn, lg, lgn, d3, m3, l1, h, rngD, p62, rangeD, List.range_succ]
  · rw [if_neg h]
    simp [T9, dt9] at h ⊢
    simp [t_law_squares_L3, p, pn, lg, lgn, d3, m3, l1, h, rngD, p62, rangeD, List.range_succ]
end



/-! law_squares, whole -/
def sqL2 (N : Nat) : List D := (List.range (N * N * N * N)).flatMap (ls2 N)
def sqL3 (N : Nat) : List D := (List.range (N * N * N * N * N * N * N * N * N)).flatMap (ls3 N)
theorem rg_nat {M : Nat} (h : M < 4611686018427387904) : rngD (.int 0) (.int (M : Int)) = .ok ((List.range M).map fun (k : Nat) => D.int (0 + (k : Int))) := by
  have h1 : (M : Int) < 4611686018427387904 := by omega
  have h2 : (-4611686018427387904 : Int) ≤ (M : Int) := by omega
  simp [rngD, p62, rangeD, h1, h2]
theorem deps_of {n : Nat} : ∀ {xs : List D}, (∀ d ∈ xs, dep n d = true) → deps n xs = true
  | [], _ => by simp [deps]
  | x :: xs, h => by simp only [deps, Bool.and_eq_true]; exact ⟨h x List.mem_cons_self, deps_of fun d m => h d (List.mem_cons_of_mem _ m)⟩
theorem ls2_mem {N k : Nat} {d : D} (h : d ∈ ls2 N k) : d = T9 2 (e2 N k) ∧ ((e2 N k).a * (e2 N k).e - (e2 N k).b * (e2 N k).d - 1) % (N : Int) = 0 := by
  unfold ls2 at h
  split at h
  · rename_i q; exact ⟨List.mem_singleton.mp h, q⟩
  · cases h
theorem ls3_mem {N k : Nat} {d : D} (h : d ∈ ls3 N k) : d = T9 3 (e3 N k) := by
  unfold ls3 at h
  split at h
  · exact List.mem_singleton.mp h
  · cases h
theorem srt_ok {n : Nat} {xs : List D} (hn : n = 2 ∨ n = 3) (h : ∀ d ∈ xs, ∃ x, d = T9 n x) : srtOk xs = true := by
  unfold srtOk
  simp only [Bool.and_eq_true, List.all_eq_true]
  refine ⟨deps_of fun d m => ?_, fun d m => ?_, fun d m d' m' => ?_⟩
  · obtain ⟨x, rfl⟩ := h d m
    rcases hn with rfl | rfl <;> simp [T9, dep, deps]
  · obtain ⟨x, rfl⟩ := h d m
    rcases hn with rfl | rfl <;> simp [T9, isTupNE]
  · obtain ⟨x, rfl⟩ := h d m
    obtain ⟨y, rfl⟩ := h d' m'
    rcases hn with rfl | rfl <;> simp [T9, toPy, toPys, PySem.W.alike, PySem.W.alikeAll]
theorem ints_none {n : Nat} {xs : List D} (hn : n = 2 ∨ n = 3) (h : ∀ d ∈ xs, ∃ x, d = T9 n x) (ne : xs ≠ []) : intsOf xs = none := by
  cases xs with
  | nil => exact absurd rfl ne
  | cons d ds =>
    obtain ⟨x, rfl⟩ := h d List.mem_cons_self
    rcases hn with rfl | rfl <;> simp [T9, intsOf]
theorem frzs_t {n : Nat} {xs : List D} (h : ∀ d ∈ xs, ∃ x, d = T9 n x) : frzs xs = xs := by
  rw [frzs_map]
  conv => rhs; rw [← List.map_id xs]
  refine List.map_congr_left fun d m => ?_
  obtain ⟨x, rfl⟩ := h d m
  exact t9_self.2.2.2
theorem sqL2_t {N : Nat} : ∀ d ∈ sqL2 N, ∃ x, d = T9 2 x := fun d m => by
  obtain ⟨k, _, m⟩ := List.mem_flatMap.mp m
  exact ⟨_, (ls2_mem m).1⟩
theorem sqL3_t {N : Nat} : ∀ d ∈ sqL3 N, ∃ x, d = T9 3 x := fun d m => by
  obtain ⟨k, _, m⟩ := List.mem_flatMap.mp m
  exact ⟨_, ls3_mem m⟩
abbrev sqS (n : Int) (N : Nat) (M : Int) (acc : List D) (o4 o5 o6 o7 o8 : Option D) : Rho := [some (.int n), some (.int (N : Int)), some (.lst .ow acc), some (.int M), o4, o5, o6, o7, o8, none, none]
abbrev OO := Option D × Option D × Option D × Option D × Option D
theorem law_squares_2 {N : Nat} (h1 : 1 ≤ N) (h2 : N ≤ 9) (ne : sqL2 N ≠ []) : g_law_squares [.int 2, .int (N : Int)] = .ok (.lst .ow (sortD (sqL2 N))) := by
  have a1 : N * N ≤ 81 := Nat.mul_le_mul h2 h2
  have a2 : N * N * N ≤ 81 * 9 := Nat.mul_le_mul a1 h2
  have a3 : N * N * N * N ≤ 81 * 9 * 9 := Nat.mul_le_mul a2 h2
  obtain ⟨o', e⟩ := loop_acc (c := cS) (n := 0) (g := .nm 5) (b := t_law_squares_L3) (fun acc (o : OO) => sqS 2 N ((N * N * N * N : Nat) : Int) acc o.1 o.2.1 o.2.2.1 o.2.2.2.1 o.2.2.2.2) (ls2 N) 1 ls2_len (List.range (N * N * N * N)) [] (some (.int 3), none, none, none, none) (by rw [List.length_range]; simp; omega) fun k hk acc o h => by
    obtain ⟨p4, p6, p7, p8, e⟩ := ls3_2 h1 h2 h k (o3 := some (.int ((N * N * N * N : Nat) : Int))) (o4 := o.1) (o6 := o.2.2.1) (o7 := o.2.2.2.1) (o8 := o.2.2.2.2) (o9 := none) (o10 := none)
    refine ⟨(p4, some (.int (k : Int)), p6, p7, p8), ?_⟩
    rw [setG_nm]
    show bodyO cS 0 t_law_squares_L3 (some (sqS 2 N ((N * N * N * N : Nat) : Int) acc o.1 (some (.int (0 + (k : Int)))) o.2.2.1 o.2.2.2.1 o.2.2.2.2)) = _
    rw [bodyO_some, Int.zero_add]
    exact e
  have so := srt_ok (.inl rfl) (sqL2_t (N := N))
  have io := ints_none (.inl rfl) (sqL2_t (N := N)) ne
  have fz := frzs_t (sqL2_t (N := N))
  have rg := rg_nat (M := N * N * N * N) (by omega)
  have mN : ∀ {z : Int}, mulOk z (N : Int) = true := mulOk_r (by unfold sml big64; simp; omega)
  have mm : (1 : Int) * (N : Int) * N * N * N = ((N * N * N * N : Nat) : Int) := by simp
  have mm' : (N : Int) * N * N * N = ((N * N * N * N : Nat) : Int) := by simp
  have e : loopT cS 0 (.nm 5) t_law_squares_L3 (sqS 2 N ((N * N * N * N : Nat) : Int) [] (some (.int 3)) none none none none) ((List.range (N * N * N * N)).map fun (k : Nat) => D.int (0 + (k : Int))) = .nx (sqS 2 N ((N * N * N * N : Nat) : Int) (sqL2 N) o'.1 o'.2.1 o'.2.2.1 o'.2.2.2.1 o'.2.2.2.2) := e
  generalize ((List.range (N * N * N * N)).map fun (k : Nat) => D.int (0 + (k : Int))) = RG at *
  generalize ((N * N * N * N : Nat) : Int) = MM at *
  generalize sqL2 N = A at *
  have m22 : mulOk 2 2 = true := by decide
  have S1 : exs cS 0 (t_law_squares.take 2) [some (.int 2), some (.int (N : Int)), none, none, none, none, none, none, none, none, none] = .nx (sqS 2 N MM [] (some (.int 3)) none none none none) := by
    simp [t_law_squares, mN, m22, mm', p62, rangeD, rngD, List.range_succ, -t_law_squares_L3]
  have S2 : exs cS 0 (t_law_squares.drop 2) (sqS 2 N MM [] (some (.int 3)) none none none none) = .rt (.lst .ow (sortD A)) := by
    simp [t_law_squares, rg, e, fz, io, so, srt1_n, -t_law_squares_L3]
  refine (run_of (g := g_law_squares) (c := cS) (n := 0) (k := 9) (b := t_law_squares) rfl _).trans ?_
  show outR (exs cS 0 t_law_squares [some (.int 2), some (.int (N : Int)), none, none, none, none, none, none, none, none, none]) = _
  rw [exs_cut S1, S2, outR_rt]
theorem law_squares_3 {N : Nat} (h1 : 1 ≤ N) (h2 : N ≤ 2) (ne : sqL3 N ≠ []) : g_law_squares [.int 3, .int (N : Int)] = .ok (.lst .ow (sortD (sqL3 N))) := by
  have a1 : N * N ≤ 4 := Nat.mul_le_mul h2 h2
  have a2 : N * N * N ≤ 4 * 2 := Nat.mul_le_mul a1 h2
  have a3 : N * N * N * N ≤ 4 * 2 * 2 := Nat.mul_le_mul a2 h2
  have a4 : N * N * N * N * N ≤ 4 * 2 * 2 * 2 := Nat.mul_le_mul a3 h2
  have a5 : N * N * N * N * N * N ≤ 4 * 2 * 2 * 2 * 2 := Nat.mul_le_mul a4 h2
  have a6 : N * N * N * N * N * N * N ≤ 4 * 2 * 2 * 2 * 2 * 2 := Nat.mul_le_mul a5 h2
  have a7 : N * N * N * N * N * N * N * N ≤ 4 * 2 * 2 * 2 * 2 * 2 * 2 := Nat.mul_le_mul a6 h2
  have a8 : N * N * N * N * N * N * N * N * N ≤ 4 * 2 * 2 * 2 * 2 * 2 * 2 * 2 := Nat.mul_le_mul a7 h2
  obtain ⟨o', e⟩ := loop_acc (c := cS) (n := 0) (g := .nm 5) (b := t_law_squares_L3) (fun acc (o : OO) => sqS 3 N ((N * N * N * N * N * N * N * N * N : Nat) : Int) acc o.1 o.2.1 o.2.2.1 o.2.2.2.1 o.2.2.2.2) (ls3 N) 1 ls3_len (List.range (N * N * N * N * N * N * N * N * N)) [] (some (.int 8), none, none, none, none) (by rw [List.length_range]; simp; omega) fun k hk acc o h => by
    obtain ⟨p4, p6, p7, p8, e⟩ := ls3_3 h1 (by omega) h k (o3 := some (.int ((N * N * N * N * N * N * N * N * N : Nat) : Int))) (o4 := o.1) (o6 := o.2.2.1) (o7 := o.2.2.2.1) (o8 := o.2.2.2.2) (o9 := none) (o10 := none)
    refine ⟨(p4, some (.int (k : Int)), p6, p7, p8), ?_⟩
    rw [setG_nm]
    show bodyO cS 0 t_law_squares_L3 (some (sqS 3 N ((N * N * N * N * N * N * N * N * N : Nat) : Int) acc o.1 (some (.int (0 + (k : Int)))) o.2.2.1 o.2.2.2.1 o.2.2.2.2)) = _
    rw [bodyO_some, Int.zero_add]
    exact e
  have so := srt_ok (.inr rfl) (sqL3_t (N := N))
  have io := ints_none (.inr rfl) (sqL3_t (N := N)) ne
  have fz := frzs_t (sqL3_t (N := N))
  have rg := rg_nat (M := N * N * N * N * N * N * N * N * N) (by omega)
  have mN : ∀ {z : Int}, mulOk z (N : Int) = true := mulOk_r (by unfold sml big64; simp; omega)
  have mm' : (N : Int) * N * N * N * N * N * N * N * N = ((N * N * N * N * N * N * N * N * N : Nat) : Int) := by simp
  have e : loopT cS 0 (.nm 5) t_law_squares_L3 (sqS 3 N ((N * N * N * N * N * N * N * N * N : Nat) : Int) [] (some (.int 8)) none none none none) ((List.range (N * N * N * N * N * N * N * N * N)).map fun (k : Nat) => D.int (0 + (k : Int))) = .nx (sqS 3 N ((N * N * N * N * N * N * N * N * N : Nat) : Int) (sqL3 N) o'.1 o'.2.1 o'.2.2.1 o'.2.2.2.1 o'.2.2.2.2) := e
  generalize ((List.range (N * N * N * N * N * N * N * N * N)).map fun (k : Nat) => D.int (0 + (k : Int))) = RG at *
  generalize ((N * N * N * N * N * N * N * N * N : Nat) : Int) = MM at *
  generalize sqL3 N = A at *
  have m33 : mulOk 3 3 = true := by decide
  have S1 : exs cS 0 (t_law_squares.take 2) [some (.int 3), some (.int (N : Int)), none, none, none, none, none, none, none, none, none] = .nx (sqS 3 N MM [] (some (.int 8)) none none none none) := by
    simp [t_law_squares, mN, m33, mm', p62, rangeD, rngD, List.range_succ, -t_law_squares_L3]
  have S2 : exs cS 0 (t_law_squares.drop 2) (sqS 3 N MM [] (some (.int 8)) none none none none) = .rt (.lst .ow (sortD A)) := by
    simp [t_law_squares, rg, e, fz, io, so, srt1_n, -t_law_squares_L3]
  refine (run_of (g := g_law_squares) (c := cS) (n := 0) (k := 9) (b := t_law_squares) rfl _).trans ?_
  show outR (exs cS 0 t_law_squares [some (.int 3), some (.int (N : Int)), none, none, none, none, none, none, none, none, none]) = _
  rw [exs_cut S1, S2, outR_rt]



/-! the two lists are one -/
abbrev m4 (a b c d : Nat) : M9 := ⟨a, b, 0, c, d, 0, 0, 0, 1⟩
theorem t9_m4 {a b c d : Nat} : T9 2 (m4 a b c d) = sq4 a b c d := rfl
theorem am_mem {N : Nat} {D0 : D} : D0 ∈ amL N ↔ ∃ a b c d : Nat, (a < N ∧ b < N ∧ c < N ∧ d < N) ∧ ((a : Int) * d - b * c - 1) % (N : Int) = 0 ∧ D0 = sq4 a b c d := by
  unfold amL amA amB amC amD
  simp only [List.mem_flatMap, List.mem_range]
  constructor
  · rintro ⟨a, ha, b, hb, c, hc, d, hd, m⟩
    split at m
    · rename_i h
      exact ⟨a, b, c, d, ⟨ha, hb, hc, hd⟩, h, List.mem_singleton.mp m⟩
    · cases m
  · rintro ⟨a, b, c, d, ⟨ha, hb, hc, hd⟩, h, rfl⟩
    exact ⟨a, ha, b, hb, c, hc, d, hd, by rw [if_pos h]; exact List.mem_singleton.mpr rfl⟩
def lex4 (a b c d a' b' c' d' : Nat) : Prop := a < a' ∨ a = a' ∧ (b < b' ∨ b = b' ∧ (c < c' ∨ c = c' ∧ d < d'))
theorem lt_sq {a b c d a' b' c' d' : Nat} : PySem.W.dataLt (toPy (sq4 a b c d)) (toPy (sq4 a' b' c' d')) = true ↔ lex4 a b c d a' b' c' d' := by
  have t : ∀ {a b c d : Nat}, toPy (sq4 a b c d) = .tuple [.tuple [.int a, .int b], .tuple [.int c, .int d]] := fun {a b c d} => by simp [toPy, toPys]
  rw [t, t, PySem.W.dataLt_pair (by simp [PySem.W.alike, PySem.W.alikeAll]) (by simp [PySem.W.alike, PySem.W.alikeAll]), PySem.W.dataLt_ii, PySem.W.dataLt_ii]
  have e : ∀ {a b a' b' : Nat}, PyData.eqv (.tuple [.int (a : Int), .int (b : Int)]) (.tuple [.int (a' : Int), .int (b' : Int)]) = decide (a = a' ∧ b = b') := fun {a b a' b'} => by
    rw [Bool.eq_iff_iff]
    simp [PyData.eqv, PyData.eqvAll]
    omega
  rw [e, e]
  unfold lex4
  by_cases h1 : a = a' ∧ b = b'
  · rw [decide_eq_true h1, if_pos rfl]
    by_cases h2 : c = c' ∧ d = d'
    · rw [decide_eq_true h2, if_pos rfl]
      simp; omega
    · rw [decide_eq_false h2, if_neg (by decide)]
      simp; omega
  · rw [decide_eq_false h1, if_neg (by decide)]
    simp; omega
theorem le_sq {a b c d a' b' c' d' : Nat} : leD (sq4 a b c d) (sq4 a' b' c' d') = true ↔ ¬ lex4 a' b' c' d' a b c d := by
  unfold leD
  rw [Bool.not_eq_true', ← lt_sq, Bool.not_eq_true]
section
theorem mD {N a b c d : Nat} {x : D} (m : x ∈ amD N a b c d) : x = sq4 a b c d := by
  unfold amD at m
  split at m
  · exact List.mem_singleton.mp m
  · cases m
theorem mC {N a b c : Nat} {x : D} (m : x ∈ amC N a b c) : ∃ d, x = sq4 a b c d := by
  obtain ⟨d, _, m⟩ := List.mem_flatMap.mp m; exact ⟨d, mD m⟩
theorem mB {N a b : Nat} {x : D} (m : x ∈ amB N a b) : ∃ c d, x = sq4 a b c d := by
  obtain ⟨c, _, m⟩ := List.mem_flatMap.mp m; obtain ⟨d, e⟩ := mC m; exact ⟨c, d, e⟩
theorem mA {N a : Nat} {x : D} (m : x ∈ amA N a) : ∃ b c d, x = sq4 a b c d := by
  obtain ⟨b, _, m⟩ := List.mem_flatMap.mp m; obtain ⟨c, d, e⟩ := mB m; exact ⟨b, c, d, e⟩
/-- what the list's order tells of two of its items -/
theorem am_pair {R : D → D → Prop} {N : Nat} (h : ∀ {a b c d a' b' c' d' : Nat}, lex4 a b c d a' b' c' d' → R (sq4 a b c d) (sq4 a' b' c' d')) : (amL N).Pairwise R := by
  have rg : (List.range N).Pairwise (· < ·) := List.pairwise_lt_range
  have pD : ∀ {a b c d : Nat}, (amD N a b c d).Pairwise R := fun {a b c d} => by unfold amD; split <;> simp
  have pC : ∀ {a b c : Nat}, (amC N a b c).Pairwise R := fun {a b c} => by
    refine List.pairwise_flatMap.mpr ⟨fun _ _ => pD, rg.imp fun {d1 d2} l x m1 y m2 => ?_⟩
    rw [mD m1, mD m2]
    exact h (by unfold lex4; omega)
  have pB : ∀ {a b : Nat}, (amB N a b).Pairwise R := fun {a b} => by
    refine List.pairwise_flatMap.mpr ⟨fun _ _ => pC, rg.imp fun {d1 d2} l x m1 y m2 => ?_⟩
    obtain ⟨_, e1⟩ := mC m1
    obtain ⟨_, e2⟩ := mC m2
    rw [e1, e2]
    exact h (by unfold lex4; omega)
  have pA : ∀ {a : Nat}, (amA N a).Pairwise R := fun {a} => by
    refine List.pairwise_flatMap.mpr ⟨fun _ _ => pB, rg.imp fun {d1 d2} l x m1 y m2 => ?_⟩
    obtain ⟨_, _, e1⟩ := mB m1
    obtain ⟨_, _, e2⟩ := mB m2
    rw [e1, e2]
    exact h (by unfold lex4; omega)
  refine List.pairwise_flatMap.mpr ⟨fun _ _ => pA, rg.imp fun {d1 d2} l x m1 y m2 => ?_⟩
  obtain ⟨_, _, _, e1⟩ := mA m1
  obtain ⟨_, _, _, e2⟩ := mA m2
  rw [e1, e2]
  exact h (by unfold lex4; omega)
end
theorem sq_inj {a b c d a' b' c' d' : Nat} (h : sq4 a b c d = sq4 a' b' c' d') : a = a' ∧ b = b' ∧ c = c' ∧ d = d' := by
  simp at h
  omega
/-! digits -/
theorem dig_val {N k : Nat} (h1 : 1 ≤ N) (hk : k < N * N * N * N) : k = k % N + N * (k / N % N + N * (k / N / N % N + N * (k / N / N / N % N))) ∧ k / N / N / N < N := by
  have l : k / N / N / N < N := by
    rw [Nat.div_div_eq_div_mul, Nat.div_div_eq_div_mul]
    exact Nat.div_lt_of_lt_mul (by rw [← Nat.mul_assoc]; exact hk)
  refine ⟨?_, l⟩
  rw [Nat.mod_eq_of_lt l]
  have e1 := Nat.mod_add_div k N
  have e2 := Nat.mod_add_div (k / N) N
  have e3 := Nat.mod_add_div (k / N / N) N
  rw [e3, e2, e1]
theorem e2_nat {N k : Nat} : T9 2 (e2 N k) = sq4 (k % N) (k / N % N) (k / N / N % N) (k / N / N / N % N) := by
  simp [T9]
theorem val_dig {N a b c d : Nat} (ha : a < N) (hb : b < N) (hc : c < N) (hd : d < N) :
    let k := a + N * (b + N * (c + N * d))
    k < N * N * N * N ∧ k % N = a ∧ k / N % N = b ∧ k / N / N % N = c ∧ k / N / N / N % N = d := by
  have np : 0 < N := by omega
  have q1 : (a + N * (b + N * (c + N * d))) / N = b + N * (c + N * d) := by rw [Nat.add_mul_div_left _ _ np, Nat.div_eq_of_lt ha, Nat.zero_add]
  have q2 : (b + N * (c + N * d)) / N = c + N * d := by rw [Nat.add_mul_div_left _ _ np, Nat.div_eq_of_lt hb, Nat.zero_add]
  have q3 : (c + N * d) / N = d := by rw [Nat.add_mul_div_left _ _ np, Nat.div_eq_of_lt hc, Nat.zero_add]
  refine ⟨?_, by rw [Nat.add_mul_mod_self_left, Nat.mod_eq_of_lt ha], by rw [q1, Nat.add_mul_mod_self_left, Nat.mod_eq_of_lt hb], by rw [q1, q2, Nat.add_mul_mod_self_left, Nat.mod_eq_of_lt hc], by rw [q1, q2, q3, Nat.mod_eq_of_lt hd]⟩
  have s : ∀ {x y M : Nat}, x < N → y < M → x + N * y < N * M := fun {x y M} hx hy => by
    have : N * y + N ≤ N * M := by rw [← Nat.mul_succ]; exact Nat.mul_le_mul_left N hy
    omega
  have := s ha (s hb (s hc hd))
  rw [show N * N * N * N = N * (N * (N * N)) by simp only [Nat.mul_assoc]]
  exact this
theorem sq_same {N : Nat} (h1 : 1 ≤ N) : sortD (sqL2 N) = amL N := by
  have np : 0 < N := by omega
  have mem : ∀ d : D, d ∈ sqL2 N ↔ d ∈ amL N := fun d => by
    rw [am_mem]
    unfold sqL2
    rw [List.mem_flatMap]
    constructor
    · rintro ⟨k, mk, md⟩
      obtain ⟨e, c⟩ := ls2_mem md
      refine ⟨_, _, _, _, ⟨Nat.mod_lt _ np, Nat.mod_lt _ np, Nat.mod_lt _ np, Nat.mod_lt _ np⟩, ?_, e.trans e2_nat⟩
      simpa using c
    · rintro ⟨a, b, c, d', ⟨ha, hb, hc, hd⟩, q, rfl⟩
      obtain ⟨v1, v2, v3, v4, v5⟩ := val_dig ha hb hc hd
      refine ⟨_, List.mem_range.mpr v1, ?_⟩
      have e := e2_nat (N := N) (k := a + N * (b + N * (c + N * d')))
      rw [v2, v3, v4, v5] at e
      have c1 : (e2 N ((a + N * (b + N * (c + N * d')) : Nat) : Int)).a = (a : Int) := by show ((_ : Nat) : Int) % (N : Int) = _; exact_mod_cast v2
      have c2 : (e2 N ((a + N * (b + N * (c + N * d')) : Nat) : Int)).b = (b : Int) := by show ((_ : Nat) : Int) / (N : Int) % (N : Int) = _; exact_mod_cast v3
      have c3 : (e2 N ((a + N * (b + N * (c + N * d')) : Nat) : Int)).d = (c : Int) := by show ((_ : Nat) : Int) / (N : Int) / (N : Int) % (N : Int) = _; exact_mod_cast v4
      have c4 : (e2 N ((a + N * (b + N * (c + N * d')) : Nat) : Int)).e = (d' : Int) := by show ((_ : Nat) : Int) / (N : Int) / (N : Int) / (N : Int) % (N : Int) = _; exact_mod_cast v5
      unfold ls2
      rw [c1, c2, c3, c4, if_pos q]
      exact List.mem_singleton.mpr e.symm
  have nd1 : (sqL2 N).Nodup := by
    have rg : (List.range (N * N * N * N)).Pairwise (· < ·) := List.pairwise_lt_range
    refine List.pairwise_flatMap.mpr ⟨fun k _ => by unfold ls2; split <;> simp, (List.Pairwise.and_mem.mp rg).imp fun {k1 k2} l x m1 y m2 => ?_⟩
    obtain ⟨r1, r2, l⟩ := l
    rw [(ls2_mem m1).1, (ls2_mem m2).1, e2_nat, e2_nat]
    intro e
    obtain ⟨i1, i2, i3, i4⟩ := sq_inj e
    have v1 := (dig_val h1 (List.mem_range.mp r1)).1
    have v2 := (dig_val h1 (List.mem_range.mp r2)).1
    rw [i1, i2, i3, i4, ← v2] at v1
    omega
  have nd2 : (amL N).Nodup := am_pair fun {a b c d a' b' c' d'} h e => by
    have := sq_inj e
    unfold lex4 at h
    omega
  have pm : (sortD (sqL2 N)).Perm (amL N) := (sortD_perm _).trans ((List.perm_ext_iff_of_nodup nd1 nd2).mpr mem)
  have s2 : (amL N).Pairwise fun a b => leD a b = true := am_pair fun {a b c d a' b' c' d'} h => le_sq.mpr (by unfold lex4 at *; omega)
  refine List.Perm.eq_of_pairwise (le := fun a b => leD a b = true) (fun x y mx my h h' => ?_) (sortD_sorted _) s2 pm
  obtain ⟨a, b, c, d, _, _, rfl⟩ := am_mem.mp (pm.mem_iff.mp mx)
  obtain ⟨a', b', c', d', _, _, rfl⟩ := am_mem.mp my
  have l1 := le_sq.mp h
  have l2 := le_sq.mp h'
  unfold lex4 at l1 l2
  have : a = a' ∧ b = b' ∧ c = c' ∧ d = d' := by omega
  obtain ⟨rfl, rfl, rfl, rfl⟩ := this
  rfl



abbrev cL : Cn := { fs := [g_law_digits, g_law_cell, g_count, g_law_count, g_law_squares, g_all_modulo, g_law_told], ecs := mo.ecs }
def cnB (n N : Nat) : Bool := match g_count [.int (n : Int), .int (N : Int)], g_law_count [.int (n : Int), .int (N : Int)] with
  | .ok (.int a), .ok (.int b) => decide (a = b)
  | _, _ => false
theorem cn_1 : ((List.range 30).all fun k => cnB 2 (1 + k)) = true := by decide +kernel
theorem cn_2 : ((List.range 18).all fun k => cnB 2 (31 + k)) = true := by decide +kernel
theorem cn_3 : ((List.range 12).all fun k => cnB 2 (49 + k)) = true := by decide +kernel
theorem cn_4 : ((List.range 30).all fun k => cnB 3 (1 + k)) = true := by decide +kernel
theorem cn_5 : ((List.range 18).all fun k => cnB 3 (31 + k)) = true := by decide +kernel
theorem cn_6 : ((List.range 12).all fun k => cnB 3 (49 + k)) = true := by decide +kernel
theorem cn_ok {n N : Nat} (hn : n = 2 ∨ n = 3) (h1 : 1 ≤ N) (h2 : N ≤ 60) : ∃ c : Int, g_count [.int (n : Int), .int (N : Int)] = .ok (.int c) ∧ g_law_count [.int (n : Int), .int (N : Int)] = .ok (.int c) := by
  have k : cnB n N = true := by
    rcases hn with rfl | rfl
    · by_cases q : N ≤ 30
      · have k := List.all_eq_true.mp cn_1 (N - 1) (List.mem_range.mpr (by omega))
        rwa [show 1 + (N - 1) = N by omega] at k
      · by_cases q : N ≤ 48
        · have k := List.all_eq_true.mp cn_2 (N - 31) (List.mem_range.mpr (by omega))
          rwa [show 31 + (N - 31) = N by omega] at k
        · have k := List.all_eq_true.mp cn_3 (N - 49) (List.mem_range.mpr (by omega))
          rwa [show 49 + (N - 49) = N by omega] at k
    · by_cases q : N ≤ 30
      · have k := List.all_eq_true.mp cn_4 (N - 1) (List.mem_range.mpr (by omega))
        rwa [show 1 + (N - 1) = N by omega] at k
      · by_cases q : N ≤ 48
        · have k := List.all_eq_true.mp cn_5 (N - 31) (List.mem_range.mpr (by omega))
          rwa [show 31 + (N - 31) = N by omega] at k
        · have k := List.all_eq_true.mp cn_6 (N - 49) (List.mem_range.mpr (by omega))
          rwa [show 49 + (N - 49) = N by omega] at k
  unfold cnB at k
  split at k
  · rename_i a b ea eb
    exact ⟨a, ea, by rw [eb, of_decide_eq_true k]⟩
  · cases k
def lnB (N : Nat) : Bool := match g_count [.int 2, .int (N : Int)] with
  | .ok (.int c) => decide (c = ((amL N).length : Int)) && decide (0 < (amL N).length)
  | _ => false
theorem ln_1 : ((List.range 9).all fun k => lnB (1 + k)) = true := by decide +kernel
theorem ln_ok {N : Nat} (h1 : 1 ≤ N) (h2 : N ≤ 9) : g_count [.int 2, .int (N : Int)] = .ok (.int ((amL N).length : Int)) ∧ 0 < (amL N).length := by
  have k : lnB N = true := by
    have k := List.all_eq_true.mp ln_1 (N - 1) (List.mem_range.mpr (by omega))
    rwa [show 1 + (N - 1) = N by omega] at k
  unfold lnB at k
  split at k
  · rename_i c e
    rw [Bool.and_eq_true] at k
    rw [e, of_decide_eq_true k.1]
    exact ⟨rfl, of_decide_eq_true k.2⟩
  · cases k
theorem l3_len : (sqL3 2).length = 168 := by decide +kernel
theorem cell_c : g_count [.int 3, .int 1] = .ok (.int 1) := isOk_eq (by decide +kernel)
theorem cell_d : g_count [.int 3, .int 2] = .ok (.int 168) := isOk_eq (by decide +kernel)
theorem told_c : g_law_told [.int 0, .int 2, .int 61] = .ok (.bl true) ∧ g_law_told [.int 1, .int 13, .int 0] = .ok (.bl true) ∧ g_law_told [.int 0, .int 4, .int 61] = .ok (.bl true) := ⟨isOk_eq (by decide +kernel), isOk_eq (by decide +kernel), isOk_eq (by decide +kernel)⟩
theorem told_w : ∀ d ∈ ([.int 0, .int (-1), .bl true, .int 100000000000000000000] : List D), g_law_told [.int 0, .int 2, d] = .ok (.bl true) ∧ g_law_told [.int 1, d, .int 0] = .ok (.bl true) ∧ g_law_told [.int 0, d, .int 5] = .ok (.bl true) := by
  intro d hd
  simp only [List.mem_cons, List.not_mem_nil, or_false] at hd
  rcases hd with rfl | rfl | rfl | rfl <;> exact ⟨isOk_eq (by decide +kernel), isOk_eq (by decide +kernel), isOk_eq (by decide +kernel)⟩
theorem am_t {N : Nat} : ∀ d ∈ amL N, ∃ x, d = T9 2 x := fun d m => by
  obtain ⟨a, b, c, d, _, _, rfl⟩ := am_mem.mp m
  exact ⟨m4 a b c d, rfl⟩
theorem dep_am {N : Nat} {n : Nat} (h : 3 ≤ n) : deps n (amL N) = true := deps_of fun d m => by
  obtain ⟨a, b, c, d, _, _, rfl⟩ := am_mem.mp m
  obtain ⟨k, rfl⟩ : ∃ k, n = k + 3 := ⟨n - 3, by omega⟩
  simp [dep, deps]
theorem ne_am {N : Nat} {o o' : Ow} : evCmp .ne (.lst o (amL N)) (.lst o' (amL N)) = .ok (.bl false) := by
  have d := dep_am (N := N) (n := 11) (by decide)
  have e : deq (.lst o (amL N)) (.lst o' (amL N)) = true := by
    unfold deq
    simp only [toPy, PyData.eqv]
    exact self_pys _
  have dd : ∀ {o : Ow}, dep 12 (.lst o (amL N)) = true := fun {o} => by simp only [dep]; exact d
  show ok? (dep 12 (.lst o (amL N)) && dep 12 (.lst o' (amL N))) (D.bl (!deq (.lst o (amL N)) (.lst o' (amL N)))) = _
  rw [dd, dd, e]
  rfl
theorem law_true (ns : List Int) (hl : ns.length ≤ 63) (hbits : ∀ z ∈ ns, Builtin.Int.intBits z ≤ 1048576) : g_law [.lst .lk (ns.map .int)] = .ok (.bl true) := by
  obtain ⟨v, hv⟩ := law_cell_ok ns 0 (by decide)
  obtain ⟨l, hlen, hr, hd⟩ := law_digits_ok v 4 900 (by decide) (by decide) (by decide)
  have hd : g_law_digits [.int v, .int 4, .int 900] = .ok (.lst .ow (l.map .int)) := hd
  have g0 := at_dv (l := l) (k := 0) 0 rfl (by omega)
  have g1 := at_dv (l := l) (k := 1) 1 rfl (by omega)
  have g2 := at_dv (l := l) (k := 2) 2 rfl (by omega)
  obtain ⟨n, en, hn⟩ : ∃ n : Nat, (2 : Int) + dv l 0 % 2 = (n : Int) ∧ (n = 2 ∨ n = 3) := ⟨(2 + dv l 0 % 2).toNat, by omega, by omega⟩
  obtain ⟨N, eN, h1, h2⟩ : ∃ N : Nat, (1 : Int) + dv l 1 % 60 = (N : Int) ∧ 1 ≤ N ∧ N ≤ 60 := ⟨(1 + dv l 1 % 60).toNat, by omega, by omega, by omega⟩
  obtain ⟨M, eM, k1, k2⟩ : ∃ M : Nat, (1 : Int) + dv l 2 % 9 = (M : Int) ∧ 1 ≤ M ∧ M ≤ 9 := ⟨(1 + dv l 2 % 9).toNat, by omega, by omega, by omega⟩
  obtain ⟨c, c1, c2⟩ := cn_ok hn h1 h2
  obtain ⟨lc, lp⟩ := ln_ok k1 k2
  have am := all_modulo_ok (N := M) k1 (by omega)
  have ls := law_squares_2 k1 k2 (fun e => by
    have := sq_same (N := M) k1
    rw [e] at this
    rw [← this] at lp
    simp [sortD] at lp)
  rw [sq_same k1] at ls
  have ls3 : g_law_squares [.int 3, .int 2] = .ok (.lst .ow (sortD (sqL3 2))) := law_squares_3 (N := 2) (by decide) (by decide) (fun e => by have := l3_len; rw [e] at this; cases this)
  have l3 : (sortD (sqL3 2)).length = 168 := by rw [(sortD_perm _).length_eq]; exact l3_len
  have lb : (amL M).length ≤ 16000000 := by
    have := amL_len (N := M)
    have h1 : M * M ≤ 9 * 9 := Nat.mul_le_mul k2 k2
    have h3 : M * (M * M) ≤ 9 * (9 * 9) := Nat.mul_le_mul k2 h1
    have h4 : M * (M * (M * M)) ≤ 9 * (9 * (9 * 9)) := Nat.mul_le_mul k2 h3
    omega
  have lb' : (amL M).length < 16777216 := by omega
  have lb2 : (amL M).length ≤ 16777216 := by omega
  have fa := frzs_t (am_t (N := M))
  have n1 := ne_am (N := M) (o := .bo) (o' := .fr)
  have n2 := ne_am (N := M) (o := .ow) (o' := .fr)
  have fi : frzs (l.map D.int) = l.map D.int := by
    rw [frzs_map, List.map_map]
    exact List.map_congr_left fun _ _ => rfl
  have tw := told_w
  simp only [List.forall_mem_cons, List.not_mem_nil, false_implies, implies_true, and_true] at tw
  obtain ⟨t1, t2, t3⟩ := told_c
  have e10 : (10 : Int) ^ 20 = 100000000000000000000 := by decide
  generalize amL M = A at *
  generalize sortD (sqL3 2) = B at *
  have S1 : exs cL 0 (t_law.take 4) [some (.lst .lk (ns.map .int)), none, none, none, none, none, none, none] =
      .nx [some (.lst .lk (ns.map .int)), some (.lst .fr (l.map .int)), some (.int (n : Int)), some (.int (N : Int)), some (.int (M : Int)), none, none, none] := by
    simp [t_law, hv, hd, g0, g1, g2, en, eN, eM, fi, c1, c2, -Ds.atI_0, -Ds.atI_1, -Ds.atI_2]
  have S2 : exs cL 0 ((t_law.drop 4).take 4) [some (.lst .lk (ns.map .int)), some (.lst .fr (l.map .int)), some (.int (n : Int)), some (.int (N : Int)), some (.int (M : Int)), none, none, none] =
      .nx [some (.lst .lk (ns.map .int)), some (.lst .fr (l.map .int)), some (.int (n : Int)), some (.int (N : Int)), some (.int (M : Int)), some (.lst .fr A), some (.lst .ow A), none] := by
    simp [t_law, ls, am, fa, n1, n2, lc, lb2]
  have S3 : exs cL 0 ((t_law.drop 4).drop 4) [some (.lst .lk (ns.map .int)), some (.lst .fr (l.map .int)), some (.int (n : Int)), some (.int (N : Int)), some (.int (M : Int)), some (.lst .fr A), some (.lst .ow A), none] = .rt (.bl true) := by
    simp [t_law, am, fa, n2, lb', cell_c, cell_d, ls3, l3, tw, t1, t2, t3, e10]
  refine (run_of (g := g_law) (c := cL) (n := 0) (k := 7) (b := t_law) rfl _).trans ?_
  show outR (exs cL 0 t_law [some (.lst .lk (ns.map .int)), none, none, none, none, none, none, none]) = _
  rw [exs_cut S1, exs_cut S2, S3, outR_rt]



set_option maxHeartbeats 0
def df (i : Nat) (x : Str) : He.DefD := ⟨(x, none), x, x, defArgs (topS i), defBody (topS i), defScope (topS i), [], []⟩
def fnA : List He.DefD := [df 6 "is_integer", df 7 "look_at_size", df 11 "look_at_number", df 12 "count", df 13 "all_modulo", df 15 "_law_cell", df 16 "_law_mixed", df 17 "_law_digits", df 18 "_law_det", df 19 "_law_told", df 20 "_law_count", df 21 "_law_squares", df 22 "law"]
def glB (K : PySem.W.Frag) : Bool := (["is_integer", "look_at_size", "look_at_number", "count", "all_modulo", "_law_cell", "_law_mixed", "_law_digits", "_law_det", "_law_told", "_law_count", "_law_squares", "law"] : List Str).all fun x => decide (PySem.W.nsIn K mainGlobals x = some (some (.ref (He.ga K x))))
def exA (K : PySem.W.Frag) : Bool := modB mo K && glB K
theorem b_is_integer {K : PySem.W.Frag} {f : Addr} {fd : FuncData} (F0 : FunD K "is_integer" "is_integer" (defArgs (topS 6)) (defBody (topS 6)) (defScope (topS 6)) [] [] f fd) : Binds K fd ["value"] [] := F0.bindsN fun _ _ _ _ _ _ us hl => match us, hl with | [_], _ => rfl
theorem b_look_at_size {K : PySem.W.Frag} {f : Addr} {fd : FuncData} (F0 : FunD K "look_at_size" "look_at_size" (defArgs (topS 7)) (defBody (topS 7)) (defScope (topS 7)) [] [] f fd) : Binds K fd ["n"] [] := F0.bindsN fun _ _ _ _ _ _ us hl => match us, hl with | [_], _ => rfl
theorem b_look_at_number {K : PySem.W.Frag} {f : Addr} {fd : FuncData} (F0 : FunD K "look_at_number" "look_at_number" (defArgs (topS 11)) (defBody (topS 11)) (defScope (topS 11)) [] [] f fd) : Binds K fd ["N", "most"] [] := F0.bindsN fun _ _ _ _ _ _ us hl => match us, hl with | [_, _], _ => rfl
theorem b_count {K : PySem.W.Frag} {f : Addr} {fd : FuncData} (F0 : FunD K "count" "count" (defArgs (topS 12)) (defBody (topS 12)) (defScope (topS 12)) [] [] f fd) : Binds K fd ["n", "N"] [] := F0.bindsN fun _ _ _ _ _ _ us hl => match us, hl with | [_, _], _ => rfl
theorem b_all_modulo {K : PySem.W.Frag} {f : Addr} {fd : FuncData} (F0 : FunD K "all_modulo" "all_modulo" (defArgs (topS 13)) (defBody (topS 13)) (defScope (topS 13)) [] [] f fd) : Binds K fd ["N"] [] := F0.bindsN fun _ _ _ _ _ _ us hl => match us, hl with | [_], _ => rfl
theorem b_law_cell {K : PySem.W.Frag} {f : Addr} {fd : FuncData} (F0 : FunD K "_law_cell" "_law_cell" (defArgs (topS 15)) (defBody (topS 15)) (defScope (topS 15)) [] [] f fd) : Binds K fd ["script", "k"] [] := F0.bindsN fun _ _ _ _ _ _ us hl => match us, hl with | [_, _], _ => rfl
theorem b_law_mixed {K : PySem.W.Frag} {f : Addr} {fd : FuncData} (F0 : FunD K "_law_mixed" "_law_mixed" (defArgs (topS 16)) (defBody (topS 16)) (defScope (topS 16)) [] [] f fd) : Binds K fd ["cell", "k"] [] := F0.bindsN fun _ _ _ _ _ _ us hl => match us, hl with | [_, _], _ => rfl
theorem b_law_digits {K : PySem.W.Frag} {f : Addr} {fd : FuncData} (F0 : FunD K "_law_digits" "_law_digits" (defArgs (topS 17)) (defBody (topS 17)) (defScope (topS 17)) [] [] f fd) : Binds K fd ["cell", "size", "many"] [] := F0.bindsN fun _ _ _ _ _ _ us hl => match us, hl with | [_, _, _], _ => rfl
theorem b_law_det {K : PySem.W.Frag} {f : Addr} {fd : FuncData} (F0 : FunD K "_law_det" "_law_det" (defArgs (topS 18)) (defBody (topS 18)) (defScope (topS 18)) [] [] f fd) : Binds K fd ["m"] [] := F0.bindsN fun _ _ _ _ _ _ us hl => match us, hl with | [_], _ => rfl
theorem b_law_told {K : PySem.W.Frag} {f : Addr} {fd : FuncData} (F0 : FunD K "_law_told" "_law_told" (defArgs (topS 19)) (defBody (topS 19)) (defScope (topS 19)) [] [] f fd) : Binds K fd ["word", "first", "second"] [] := F0.bindsN fun _ _ _ _ _ _ us hl => match us, hl with | [_, _, _], _ => rfl
theorem b_law_count {K : PySem.W.Frag} {f : Addr} {fd : FuncData} (F0 : FunD K "_law_count" "_law_count" (defArgs (topS 20)) (defBody (topS 20)) (defScope (topS 20)) [] [] f fd) : Binds K fd ["n", "N"] [] := F0.bindsN fun _ _ _ _ _ _ us hl => match us, hl with | [_, _], _ => rfl
theorem b_law_squares {K : PySem.W.Frag} {f : Addr} {fd : FuncData} (F0 : FunD K "_law_squares" "_law_squares" (defArgs (topS 21)) (defBody (topS 21)) (defScope (topS 21)) [] [] f fd) : Binds K fd ["n", "N"] [] := F0.bindsN fun _ _ _ _ _ _ us hl => match us, hl with | [_, _], _ => rfl
theorem b_law {K : PySem.W.Frag} {f : Addr} {fd : FuncData} (F0 : FunD K "law" "law" (defArgs (topS 22)) (defBody (topS 22)) (defScope (topS 22)) [] [] f fd) : Binds K fd ["script"] [] := F0.bindsN fun _ _ _ _ _ _ us hl => match us, hl with | [_], _ => rfl
theorem facts_all {w : World} {K : PySem.W.Frag} {h : Heap} {mg : Str → Option Value} {fa : Addr} (X : K.In h) (G : h.Ns mainGlobals mg) (hfa : mg "law" = some (.ref fa)) (c : He.SaysD [] fnA K) (m : exA K = true) :
    ∃ fd : FuncData, (∀ (s : Shared) (u : Value), BindsTo s fd ⟨[u], []⟩ [("script", u)]) ∧ ∀ base : Heap, K.In base → base.Ns mainGlobals mg → FnOk prog w K mg base (L2N.CX prog w) 5 fa fd ["script"] (spF K (eaOf K) g_law 1) := by
  obtain ⟨m1, m2⟩ := and2 m
  have Fa := facts_of X G m1
  unfold glB at m2
  rw [List.all_eq_true] at m2
  have gl : ∀ x ∈ (["is_integer", "look_at_size", "look_at_number", "count", "all_modulo", "_law_cell", "_law_mixed", "_law_digits", "_law_det", "_law_told", "_law_count", "_law_squares", "law"] : List Str), mg x = some (.ref (He.ga K x)) := fun x hx => PySem.W.mg_of X G (of_decide_eq_true (m2 x hx))
  obtain ⟨fd0, F0⟩ := c.def_ 0 (d := df 6 "is_integer") rfl
  obtain ⟨fd1, F1⟩ := c.def_ 1 (d := df 7 "look_at_size") rfl
  obtain ⟨fd2, F2⟩ := c.def_ 2 (d := df 11 "look_at_number") rfl
  obtain ⟨fd3, F3⟩ := c.def_ 3 (d := df 12 "count") rfl
  obtain ⟨fd4, F4⟩ := c.def_ 4 (d := df 13 "all_modulo") rfl
  obtain ⟨fd5, F5⟩ := c.def_ 5 (d := df 15 "_law_cell") rfl
  obtain ⟨fd6, F6⟩ := c.def_ 6 (d := df 16 "_law_mixed") rfl
  obtain ⟨fd7, F7⟩ := c.def_ 7 (d := df 17 "_law_digits") rfl
  obtain ⟨fd8, F8⟩ := c.def_ 8 (d := df 18 "_law_det") rfl
  obtain ⟨fd9, F9⟩ := c.def_ 9 (d := df 19 "_law_told") rfl
  obtain ⟨fd10, F10⟩ := c.def_ 10 (d := df 20 "_law_count") rfl
  obtain ⟨fd11, F11⟩ := c.def_ 11 (d := df 21 "_law_squares") rfl
  obtain ⟨fd12, F12⟩ := c.def_ 12 (d := df 22 "law") rfl
  have e := hfa.symm.trans (gl "law" (.tail _ (.tail _ (.tail _ (.tail _ (.tail _ (.tail _ (.tail _ (.tail _ (.tail _ (.tail _ (.tail _ (.tail _ (.head _))))))))))))))
  cases e
  have bl := FunD.bindsA (ps := ["script"]) F12 fun _ _ _ _ _ _ us hl => match us, hl with | [_], _ => rfl
  refine ⟨fd12, fun s v => bl s [v] rfl, fun base _ _ => ?_⟩
  have D0 : Dok prog w K mg base (eaOf K) 1 "is_integer" 1 g_is_integer := ⟨_, _, _, def_fn (k := 0) (fun as => 0) c_is_integer F0 Fa rfl (.inl rfl) ⟨hf_nil, hr_nil, hk_nil, hm_nil, hg_nil⟩, gl "is_integer" (.head _), F0.kp, b_is_integer F0⟩
  have D1 : Dok prog w K mg base (eaOf K) 2 "look_at_size" 1 g_look_at_size := ⟨_, _, _, def_fn (k := 1) (fun as => 0) c_look_at_size F1 Fa rfl (.inl rfl) ⟨(hf_cons D0 (by decide) hf_nil), hr_nil, hk_nil, hm_nil, hg_nil⟩, gl "look_at_size" (.tail _ (.head _)), F1.kp, b_look_at_size F1⟩
  have D2 : Dok prog w K mg base (eaOf K) 2 "look_at_number" 2 g_look_at_number := ⟨_, _, _, def_fn (k := 1) (fun as => 0) c_look_at_number F2 Fa rfl (.inl rfl) ⟨(hf_cons D0 (by decide) hf_nil), hr_nil, hk_nil, hm_nil, hg_nil⟩, gl "look_at_number" (.tail _ (.tail _ (.head _))), F2.kp, b_look_at_number F2⟩
  have D3 : Dok prog w K mg base (eaOf K) 3 "count" 2 g_count := ⟨_, _, _, def_fn (k := 2) (fun as => 0) c_count F3 Fa rfl (.inl rfl) ⟨(hf_cons D1 (by decide) (hf_cons D2 (by decide) hf_nil)), hr_nil, hk_nil, hm_nil, hg_nil⟩, gl "count" (.tail _ (.tail _ (.tail _ (.head _)))), F3.kp, b_count F3⟩
  have D4 : Dok prog w K mg base (eaOf K) 3 "all_modulo" 1 g_all_modulo := ⟨_, _, _, def_fn (k := 2) (fun as => 0) c_all_modulo F4 Fa rfl (.inl rfl) ⟨(hf_cons D2 (by decide) hf_nil), hr_nil, hk_nil, hm_nil, hg_nil⟩, gl "all_modulo" (.tail _ (.tail _ (.tail _ (.tail _ (.head _))))), F4.kp, b_all_modulo F4⟩
  have D5 : Dok prog w K mg base (eaOf K) 1 "_law_cell" 2 g_law_cell := ⟨_, _, _, def_fn (k := 0) (fun as => 0) c_law_cell F5 Fa rfl (.inl rfl) ⟨hf_nil, hr_nil, hk_nil, hm_nil, hg_nil⟩, gl "_law_cell" (.tail _ (.tail _ (.tail _ (.tail _ (.tail _ (.head _)))))), F5.kp, b_law_cell F5⟩
  have D6 : Dok prog w K mg base (eaOf K) 1 "_law_mixed" 2 g_law_mixed := ⟨_, _, _, def_fn (k := 0) (fun as => 0) c_law_mixed F6 Fa rfl (.inl rfl) ⟨hf_nil, hr_nil, hk_nil, hm_nil, hg_nil⟩, gl "_law_mixed" (.tail _ (.tail _ (.tail _ (.tail _ (.tail _ (.tail _ (.head _))))))), F6.kp, b_law_mixed F6⟩
  have D7 : Dok prog w K mg base (eaOf K) 2 "_law_digits" 3 g_law_digits := ⟨_, _, _, def_fn (k := 1) (fun as => 0) c_law_digits F7 Fa rfl (.inl rfl) ⟨(hf_cons D6 (by decide) hf_nil), hr_nil, hk_nil, hm_nil, hg_nil⟩, gl "_law_digits" (.tail _ (.tail _ (.tail _ (.tail _ (.tail _ (.tail _ (.tail _ (.head _)))))))), F7.kp, b_law_digits F7⟩
  have D8 : Dok prog w K mg base (eaOf K) 1 "_law_det" 1 g_law_det := ⟨_, _, _, def_fn (k := 0) (fun as => 0) c_law_det F8 Fa rfl (.inl rfl) ⟨hf_nil, hr_nil, hk_nil, hm_nil, hg_nil⟩, gl "_law_det" (.tail _ (.tail _ (.tail _ (.tail _ (.tail _ (.tail _ (.tail _ (.tail _ (.head _))))))))), F8.kp, b_law_det F8⟩
  have D9 : Dok prog w K mg base (eaOf K) 4 "_law_told" 3 g_law_told := ⟨_, _, _, def_fn (k := 3) (fun as => 0) c_law_told F9 Fa rfl (.inl rfl) ⟨(hf_cons D3 (by decide) (hf_cons D4 (by decide) hf_nil)), hr_nil, hk_nil, hm_nil, hg_nil⟩, gl "_law_told" (.tail _ (.tail _ (.tail _ (.tail _ (.tail _ (.tail _ (.tail _ (.tail _ (.tail _ (.head _)))))))))), F9.kp, b_law_told F9⟩
  have D10 : Dok prog w K mg base (eaOf K) 1 "_law_count" 2 g_law_count := ⟨_, _, _, def_fn (k := 0) (fun as => 0) c_law_count F10 Fa rfl (.inl rfl) ⟨hf_nil, hr_nil, hk_nil, hm_nil, hg_nil⟩, gl "_law_count" (.tail _ (.tail _ (.tail _ (.tail _ (.tail _ (.tail _ (.tail _ (.tail _ (.tail _ (.tail _ (.head _))))))))))), F10.kp, b_law_count F10⟩
  have D11 : Dok prog w K mg base (eaOf K) 2 "_law_squares" 2 g_law_squares := ⟨_, _, _, def_fn (k := 1) (fun as => 0) c_law_squares F11 Fa rfl (.inl rfl) ⟨(hf_cons D8 (by decide) hf_nil), hr_nil, hk_nil, hm_nil, hg_nil⟩, gl "_law_squares" (.tail _ (.tail _ (.tail _ (.tail _ (.tail _ (.tail _ (.tail _ (.tail _ (.tail _ (.tail _ (.tail _ (.head _)))))))))))), F11.kp, b_law_squares F11⟩
  exact def_fn (k := 4) (fun as => 0) c_law F12 Fa rfl (.inl rfl) ⟨(hf_cons D7 (by decide) (hf_cons D5 (by decide) (hf_cons D3 (by decide) (hf_cons D10 (by decide) (hf_cons D11 (by decide) (hf_cons D4 (by decide) (hf_cons D9 (by decide) hf_nil))))))), hr_nil, hk_nil, hm_nil, hg_nil⟩
def loose0 : List Str := ["RowstepsError", "BadTable", "BadNumber", "SIZES", "is_integer", "look_at_size", "MOST", "MOST_LISTED", "look_at_number", "count", "all_modulo", "_law_cell", "_law_mixed", "_law_digits", "_law_det", "_law_told", "_law_count", "_law_squares"]
def loose : List Str := loose0
abbrev R : PySem.W.OpenRow := PySem.W.OpenLaw.row PySem.Challenge.rw_rowsteps_k05_numbers_of_tables
abbrev hk : PySem.W.Hook := hookM 4 fnA exA
def ob (s : PySem.W.SharedT) : He.AlD × Bool := obsM 4 fnA exA (HandSHeadRun.getT s)
theorem ob_eq (s : PySem.W.SharedT) : ob s = hk.obs s.abs := obsM_eq (HandSHeadRun.getT_eq s)
theorem runs (w : World) : HandSHeadRun.RunEq R (PySem.W.view R.prog [22]) hk ob 4000 loose w := by
  intro os
  kernel_rfl
end K05
open PySem PySem.W PySem.Calls PyProof.Rows
theorem PySem.Challenge.cw_rowsteps_k05_numbers_of_tables_holds : PySem.Challenge.rw_rowsteps_k05_numbers_of_tables.Holds := by
  w_on; o_law
  refine HandSHeadRun.head_any (r := K05.R) (q := view K05.R.prog [22]) (H := K05.hk) (ob := K05.ob) (M := 4000) (loose := K05.loose) (d := HandSHeadRun.topDef K05.R.prog 22) (kwd := []) K05.ob_eq
    (by kernel_rfl) (fun s => by kernel_rfl) K05.runs (by kernel_rfl) (by kernel_rfl) (by kernel_rfl) (by rfl) (by first | assumption | decide +kernel) (by decide +kernel) ⟨rfl, rfl, rfl, rfl, rfl, by decide +kernel⟩ ?hw ?hc
  case hw => w_witness2
  case hc =>
    refine Ds.walk_ofM (l := PySem.Challenge.rw_rowsteps_k05_numbers_of_tables) (n := 63) (k := 5) (x := "script") (g := K05.g_law) rfl (by decide) (by kernel_rfl) ⟨rfl, by decide, by decide⟩ K05.law_true ?F
    intro w mg fa h Y G hmg0
    obtain ⟨K, KX, c, m⟩ := Y
    have hmg : mg ("law" : PySem.Str) = some (.ref fa) := by
      have e : (HandSHeadRun.topDef K05.R.prog 22).name = ("law" : PySem.Str) := by kernel_rfl
      rw [← e]
      exact hmg0
    obtain ⟨fd, hb, hF⟩ := K05.facts_all (w := w) KX G hmg c m
    exact ⟨K, fd, KX, hb, hF⟩
