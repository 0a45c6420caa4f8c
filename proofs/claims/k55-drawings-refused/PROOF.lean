import PyProof.Rows.All
import Wide.All
import OpenK.AllK
import Wide.FinOn
import HandS.Base
import HandS.Call
import HandS.List
import HandS.Comp
import HandS.Ends
import HandS.Words
import HandS.WordsList
import HandS.IsInst
import HandS.SortInts
import HandS.SortRule
import HandS.TupAny
import KE.DataEq
import HandS.TryOnly
import HandS.Iter
import HandS.Text
import HandS.Zip
import HandS.WordsDict
import HandS.Small
import HandS.More
import HandS.Conv
import HandS.HeadHook3
import HandS.RevRange
import HandS.Rev
import HandS.SortKw
import HandS.Defaults
import KE.GoesMore
import HandS.Exc
import HandS.ExcOwn
import HandS.ExcIs
import HandS.WordsExc
import HandS.Flt
import HandS.SortOrd
import HandS.Flow
import KE.KSortTupAny
import HandS.Strs
import HandS.SetFor
import HandS.SetTxt0
import HandS.Wide
import KE.DataMinMax
import KE.IntTextLaws
import KE.KIntText
import KE.GoesRaise
import HandS.HotCalls
import PySem.Challenge.RW_leafpress_k55_drawings_refused
set_option Elab.async false
set_option linter.all false
set_option maxRecDepth 100000
/-! LP: values as trees with ownership, and how they lie in HandS's abstract heap. -/
namespace LP
open PySem L2

/-- a value as a tree; o: the object is owned (it lies in O, nobody else has it) -/
inductive T where
  | non | bl (b : Bool) | int (i : Int) | str (s : Str)
  | lst (o : Bool) (xs : List T) | tup (o : Bool) (xs : List T)
  | scr (ns : List Int)
  | dic (o : Bool) (ks : List Key) (vs : List T)
  | dtu (o : Bool) (ks : List (List Key)) (vs : List T)
instance : Inhabited T := ⟨.non⟩

mutual
/-- nothing in it is owned -/
def T.fz : T → Bool
  | .lst o xs => !o && fzL xs
  | .tup o xs => !o && fzL xs
  | .dic o _ vs => !o && fzL vs
  | .dtu o _ vs => !o && fzL vs
  | .non => true
  | .bl _ => true
  | .int _ => true
  | .str _ => true
  | .scr _ => true
def fzL : List T → Bool
  | [] => true
  | x :: r => x.fz && fzL r
end
mutual
/-- all that was owned given free -/
def T.er : T → T
  | .lst _ xs => .lst false (erL xs)
  | .tup _ xs => .tup false (erL xs)
  | .dic _ ks vs => .dic false ks (erL vs)
  | .dtu _ ks vs => .dtu false ks (erL vs)
  | .non => .non
  | .bl b => .bl b
  | .int i => .int i
  | .str s => .str s
  | .scr ns => .scr ns
def erL : List T → List T
  | [] => []
  | x :: r => x.er :: erL r
end
mutual
/-- no list and no dict in it is free: it holds nothing that another may have and change -/
def T.nl : T → Bool
  | .lst o xs => o && nlL xs
  | .tup _ xs => nlL xs
  | .dic o _ vs => o && nlL vs
  | .dtu o _ vs => o && nlL vs
  | .non => true
  | .bl _ => true
  | .int _ => true
  | .str _ => true
  | .scr _ => true
def nlL : List T → Bool
  | [] => true
  | x :: r => x.nl && nlL r
end
mutual
/-- as data of the model, for == -/
def T.py : T → PyData
  | .non => .none
  | .bl b => .bool b
  | .int i => .int i
  | .str s => .str s
  | .lst _ xs => .list (pyL xs)
  | .tup _ xs => .tuple (pyL xs)
  | .scr ns => .list (ns.map PyData.int)
  | .dic _ _ _ => .none
  | .dtu _ _ _ => .none
def pyL : List T → List PyData
  | [] => []
  | x :: r => x.py :: pyL r
end
mutual
/-- no dict in it -/
def T.nd : T → Bool
  | .lst _ xs => ndL xs
  | .tup _ xs => ndL xs
  | .dic _ _ _ => false
  | .dtu _ _ _ => false
  | .non => true
  | .bl _ => true
  | .int _ => true
  | .str _ => true
  | .scr _ => true
def ndL : List T → Bool
  | [] => true
  | x :: r => x.nd && ndL r
end
theorem erL_map : ∀ xs : List T, erL xs = xs.map T.er
  | [] => rfl
  | x :: r => by rw [erL, erL_map r, List.map_cons]

/-! ### the heap: F what is free (never changed any more), O what is owned -/
def jn (F O : Hp) : Hp := fun a => match O a with
  | some o => some o
  | none => F a
def Dis (F O : Hp) : Prop := ∀ a, F a = none ∨ O a = none
theorem jn_O {F O : Hp} {a : Addr} {o : HO} (h : O a = some o) : jn F O a = some o := by unfold jn; rw [h]
theorem jn_none {F O : Hp} {a : Addr} (h : jn F O a = none) : F a = none ∧ O a = none := by
  unfold jn at h
  cases e : O a with
  | none => rw [e] at h; exact ⟨h, rfl⟩
  | some o => rw [e] at h; cases h
theorem jn_of_none {F O : Hp} {a : Addr} (h1 : F a = none) (h2 : O a = none) : jn F O a = none := by unfold jn; rw [h2]; exact h1
theorem Dis.jn_F {F O : Hp} (d : Dis F O) {a : Addr} {o : HO} (h : F a = some o) : jn F O a = some o := by
  rcases d a with e | e
  · rw [h] at e; cases e
  · unfold jn; rw [e]; exact h
theorem Dis.noO {F O : Hp} (d : Dis F O) {a : Addr} {o : HO} (h : F a = some o) : O a = none := by
  rcases d a with e | e
  · rw [h] at e; cases e
  · exact e
theorem Dis.noF {F O : Hp} (d : Dis F O) {a : Addr} {o : HO} (h : O a = some o) : F a = none := by
  rcases d a with e | e
  · exact e
  · rw [h] at e; cases e
theorem Dis.same {F O : Hp} (d : Dis F O) : Same F (jn F O) := fun _ _ h => d.jn_F h
theorem upd_jn {F O : Hp} {p : Addr} {o : HO} : upd (jn F O) p o = jn F (upd O p o) := by
  funext a
  by_cases e : a = p
  · subst e
    rw [upd_same, jn_O upd_same]
  · rw [upd_ne e]
    unfold jn
    rw [upd_ne e]
theorem upd_jnF {F O : Hp} {p : Addr} {o : HO} (h : O p = none) : upd (jn F O) p o = jn (upd F p o) O := by
  funext a
  by_cases e : a = p
  · subst e
    rw [upd_same]
    unfold jn
    rw [h, upd_same]
  · rw [upd_ne e]
    unfold jn
    rw [upd_ne e]
theorem Dis.updO {F O : Hp} (d : Dis F O) {p : Addr} {o : HO} (h : F p = none) : Dis F (upd O p o) := fun a => by
  by_cases e : a = p
  · subst e; exact .inl h
  · rw [upd_ne e]; exact d a
theorem Dis.updF {F O : Hp} (d : Dis F O) {p : Addr} {o : HO} (h : O p = none) : Dis (upd F p o) O := fun a => by
  by_cases e : a = p
  · subst e; exact .inr h
  · rw [upd_ne e]; exact d a
theorem same_new {F : Hp} {p : Addr} {o : HO} (h : F p = none) : Same F (upd F p o) := fun b x e => by
  rw [upd_ne (ne_of_none e h)]
  exact e
theorem Same.seqT {K : PySem.W.Frag} {H H' : Hp} {a : Addr} {xs : List V} (e : Same H H') (h : SqT K H a xs) : SqT K H' a xs := by
  rcases h with (h | ⟨o, h⟩) | h
  · exact .inl (.inl (e _ _ h))
  · exact .inl (.inr ⟨o, e _ _ h⟩)
  · exact .inr h

/-- the script: locked, or of the written part -/
def Scr (K : PySem.W.Frag) (F : Hp) (a : Addr) (ns : List Int) : Prop := (∃ o, F a = some (.frz o (.lst (ns.map V.int)))) ∨ SqL K (fun _ => none) a (ns.map V.int)
theorem Scr.seq {K : PySem.W.Frag} {F : Hp} {a : Addr} {ns : List Int} (h : Scr K F a ns) : SqL K F a (ns.map V.int) := by
  rcases h with ⟨o, h⟩ | (h | ⟨o, h⟩) | h
  · exact .inl (.inr ⟨o, h⟩)
  · cases h
  · cases h
  · exact .inr h
theorem Scr.mono {K : PySem.W.Frag} {F F' : Hp} {a : Addr} {ns : List Int} (s : Same F F') (h : Scr K F a ns) : Scr K F' a ns := by
  rcases h with ⟨o, h⟩ | h
  · exact .inl ⟨o, s _ _ h⟩
  · exact .inr h
/-- a list or a dict stands there -/
def LD (x : Option HO) : Prop := (∃ xs, x = some (.lst xs)) ∨ (∃ k, x = some (.dK k)) ∨ ∃ k, x = some (.dT k)

/-! ### how a tree lies in the heap; the last list: the addresses of what it owns -/
mutual
inductive Rl (K : PySem.W.Frag) (F O : Hp) : V → T → List Addr → Prop
  | non : Rl K F O .non .non []
  | bl (b : Bool) : Rl K F O (.bl b) (.bl b) []
  | int (i : Int) : Rl K F O (.int i) (.int i) []
  | str (s : Str) : Rl K F O (.str s) (.str s) []
  | scr {a : Addr} {ns : List Int} (h : Scr K F a ns) : Rl K F O (.ref a) (.scr ns) []
  | lstF {a : Addr} {vs : List V} {ts : List T} (h : F a = some (.lst vs)) (r : Rls K F O vs ts []) : Rl K F O (.ref a) (.lst false ts) []
  | lstO {a : Addr} {vs : List V} {ts : List T} {fs : List Addr} (h : O a = some (.lst vs)) (r : Rls K F O vs ts fs) : Rl K F O (.ref a) (.lst true ts) (a :: fs)
  | tupF {a : Addr} {vs : List V} {ts : List T} (h : SqT K F a vs) (r : Rls K F O vs ts []) : Rl K F O (.ref a) (.tup false ts) []
  | tupO {a : Addr} {vs : List V} {ts : List T} {fs : List Addr} (h : O a = some (.tup vs)) (r : Rls K F O vs ts fs) : Rl K F O (.ref a) (.tup true ts) (a :: fs)
  | dicF {a : Addr} {ks : List Key} {vs : List V} {ts : List T} (h : F a = some (.dK (ks.zip vs))) (n : ks.length = vs.length) (r : Rls K F O vs ts []) : Rl K F O (.ref a) (.dic false ks ts) []
  | dicO {a : Addr} {ks : List Key} {vs : List V} {ts : List T} {fs : List Addr} (h : O a = some (.dK (ks.zip vs))) (n : ks.length = vs.length) (r : Rls K F O vs ts fs) : Rl K F O (.ref a) (.dic true ks ts) (a :: fs)
  | dtuF {a : Addr} {ks : List (List Key)} {vs : List V} {ts : List T} (h : F a = some (.dT (ks.zip vs))) (n : ks.length = vs.length) (r : Rls K F O vs ts []) : Rl K F O (.ref a) (.dtu false ks ts) []
  | dtuO {a : Addr} {ks : List (List Key)} {vs : List V} {ts : List T} {fs : List Addr} (h : O a = some (.dT (ks.zip vs))) (n : ks.length = vs.length) (r : Rls K F O vs ts fs) : Rl K F O (.ref a) (.dtu true ks ts) (a :: fs)
inductive Rls (K : PySem.W.Frag) (F O : Hp) : List V → List T → List Addr → Prop
  | nil : Rls K F O [] [] []
  | cons {v : V} {t : T} {f : List Addr} {vs : List V} {ts : List T} {fs : List Addr} (h : Rl K F O v t f) (r : Rls K F O vs ts fs) : Rls K F O (v :: vs) (t :: ts) (f ++ fs)
end
section
variable {K : PySem.W.Frag} {F O F' O' : Hp}
mutual
theorem Rl.mono (s : Same F F') : ∀ {v : V} {t : T} {f : List Addr}, Rl K F O v t f → (∀ a ∈ f, ∀ o, O a = some o → O' a = some o) → Rl K F' O' v t f
  | _, _, _, .non, _ => .non
  | _, _, _, .bl b, _ => .bl b
  | _, _, _, .int b, _ => .int b
  | _, _, _, .str b, _ => .str b
  | _, _, _, .scr h, _ => .scr (h.mono s)
  | _, _, _, .lstF h r, k => .lstF (s _ _ h) (Rls.mono s r (fun a z => by cases z))
  | _, _, _, .lstO h r, k => .lstO (k _ (List.mem_cons_self ..) _ h) (Rls.mono s r fun a z => k a (List.mem_cons_of_mem _ z))
  | _, _, _, .tupF h r, k => .tupF (Same.seqT s h) (Rls.mono s r (fun a z => by cases z))
  | _, _, _, .tupO h r, k => .tupO (k _ (List.mem_cons_self ..) _ h) (Rls.mono s r fun a z => k a (List.mem_cons_of_mem _ z))
  | _, _, _, .dicF h n r, k => .dicF (s _ _ h) n (Rls.mono s r (fun a z => by cases z))
  | _, _, _, .dicO h n r, k => .dicO (k _ (List.mem_cons_self ..) _ h) n (Rls.mono s r fun a z => k a (List.mem_cons_of_mem _ z))
  | _, _, _, .dtuF h n r, k => .dtuF (s _ _ h) n (Rls.mono s r (fun a z => by cases z))
  | _, _, _, .dtuO h n r, k => .dtuO (k _ (List.mem_cons_self ..) _ h) n (Rls.mono s r fun a z => k a (List.mem_cons_of_mem _ z))
theorem Rls.mono (s : Same F F') : ∀ {v : List V} {t : List T} {f : List Addr}, Rls K F O v t f → (∀ a ∈ f, ∀ o, O a = some o → O' a = some o) → Rls K F' O' v t f
  | _, _, _, .nil, _ => .nil
  | _, _, _, .cons h r, k => .cons (Rl.mono s h fun a z => k a (List.mem_append_left _ z)) (Rls.mono s r fun a z => k a (List.mem_append_right _ z))
end
mutual
theorem Rl.alloc : ∀ {v : V} {t : T} {f : List Addr}, Rl K F O v t f → ∀ a ∈ f, ∃ o, O a = some o
  | _, _, _, .non, _, z => by cases z
  | _, _, _, .bl b, _, z => by cases z
  | _, _, _, .int b, _, z => by cases z
  | _, _, _, .str b, _, z => by cases z
  | _, _, _, .scr h, _, z => by cases z
  | _, _, _, .lstF h r, _, z => by cases z
  | _, _, _, .lstO h r, _, z => (List.mem_cons.mp z).elim (fun e => e ▸ ⟨_, h⟩) (Rls.alloc r _)
  | _, _, _, .tupF h r, _, z => by cases z
  | _, _, _, .tupO h r, _, z => (List.mem_cons.mp z).elim (fun e => e ▸ ⟨_, h⟩) (Rls.alloc r _)
  | _, _, _, .dicF h n r, _, z => by cases z
  | _, _, _, .dicO h n r, _, z => (List.mem_cons.mp z).elim (fun e => e ▸ ⟨_, h⟩) (Rls.alloc r _)
  | _, _, _, .dtuF h n r, _, z => by cases z
  | _, _, _, .dtuO h n r, _, z => (List.mem_cons.mp z).elim (fun e => e ▸ ⟨_, h⟩) (Rls.alloc r _)
theorem Rls.alloc : ∀ {v : List V} {t : List T} {f : List Addr}, Rls K F O v t f → ∀ a ∈ f, ∃ o, O a = some o
  | _, _, _, .nil, _, z => by cases z
  | _, _, _, .cons h r, _, z => (List.mem_append.mp z).elim (Rl.alloc h _) (Rls.alloc r _)
end
mutual
theorem Rl.noown : ∀ {v : V} {t : T} {f : List Addr}, Rl K F O v t f → t.fz = true → f = []
  | _, _, _, .non, _ => rfl
  | _, _, _, .bl b, _ => rfl
  | _, _, _, .int b, _ => rfl
  | _, _, _, .str b, _ => rfl
  | _, _, _, .scr h, _ => rfl
  | _, _, _, .lstF h r, _ => rfl
  | _, _, _, .lstO h r, z => by simp [T.fz] at z
  | _, _, _, .tupF h r, _ => rfl
  | _, _, _, .tupO h r, z => by simp [T.fz] at z
  | _, _, _, .dicF h n r, _ => rfl
  | _, _, _, .dicO h n r, z => by simp [T.fz] at z
  | _, _, _, .dtuF h n r, _ => rfl
  | _, _, _, .dtuO h n r, z => by simp [T.fz] at z
theorem Rls.noown : ∀ {v : List V} {t : List T} {f : List Addr}, Rls K F O v t f → fzL t = true → f = []
  | _, _, _, .nil, _ => rfl
  | _, _, _, .cons h r, z => by
    rw [fzL, Bool.and_eq_true] at z
    rw [Rl.noown h z.1, Rls.noown r z.2]
    rfl
end
/-- the owned addresses fs go over to what is free -/
def toF (F O : Hp) (fs : List Addr) : Hp := fun a => if a ∈ fs then O a else F a
def offO (O : Hp) (fs : List Addr) : Hp := fun a => if a ∈ fs then none else O a
theorem jn_toF {fs : List Addr} (al : ∀ a ∈ fs, ∃ o, O a = some o) : jn (toF F O fs) (offO O fs) = jn F O := by
  funext a
  unfold jn toF offO
  by_cases e : a ∈ fs
  · obtain ⟨o, h⟩ := al a e
    rw [if_pos e, if_pos e, h]
  · rw [if_neg e, if_neg e]
theorem Dis.toF (d : Dis F O) {fs : List Addr} : Dis (toF F O fs) (offO O fs) := fun a => by
  unfold LP.toF offO
  by_cases e : a ∈ fs
  · exact .inr (if_pos e)
  · rw [if_neg e, if_neg e]; exact d a
theorem Dis.same_toF (d : Dis F O) {fs : List Addr} (al : ∀ a ∈ fs, ∃ o, O a = some o) : Same F (LP.toF F O fs) := fun a o h => by
  unfold LP.toF
  rw [if_neg fun e => by
    obtain ⟨o', h'⟩ := al a e
    rw [d.noO h] at h'
    cases h']
  exact h
theorem seqT_toF {fs : List Addr} {a : Addr} {vs : List V} (e : a ∈ fs) (h : O a = some (.tup vs)) : SqT K (toF F O fs) a vs := .inl (.inl (by unfold toF; rw [if_pos e]; exact h))
mutual
theorem Rl.erase (d : Dis F O) {fs : List Addr} (al : ∀ a ∈ fs, ∃ o, O a = some o) : ∀ {v : V} {t : T} {f : List Addr}, Rl K F O v t f → (∀ a ∈ f, a ∈ fs) → Rl K (toF F O fs) (offO O fs) v t.er []
  | _, _, _, .non, _ => .non
  | _, _, _, .bl b, _ => .bl b
  | _, _, _, .int b, _ => .int b
  | _, _, _, .str b, _ => .str b
  | _, _, _, .scr h, _ => .scr (h.mono (d.same_toF al))
  | _, _, _, .lstF h r, k => .lstF (d.same_toF al _ _ h) (Rls.erase d al r (fun a z => by cases z))
  | _, _, _, .lstO h r, k => .lstF (show toF F O fs _ = _ by unfold toF; rw [if_pos (k _ (List.mem_cons_self ..))]; exact h) (Rls.erase d al r fun a z => k a (List.mem_cons_of_mem _ z))
  | _, _, _, .tupF h r, k => .tupF (Same.seqT (d.same_toF al) h) (Rls.erase d al r (fun a z => by cases z))
  | _, _, _, .tupO h r, k => .tupF (seqT_toF (k _ (List.mem_cons_self ..)) h) (Rls.erase d al r fun a z => k a (List.mem_cons_of_mem _ z))
  | _, _, _, .dicF h n r, k => .dicF (d.same_toF al _ _ h) n (Rls.erase d al r (fun a z => by cases z))
  | _, _, _, .dicO h n r, k => .dicF (show toF F O fs _ = _ by unfold toF; rw [if_pos (k _ (List.mem_cons_self ..))]; exact h) n (Rls.erase d al r fun a z => k a (List.mem_cons_of_mem _ z))
  | _, _, _, .dtuF h n r, k => .dtuF (d.same_toF al _ _ h) n (Rls.erase d al r (fun a z => by cases z))
  | _, _, _, .dtuO h n r, k => .dtuF (show toF F O fs _ = _ by unfold toF; rw [if_pos (k _ (List.mem_cons_self ..))]; exact h) n (Rls.erase d al r fun a z => k a (List.mem_cons_of_mem _ z))
theorem Rls.erase (d : Dis F O) {fs : List Addr} (al : ∀ a ∈ fs, ∃ o, O a = some o) : ∀ {v : List V} {t : List T} {f : List Addr}, Rls K F O v t f → (∀ a ∈ f, a ∈ fs) → Rls K (toF F O fs) (offO O fs) v (erL t) []
  | _, _, _, .nil, _ => .nil
  | _, _, _, .cons h r, k => .cons (f := []) (fs := []) (Rl.erase d al h fun a z => k a (List.mem_append_left _ z)) (Rls.erase d al r fun a z => k a (List.mem_append_right _ z))
end
mutual
theorem Rl.dp (d : Dis F O) : ∀ {v : V} {t : T} {f : List Addr}, Rl K F O v t f → t.nd = true → Dp K (jn F O) v t.py
  | _, _, _, .non, _ => .non
  | _, _, _, .bl b, _ => .bl b
  | _, _, _, .int b, _ => .int b
  | _, _, _, .str b, _ => .str b
  | _, _, _, .scr (ns := ns) h, _ => .lst (d.same.seq h.seq) (by
      clear h
      induction ns with
      | nil => exact .nil
      | cons n r ih => exact .cons (.int n) (ih rfl))
  | _, _, _, .lstF h r, z => .lst (.inl (.inl (d.jn_F h))) (Rls.dp d r z)
  | _, _, _, .lstO h r, z => .lst (.inl (.inl (jn_O h))) (Rls.dp d r z)
  | _, _, _, .tupF h r, z => .tup (Same.seqT d.same h) (Rls.dp d r z)
  | _, _, _, .tupO h r, z => .tup (.inl (.inl (jn_O h))) (Rls.dp d r z)
  | _, _, _, .dicF h n r, z => by cases z
  | _, _, _, .dicO h n r, z => by cases z
  | _, _, _, .dtuF h n r, z => by cases z
  | _, _, _, .dtuO h n r, z => by cases z
theorem Rls.dp (d : Dis F O) : ∀ {v : List V} {t : List T} {f : List Addr}, Rls K F O v t f → ndL t = true → DpAll K (jn F O) v (pyL t)
  | _, _, _, .nil, _ => .nil
  | _, _, _, .cons h r, z => by
    rw [ndL, Bool.and_eq_true] at z
    exact .cons (Rl.dp d h z.1) (Rls.dp d r z.2)
end
/-- what was lent is taken back: N the lent addresses, each a list or a dict (no tuple) -/
def backF (F' : Hp) (N : List Addr) : Hp := fun a => if a ∈ N then none else F' a
def backO (O O' : Hp) (N : List Addr) : Hp := fun a => if a ∈ N then O a else O' a
theorem seqT_back {N : List Addr} (ld : ∀ a ∈ N, LD (F a)) {a : Addr} {xs : List V} (h : SqT K F a xs) : SqT K (backF F N) a xs := by
  rcases h with h | h
  · by_cases e : a ∈ N
    · rcases ld a e with ⟨k, z⟩ | ⟨k, z⟩ | ⟨k, z⟩ <;> rcases h with h | ⟨o, h⟩ <;> (rw [z] at h; cases h)
    · refine .inl ?_
      have q : backF F N a = F a := if_neg e
      rcases h with h | ⟨o, h⟩
      · exact .inl (q.trans h)
      · exact .inr ⟨o, q.trans h⟩
  · exact .inr h
theorem scr_back {N : List Addr} (ld : ∀ a ∈ N, LD (F a)) {a : Addr} {ns : List Int} (h : Scr K F a ns) : Scr K (backF F N) a ns := by
  rcases h with ⟨o, h⟩ | h
  · by_cases e : a ∈ N
    · rcases ld a e with ⟨k, z⟩ | ⟨k, z⟩ | ⟨k, z⟩ <;> (rw [z] at h; cases h)
    · exact .inl ⟨o, (if_neg e : backF F N a = F a).trans h⟩
  · exact .inr h
theorem backO_of {N : List Addr} {O1 : Hp} (ol : ∀ a ∈ N, O' a = none) {a : Addr} {o : HO} (h : O' a = some o) : backO O1 O' N a = some o := by
  unfold backO
  rw [if_neg fun e => by rw [ol a e] at h; cases h]
  exact h
mutual
theorem Rl.back {N : List Addr} {O1 : Hp} (ld : ∀ a ∈ N, LD (F a)) (ol : ∀ a ∈ N, O' a = none) :
    ∀ {v : V} {t : T} {f : List Addr}, Rl K F O' v t f → t.nl = true → Rl K (backF F N) (backO O1 O' N) v t f
  | _, _, _, .non, _ => .non
  | _, _, _, .bl b, _ => .bl b
  | _, _, _, .int b, _ => .int b
  | _, _, _, .str b, _ => .str b
  | _, _, _, .scr h, _ => .scr (scr_back ld h)
  | _, _, _, .lstF h r, z => by simp [T.nl] at z
  | _, _, _, .lstO h r, z => .lstO (backO_of ol h) (Rls.back ld ol r (by simpa [T.nl] using z))
  | _, _, _, .tupF h r, z => .tupF (seqT_back ld h) (Rls.back ld ol r (by simpa [T.nl] using z))
  | _, _, _, .tupO h r, z => .tupO (backO_of ol h) (Rls.back ld ol r (by simpa [T.nl] using z))
  | _, _, _, .dicF h n r, z => by simp [T.nl] at z
  | _, _, _, .dicO h n r, z => .dicO (backO_of ol h) n (Rls.back ld ol r (by simpa [T.nl] using z))
  | _, _, _, .dtuF h n r, z => by simp [T.nl] at z
  | _, _, _, .dtuO h n r, z => .dtuO (backO_of ol h) n (Rls.back ld ol r (by simpa [T.nl] using z))
theorem Rls.back {N : List Addr} {O1 : Hp} (ld : ∀ a ∈ N, LD (F a)) (ol : ∀ a ∈ N, O' a = none) :
    ∀ {v : List V} {t : List T} {f : List Addr}, Rls K F O' v t f → nlL t = true → Rls K (backF F N) (backO O1 O' N) v t f
  | _, _, _, .nil, _ => .nil
  | _, _, _, .cons h r, z => by
    rw [nlL, Bool.and_eq_true] at z
    exact .cons (Rl.back ld ol h z.1) (Rls.back ld ol r z.2)
end
end
end LP
set_option maxRecDepth 100000
/-! LP: the slots as trees; steps of the heap; the judgements. -/
namespace LP
open PySem L2

abbrev Env := List (Option T)
/-- an operand: what a slot holds (looked at late), or a value made on the way -/
inductive Opd where
  | s (i : Nat)
  | t (x : T)
abbrev Ev := Env → Option (Opd × Env)
abbrev Ea := Env → Option (List Opd × Env)
abbrev Et := Env → Option (Bool × Env)
def vw (env : Env) : Opd → Option T
  | .s i => match env[i]? with
    | some (some t) => some t
    | _ => none
  | .t x => some x
def vws (env : Env) : List Opd → Option (List T)
  | [] => some []
  | o :: r => match vw env o with
    | some t => match vws env r with
      | some ts => some (t :: ts)
      | none => none
    | none => none

/-! ### footprints -/
def Nd (l : List Addr) : Prop := ∀ a, l.count a ≤ 1
theorem Nd.nil : Nd [] := fun a => by rw [List.count_nil]; exact Nat.zero_le _
theorem mem_count {a : Addr} {l : List Addr} : a ∈ l ↔ 0 < l.count a := List.count_pos_iff.symm
theorem Nd.sub {l m : List Addr} (h : Nd m) (s : ∀ a, l.count a ≤ m.count a) : Nd l := fun a => Nat.le_trans (s a) (h a)
theorem Nd.left {l m : List Addr} (h : Nd (l ++ m)) : Nd l := h.sub fun a => by rw [List.count_append]; omega
theorem Nd.right {l m : List Addr} (h : Nd (l ++ m)) : Nd m := h.sub fun a => by rw [List.count_append]; omega
theorem Nd.apart {l m : List Addr} (h : Nd (l ++ m)) {a : Addr} (h1 : a ∈ l) : a ∉ m := fun h2 => by
  have q := h a
  rw [List.count_append] at q
  have := mem_count.mp h1
  have := mem_count.mp h2
  omega
theorem Nd.of {l m : List Addr} (h1 : Nd l) (h2 : Nd m) (d : ∀ a ∈ l, a ∉ m) : Nd (l ++ m) := fun a => by
  rw [List.count_append]
  have q1 := h1 a
  have q2 := h2 a
  by_cases e : a ∈ l
  · have : ¬ 0 < m.count a := fun z => d a e (mem_count.mpr z)
    omega
  · have : ¬ 0 < l.count a := fun z => e (mem_count.mpr z)
    omega

/-! ### slots -/
inductive RlE (K : PySem.W.Frag) (F O : Hp) : L2.St → Env → List Addr → Prop
  | nil : RlE K F O [] [] []
  | non {x : Option V} {σ : L2.St} {env : Env} {fs : List Addr} (r : RlE K F O σ env fs) : RlE K F O (x :: σ) (none :: env) fs
  | som {v : V} {t : T} {f : List Addr} {σ : L2.St} {env : Env} {fs : List Addr} (h : Rl K F O v t f) (r : RlE K F O σ env fs) : RlE K F O (some v :: σ) (some t :: env) (f ++ fs)
section
variable {K : PySem.W.Frag} {F O F' O' : Hp}
theorem RlE.mono (s : Same F F') : ∀ {σ : L2.St} {env : Env} {f : List Addr}, RlE K F O σ env f → (∀ a ∈ f, ∀ o, O a = some o → O' a = some o) → RlE K F' O' σ env f
  | _, _, _, .nil, _ => .nil
  | _, _, _, .non r, k => .non (RlE.mono s r k)
  | _, _, _, .som h r, k => .som (h.mono s fun a z => k a (List.mem_append_left _ z)) (RlE.mono s r fun a z => k a (List.mem_append_right _ z))
theorem RlE.alloc : ∀ {σ : L2.St} {env : Env} {f : List Addr}, RlE K F O σ env f → ∀ a ∈ f, ∃ o, O a = some o
  | _, _, _, .nil, _, z => by cases z
  | _, _, _, .non r, a, z => RlE.alloc r a z
  | _, _, _, .som h r, a, z => (List.mem_append.mp z).elim (h.alloc a) (RlE.alloc r a)
theorem RlE.len : ∀ {σ : L2.St} {env : Env} {f : List Addr}, RlE K F O σ env f → σ.length = env.length
  | _, _, _, .nil => rfl
  | _, _, _, .non r => by rw [List.length_cons, List.length_cons, RlE.len r]
  | _, _, _, .som h r => by rw [List.length_cons, List.length_cons, RlE.len r]
/-- a slot: its value, its footprint, and the rest of the slots -/
theorem RlE.get : ∀ {σ : L2.St} {env : Env} {f : List Addr} {i : Nat} {t : T}, RlE K F O σ env f → env[i]? = some (some t) → ∃ v fp, σ[i]? = some (some v) ∧ Rl K F O v t fp ∧ ∀ a, fp.count a ≤ f.count a
  | _, _, _, _, _, .nil, e => by simp at e
  | _, _, _, 0, _, .non r, e => by simp at e
  | _, _, _, i + 1, _, .non r, e => by
    obtain ⟨v, fp, h1, h2, h3⟩ := RlE.get (i := i) r (by simpa using e)
    exact ⟨v, fp, by simpa using h1, h2, h3⟩
  | _, _, _, 0, t', .som (v := v) (t := t0) (f := f) h r, e => by
    have e2 : t0 = t' := by simpa using e
    subst e2
    exact ⟨v, f, rfl, h, fun a => by rw [List.count_append]; omega⟩
  | _, _, _, i + 1, _, .som h r, e => by
    obtain ⟨v, fp, h1, h2, h3⟩ := RlE.get (i := i) r (by simpa using e)
    exact ⟨v, fp, by simpa using h1, h2, fun a => by rw [List.count_append]; have := h3 a; omega⟩
/-- a slot is written: what it held goes -/
theorem RlE.set : ∀ {σ : L2.St} {env : Env} {f : List Addr} {i : Nat} {v : V} {t : T} {fp : List Addr}, RlE K F O σ env f → Rl K F O v t fp → ∃ f', RlE K F O (σ.set i (some v)) (env.set i (some t)) f' ∧ ∀ a, f'.count a ≤ fp.count a + f.count a
  | _, _, _, _, _, _, _, .nil, h => ⟨[], .nil, fun a => by rw [List.count_nil]; omega⟩
  | _, _, _, 0, v, t, fp, .non (fs := fs) r, h => ⟨fp ++ fs, .som h r, fun a => by rw [List.count_append]; omega⟩
  | _, _, _, i + 1, v, t, fp, .non r, h => by
    obtain ⟨f', r', c⟩ := RlE.set (i := i) r h
    exact ⟨f', .non r', c⟩
  | _, _, _, 0, v, t, fp, .som (fs := fs) _ r, h => ⟨fp ++ fs, .som h r, fun a => by rw [List.count_append, List.count_append]; omega⟩
  | _, _, _, i + 1, v, t, fp, .som (f := f0) h0 r, h => by
    obtain ⟨f', r', c⟩ := RlE.set (i := i) r h
    exact ⟨f0 ++ f', .som h0 r', fun a => by rw [List.count_append, List.count_append]; have := c a; omega⟩
/-- a slot's tree is another one, of the same value (its own footprint gone out of the rest) -/
theorem RlE.upd : ∀ {σ : L2.St} {env : Env} {f : List Addr} {i : Nat} {v : V} {t : T}, RlE K F O σ env f → σ[i]? = some (some v) → env[i]? = some (some t) →
    ∃ (fp f0 : List Addr), Rl K F O v t fp ∧ (∀ a, fp.count a + f0.count a = f.count a) ∧ ∀ (F' O' : Hp) (t' : T) (fp' : List Addr), Same F F' → (∀ a ∈ f0, ∀ o, O a = some o → O' a = some o) → Rl K F' O' v t' fp' →
      ∃ f', RlE K F' O' σ (env.set i (some t')) f' ∧ ∀ a, f'.count a = fp'.count a + f0.count a
  | _, _, _, _, _, _, .nil, h, _ => by simp at h
  | _, _, _, 0, _, _, .non r, _, e => by simp at e
  | _, _, _, i + 1, v, t, .non r, h, e => by
    obtain ⟨fp, f0, h1, h2, h3⟩ := RlE.upd (i := i) r (by simpa using h) (by simpa using e)
    refine ⟨fp, f0, h1, h2, fun F' O' t' fp' s k x => ?_⟩
    obtain ⟨f', r', c⟩ := h3 F' O' t' fp' s k x
    exact ⟨f', .non r', c⟩
  | _, _, _, 0, v, t, .som (v := v0) (t := t0) (f := fp) (fs := fs) h0 r, h, e => by
    have e1 : v0 = v := by simpa using h
    have e2 : t0 = t := by simpa using e
    subst e1; subst e2
    exact ⟨fp, fs, h0, fun a => (List.count_append ..).symm, fun F' O' t' fp' s k x => ⟨fp' ++ fs, .som x (r.mono s k), fun a => List.count_append ..⟩⟩
  | _, _, _, i + 1, v, t, .som (f := fq) (fs := fs) h0 r, h, e => by
    obtain ⟨fp, f0, h1, h2, h3⟩ := RlE.upd (i := i) r (by simpa using h) (by simpa using e)
    refine ⟨fp, fq ++ f0, h1, fun a => by rw [List.count_append, List.count_append]; have := h2 a; omega, fun F' O' t' fp' s k x => ?_⟩
    obtain ⟨f', r', c⟩ := h3 F' O' t' fp' s (fun a z => k a (List.mem_append_right _ z)) x
    exact ⟨fq ++ f', .som (h0.mono s fun a z => k a (List.mem_append_left _ z)) r', fun a => by rw [List.count_append, List.count_append]; have := c a; omega⟩
/-- a slot is emptied: its tree is taken out -/
theorem RlE.out : ∀ {σ : L2.St} {env : Env} {f : List Addr} {i : Nat} {t : T}, RlE K F O σ env f → env[i]? = some (some t) →
    ∃ (v : V) (fp f0 : List Addr), σ[i]? = some (some v) ∧ Rl K F O v t fp ∧ RlE K F O σ (env.set i none) f0 ∧ ∀ a, fp.count a + f0.count a = f.count a
  | _, _, _, _, _, .nil, e => by simp at e
  | _, _, _, 0, _, .non r, e => by simp at e
  | _, _, _, i + 1, t, .non r, e => by
    obtain ⟨v, fp, f0, h1, h2, h3, h4⟩ := RlE.out (i := i) r (by simpa using e)
    exact ⟨v, fp, f0, by simpa using h1, h2, .non h3, h4⟩
  | _, _, _, 0, t, .som (v := v0) (t := t0) (f := fp) (fs := fs) h0 r, e => by
    have e2 : t0 = t := by simpa using e
    subst e2
    exact ⟨v0, fp, fs, rfl, h0, .non r, fun a => (List.count_append ..).symm⟩
  | _, _, _, i + 1, t, .som (f := fq) (fs := fs) h0 r, e => by
    obtain ⟨v, fp, f0, h1, h2, h3, h4⟩ := RlE.out (i := i) r (by simpa using e)
    exact ⟨v, fp, fq ++ f0, by simpa using h1, h2, .som h0 h3, fun a => by rw [List.count_append, List.count_append]; have := h4 a; omega⟩

/-! ### a step of the heap: fs what is mine before, gs what is mine behind -/
structure Stp (F O : Hp) (fs : List Addr) (F' O' : Hp) (gs : List Addr) : Prop where
  f : Same F F'
  k : ∀ a o, a ∉ fs → O a = some o → O' a = some o
  n : ∀ a ∈ gs, a ∈ fs ∨ jn F O a = none
  g : ∀ a, jn F O a ≠ none → jn F' O' a ≠ none
theorem Stp.refl {fs : List Addr} : Stp F O fs F O fs := ⟨Same.refl F, fun _ _ _ h => h, fun _ h => .inl h, fun _ h => h⟩
theorem Stp.trans {F1 O1 : Hp} {fs gs hs : List Addr} (x : Stp F O fs F1 O1 gs) (y : Stp F1 O1 gs F' O' hs) : Stp F O fs F' O' hs := by
  refine ⟨x.f.trans y.f, fun a o h e => ?_, fun a h => ?_, fun a h => y.g a (x.g a h)⟩
  · refine y.k a o (fun z => ?_) (x.k a o h e)
    rcases x.n a z with q | q
    · exact h q
    · rw [jn_O e] at q; cases q
  · rcases y.n a h with q | q
    · exact x.n a q
    · by_cases z : jn F O a = none
      · exact .inr z
      · exact absurd q (x.g a z)
/-- less is mine behind -/
theorem Stp.less {fs gs hs : List Addr} (x : Stp F O fs F' O' gs) (h : ∀ a ∈ hs, a ∈ gs) : Stp F O fs F' O' hs := ⟨x.f, x.k, fun a z => x.n a (h a z), x.g⟩
/-- more is mine before and behind: what is not touched -/
theorem Stp.frame {fs gs hs : List Addr} (x : Stp F O fs F' O' gs) : Stp F O (hs ++ fs) F' O' (hs ++ gs) := by
  refine ⟨x.f, fun a o h e => x.k a o (fun z => h (List.mem_append_right _ z)) e, fun a h => ?_, x.g⟩
  rcases List.mem_append.mp h with z | z
  · exact .inl (List.mem_append_left _ z)
  · rcases x.n a z with q | q
    · exact .inl (List.mem_append_right _ q)
    · exact .inr q
/-- a value that stands by keeps -/
theorem Stp.keep {fs gs fp : List Addr} {v : V} {t : T} (x : Stp F O fs F' O' gs) (r : Rl K F O v t fp) (d : ∀ a ∈ fp, a ∉ fs) : Rl K F' O' v t fp := r.mono x.f fun a h o e => x.k a o (d a h) e
theorem Stp.keeps {fs gs fp : List Addr} {v : List V} {t : List T} (x : Stp F O fs F' O' gs) (r : Rls K F O v t fp) (d : ∀ a ∈ fp, a ∉ fs) : Rls K F' O' v t fp := r.mono x.f fun a h o e => x.k a o (d a h) e
/-- what stands by stays apart -/
theorem Stp.nd {fs gs fp : List Addr} (x : Stp F O fs F' O' gs) (al : ∀ a ∈ fp, ∃ o, O a = some o) (h : Nd (fp ++ fs)) (h2 : Nd gs) : Nd (fp ++ gs) := by
  refine h.left.of h2 fun a z q => ?_
  rcases x.n a q with w | w
  · exact h.apart z w
  · obtain ⟨o, e⟩ := al a z
    rw [jn_O e] at w
    cases w
/-- a new owned object -/
theorem Stp.newO {p : Addr} {o : HO} {gs : List Addr} (hp : jn F O p = none) (hg : ∀ a ∈ gs, a = p) : Stp F O [] F (upd O p o) gs := by
  refine ⟨Same.refl F, fun a u _ e => ?_, fun a h => ?_, fun a h => ?_⟩
  · rw [upd_ne fun z => by rw [z, (jn_none hp).2] at e; cases e]
    exact e
  · rw [hg a h]
    exact .inr hp
  · rw [← upd_jn, upd_ne fun z => h (by rw [z]; exact hp)]
    exact h
theorem Stp.newF {p : Addr} {o : HO} (hp : jn F O p = none) : Stp F O [] (upd F p o) O [] := by
  refine ⟨same_new (jn_none hp).1, fun a u _ e => e, fun a h => (by cases h), fun a h => ?_⟩
  rw [← upd_jnF (jn_none hp).2, upd_ne fun z => h (by rw [z]; exact hp)]
  exact h

/-! ### the judgements -/
def RlO (K : PySem.W.Frag) (σ : L2.St) (F O : Hp) (v : V) : Opd → List Addr → Prop
  | .s i, fp => σ[i]? = some (some v) ∧ fp = []
  | .t x, fp => Rl K F O v x fp
inductive RlOs (K : PySem.W.Frag) (σ : L2.St) (F O : Hp) : List V → List Opd → List Addr → Prop
  | nil : RlOs K σ F O [] [] []
  | cons {v : V} {o : Opd} {f : List Addr} {vs : List V} {os : List Opd} {fs : List Addr} (h : RlO K σ F O v o f) (r : RlOs K σ F O vs os fs) : RlOs K σ F O (v :: vs) (o :: os) (f ++ fs)
theorem RlO.alloc {σ : L2.St} {v : V} {o : Opd} {fp : List Addr} (h : RlO K σ F O v o fp) : ∀ a ∈ fp, ∃ o, O a = some o := by
  cases o with
  | s i => obtain ⟨_, rfl⟩ := h; intro a z; cases z
  | t x => exact Rl.alloc h
theorem RlOs.alloc {σ : L2.St} {v : List V} {o : List Opd} {fp : List Addr} (h : RlOs K σ F O v o fp) : ∀ a ∈ fp, ∃ o, O a = some o := by
  induction h with
  | nil => intro a z; cases z
  | cons h r ih => exact fun a z => (List.mem_append.mp z).elim (h.alloc a) (ih a)
theorem Stp.keepO {σ : L2.St} {fs gs fp : List Addr} {v : V} {o : Opd} (x : Stp F O fs F' O' gs) (r : RlO K σ F O v o fp) (d : ∀ a ∈ fp, a ∉ fs) : RlO K σ F' O' v o fp := by
  cases o with
  | s i => exact r
  | t y => exact x.keep (show Rl K F O v y fp from r) d
/-- an operand, looked at: its tree -/
theorem RlO.view {σ : L2.St} {env : Env} {f fp : List Addr} {v : V} {o : Opd} {t : T} (h : RlO K σ F O v o fp) (e : RlE K F O σ env f) (w : vw env o = some t) : ∃ fq, Rl K F O v t fq ∧ ∀ a, fq.count a ≤ (fp ++ f).count a := by
  cases o with
  | s i =>
    obtain ⟨h1, rfl⟩ := h
    have w' : env[i]? = some (some t) := by
      simp only [vw] at w
      split at w
      · next y q => rw [q, Option.some.inj w]
      · cases w
    obtain ⟨v', fq, h2, h3, h4⟩ := e.get w'
    rw [h1] at h2
    cases h2
    exact ⟨fq, h3, fun a => by rw [List.nil_append]; exact h4 a⟩
  | t x =>
    have w' : x = t := Option.some.inj w
    subst w'
    exact ⟨fp, h, fun a => by rw [List.count_append]; omega⟩
theorem RlOs.views {σ : L2.St} {env : Env} {f : List Addr} (e : RlE K F O σ env f) : ∀ {os : List Opd} {vs : List V} {fp : List Addr} {ts : List T}, RlOs K σ F O vs os fp → vws env os = some ts → ∃ fq, Rls K F O vs ts fq
  | [], _, _, _, h, w => by
    cases h
    cases w
    exact ⟨[], .nil⟩
  | o :: os, _, _, ts, h, w => by
    cases h with
    | cons h r =>
      unfold vws at w
      revert w
      cases q : vw env o with
      | none => intro w; cases w
      | some t =>
        cases q2 : vws env os with
        | none => intro w; cases w
        | some us =>
          intro w
          cases w
          obtain ⟨fq, h1, _⟩ := h.view e q
          obtain ⟨fr, h2⟩ := RlOs.views e r q2
          exact ⟨fq ++ fr, .cons h1 h2⟩

/-- what is known at a point: the heap is F and O apart, the slots are these, what is mine is apart -/
structure At (K : PySem.W.Frag) (σ : L2.St) (F O : Hp) (env : Env) (fp f : List Addr) : Prop where
  d : Dis F O
  e : RlE K F O σ env f
  nd : Nd (fp ++ f)
def ESnd (K : PySem.W.Frag) (te : TE) (ev : Ev) : Prop := ∀ env o env', ev env = some (o, env') → ∀ σ F O f, At K σ F O env [] f → ∀ Q : VK,
  (∀ v F' O' fp f', At K σ F' O' env' fp f' → Stp F O f F' O' (fp ++ f') → RlO K σ F' O' v o fp → Q v (jn F' O')) → te σ (jn F O) Q
def ASnd (K : PySem.W.Frag) (ta : TA) (ea : Ea) : Prop := ∀ env os env', ea env = some (os, env') → ∀ σ F O f, At K σ F O env [] f → ∀ Q : List V → Hp → Prop,
  (∀ vs F' O' fp f', At K σ F' O' env' fp f' → Stp F O f F' O' (fp ++ f') → RlOs K σ F' O' vs os fp → Q vs (jn F' O')) → ta σ (jn F O) Q
def TSnd (K : PySem.W.Frag) (tt : TT) (et : Et) : Prop := ∀ env b env', et env = some (b, env') → ∀ σ F O f, At K σ F O env [] f → ∀ Q : Bool → Hp → Prop,
  (∀ F' O' f', At K σ F' O' env' [] f' → Stp F O f F' O' f' → Q b (jn F' O')) → tt σ (jn F O) Q
structure SE (K : PySem.W.Frag) (X : Cx) (e : Expr) (te : TE) (ev : Ev) : Prop where
  p : PE X e te
  s : ESnd K te ev
  k : X.K = K := by rfl
structure SA (K : PySem.W.Frag) (X : Cx) (es : List Expr) (ta : TA) (ea : Ea) : Prop where
  p : PA X es ta
  s : ASnd K ta ea
  k : X.K = K := by rfl
structure ST (K : PySem.W.Frag) (X : Cx) (e : Expr) (tt : TT) (et : Et) : Prop where
  p : PT X e tt
  s : TSnd K tt et
  k : X.K = K := by rfl
/-- a test whatever its whole is -/
structure SW (K : PySem.W.Frag) (X : Cx) (e : Expr) (tt : TT) (et : Et) : Prop where
  p : PW X e tt
  s : TSnd K tt et
  k : X.K = K := by rfl

/-! ### an operation on trees -/
/-- what an operation hands back: new things alone are its own -/
def Back (K : PySem.W.Frag) (F O : Hp) (t : T) (Q : VK) : Prop := ∀ v F' O' fp, Dis F' O' → Stp F O [] F' O' fp → Rl K F' O' v t fp → Nd fp → Q v (jn F' O')
theorem Back.sc {v : V} {t : T} {Q : VK} (b : Back K F O t Q) (d : Dis F O) (h : Rl K F O v t []) : Q v (jn F O) := b v F O [] d Stp.refl h Nd.nil
theorem Back.newL {vs : List V} {ts : List T} {Q : VK} (b : Back K F O (.lst true ts) Q) (d : Dis F O) (h : Rls K F O vs ts []) : ∀ p, jn F O p = none → Q (.ref p) (upd (jn F O) p (.lst vs)) := fun p hp => by
  rw [upd_jn]
  refine b (.ref p) F _ [p] (d.updO (jn_none hp).1) (Stp.newO hp fun a z => List.mem_singleton.mp z) ?_ fun a => ?_
  · exact .lstO (fs := []) upd_same (h.mono (Same.refl F) fun a z => by cases z)
  · exact Nat.le_trans (List.count_le_length ..) (Nat.le_refl _)
theorem Back.newT {vs : List V} {ts : List T} {Q : VK} (b : Back K F O (.tup false ts) Q) (d : Dis F O) (h : Rls K F O vs ts []) : ∀ p, jn F O p = none → Q (.ref p) (upd (jn F O) p (.tup vs)) := fun p hp => by
  rw [upd_jnF (jn_none hp).2]
  exact b (.ref p) _ O [] (d.updF (jn_none hp).2) (Stp.newF hp) (.tupF (.inl (.inl upd_same)) (h.mono (same_new (jn_none hp).1) fun a z => by cases z)) Nd.nil
def OSnd1 (K : PySem.W.Frag) (r : V → Hp → VK → Prop) (f : T → Option T) : Prop := ∀ F O x a fa t, Dis F O → Rl K F O x a fa → f a = some t → ∀ Q : VK, Back K F O t Q → r x (jn F O) Q
def OSnd2 (K : PySem.W.Frag) (r : R2) (f : T → T → Option T) : Prop := ∀ F O x y a b fa fb t, Dis F O → Rl K F O x a fa → Rl K F O y b fb → f a b = some t → ∀ Q : VK, Back K F O t Q → r x y (jn F O) Q
def OSndN (K : PySem.W.Frag) (r : List V → Hp → VK → Prop) (f : List T → Option T) : Prop := ∀ F O xs as fa t, Dis F O → Rls K F O xs as fa → f as = some t → ∀ Q : VK, Back K F O t Q → r xs (jn F O) Q
end
end LP
set_option maxRecDepth 100000
/-! LP: expressions. -/
namespace LP
open PySem L2
section
variable {K : PySem.W.Frag} {F O F' O' F1 O1 F2 O2 : Hp} {σ : L2.St} {env env' : Env} {f f1 f2 fp fp1 fp2 : List Addr}

theorem At.only (a : At K σ F O env fp f) : At K σ F O env [] f := ⟨a.d, a.e, a.nd.right⟩
theorem Stp.snd {fs gs hs : List Addr} (x : Stp F O fs F' O' (gs ++ hs)) : Stp F O fs F' O' hs := x.less fun a z => List.mem_append_right _ z
theorem Stp.none_k {gs : List Addr} (x : Stp F O [] F' O' gs) : ∀ a o, O a = some o → O' a = some o := fun a o e => x.k a o (fun z => by cases z) e
/-- an operation's end -/
theorem fin {t : T} {Q : VK} (a2 : At K σ F2 O2 env' fp2 f2) (st : Stp F O f F2 O2 f2)
    (q : ∀ v F' O' fp f', At K σ F' O' env' fp f' → Stp F O f F' O' (fp ++ f') → RlO K σ F' O' v (.t t) fp → Q v (jn F' O')) : Back K F2 O2 t Q := fun v F3 O3 fp d3 s3 r3 n3 => by
  refine q v F3 O3 fp f2 ⟨d3, a2.e.mono s3.f fun a z o e => s3.none_k a o e, n3.of a2.nd.right fun a z w => ?_⟩ ?_ r3
  · rcases s3.n a z with e | e
    · cases e
    · obtain ⟨o, h⟩ := a2.e.alloc a w
      rw [jn_O h] at e
      cases e
  · have s4 := s3.frame (hs := f2)
    rw [List.append_nil] at s4
    exact (st.trans s4).less fun a z => (List.mem_append.mp z).elim (fun w => List.mem_append_right _ w) fun w => List.mem_append_left _ w
/-- what is stored: nothing owned by a slot -/
def sto (env : Env) : Opd → Option T
  | .s i => match vw env (.s i) with
    | some t => if t.fz then some t else none
    | none => none
  | .t x => some x
def stos (env : Env) : List Opd → Option (List T)
  | [] => some []
  | o :: r => match sto env o with
    | some t => match stos env r with
      | some ts => some (t :: ts)
      | none => none
    | none => none
theorem RlO.store {v : V} {o : Opd} {t : T} (h : RlO K σ F O v o fp) (e : RlE K F O σ env f) (w : sto env o = some t) : Rl K F O v t fp := by
  cases o with
  | s i =>
    simp only [sto] at w
    split at w
    · next y q =>
      split at w
      · next z =>
        have w' : y = t := Option.some.inj w
        subst w'
        obtain ⟨fq, h1, _⟩ := RlO.view (o := .s i) h e q
        obtain ⟨_, rfl⟩ := h
        have := h1.noown z
        subst this
        exact h1
      · cases w
    · cases w
  | t x =>
    have w' : x = t := Option.some.inj w
    subst w'
    exact h
theorem RlOs.stores (e : RlE K F O σ env f) : ∀ {os : List Opd} {vs : List V} {fp : List Addr} {ts : List T}, RlOs K σ F O vs os fp → stos env os = some ts → Rls K F O vs ts fp
  | [], _, _, _, h, w => by
    cases h
    cases w
    exact .nil
  | o :: os, _, _, ts, h, w => by
    cases h with
    | cons h r =>
      simp only [stos] at w
      split at w
      · next t q =>
        split at w
        · next us q2 =>
          cases w
          exact .cons (h.store e q) (RlOs.stores e r q2)
        · cases w
      · cases w

/-! ### names, constants -/
def cV (i : Nat) : Ev := fun env => match env[i]? with
  | some (some _) => some (.s i, env)
  | _ => none
def cK (t : T) : Ev := fun env => some (.t t, env)
/-- the slot's tree goes over; the slot is not read again -/
def cMv (i : Nat) : Ev := fun env => match env[i]? with
  | some (some t) => some (.t t, env.set i none)
  | _ => none
/-- the slot's tree is free from now on -/
def cFz (i : Nat) : Ev := fun env => match env[i]? with
  | some (some t) => some (.t t.er, env.set i (some t.er))
  | _ => none
theorem eV {i : Nat} : ESnd K (tVar i) (cV i) := by
  intro env o env' h σ F O f a0 Q q
  simp only [cV] at h
  split at h
  · next t e =>
    cases h
    obtain ⟨v, fp, h1, h2, h3⟩ := a0.e.get e
    exact ⟨v, h1, q v F O [] f a0 Stp.refl ⟨h1, rfl⟩⟩
  · cases h
theorem eK {v : V} {t : T} (r : ∀ F O, Rl K F O v t []) : ESnd K (tC v) (cK t) := by
  intro env o env' h σ F O f a0 Q q
  cases h
  exact q v F O [] f a0 Stp.refl (r F O)
theorem eMv {i : Nat} : ESnd K (tVar i) (cMv i) := by
  intro env o env' h σ F O f a0 Q q
  simp only [cMv] at h
  split at h
  · next t e =>
    cases h
    obtain ⟨v, fp, f0, h1, h2, h3, h4⟩ := a0.e.out e
    refine ⟨v, h1, q v F O fp f0 ⟨a0.d, h3, a0.nd.sub fun a => by rw [List.count_append]; have := h4 a; simp; omega⟩ (Stp.refl.less fun a z => ?_) h2⟩
    rw [mem_count] at z ⊢
    rw [List.count_append] at z
    have := h4 a
    omega
  · cases h
/-- a slot's tree given free -/
theorem freeze {i : Nat} {t : T} (a0 : At K σ F O env [] f) (e : env[i]? = some (some t)) :
    ∃ v F' O' f', σ[i]? = some (some v) ∧ jn F' O' = jn F O ∧ At K σ F' O' (env.set i (some t.er)) [] f' ∧ Stp F O f F' O' f' ∧ Rl K F' O' v t.er [] := by
  obtain ⟨v, fq, h1, _, _⟩ := a0.e.get e
  obtain ⟨fp, f0, h2, h3, h4⟩ := a0.e.upd h1 e
  have al := h2.alloc
  have j := jn_toF (F := F) al
  have k0 : ∀ a ∈ f0, ∀ o, O a = some o → offO O fp a = some o := fun a z o e => by
    unfold offO
    rw [if_neg fun w => ?_]
    · exact e
    · have := h3 a
      have n := a0.nd a
      rw [List.nil_append] at n
      rw [mem_count] at z w
      omega
  obtain ⟨f', h5, h6⟩ := h4 (toF F O fp) (offO O fp) t.er [] (a0.d.same_toF al) k0 (h2.erase a0.d al fun a z => z)
  refine ⟨v, toF F O fp, offO O fp, f', h1, j, ⟨a0.d.toF, h5, a0.nd.sub fun a => ?_⟩, ⟨a0.d.same_toF al, fun a o z e => ?_, fun a z => .inl ?_, fun a z => by rw [j]; exact z⟩, h2.erase a0.d al fun a z => z⟩
  · have e1 := h6 a
    have e2 := h3 a
    rw [List.count_nil] at e1
    rw [List.nil_append, List.nil_append]
    omega
  · unfold offO
    rw [if_neg fun w => z ?_]
    · exact e
    · have := h3 a
      rw [mem_count] at w ⊢
      omega
  · have e1 := h6 a
    have e2 := h3 a
    rw [List.count_nil] at e1
    rw [mem_count] at z ⊢
    omega
theorem eFz {i : Nat} : ESnd K (tVar i) (cFz i) := by
  intro env o env' h σ F O f a0 Q q
  simp only [cFz] at h
  split at h
  · next t e =>
    cases h
    obtain ⟨v, F1, O1, f1, h1, j, a1, s1, r1⟩ := freeze a0 e
    refine ⟨v, h1, ?_⟩
    rw [← j]
    exact q v F1 O1 [] f1 a1 s1 r1
  · cases h

/-! ### operations -/
def cO1 (g : T → Option T) (a : Ev) : Ev := fun env => match a env with
  | some (o, e) => match vw e o with
    | some x => match g x with
      | some t => some (.t t, e)
      | none => none
    | none => none
  | none => none
def cO2 (g : T → T → Option T) (a b : Ev) : Ev := fun env => match a env with
  | some (o1, e1) => match b e1 with
    | some (o2, e2) => match vw e2 o1, vw e2 o2 with
      | some x, some y => match g x y with
        | some t => some (.t t, e2)
        | none => none
      | _, _ => none
    | none => none
  | none => none
def cON (g : List T → Option T) (a : Ea) : Ev := fun env => match a env with
  | some (os, e) => match vws e os with
    | some xs => match g xs with
      | some t => some (.t t, e)
      | none => none
    | none => none
  | none => none
theorem eO1 {ta : TE} {ea : Ev} {r : V → Hp → VK → Prop} {g : T → Option T} (ha : ESnd K ta ea) (hr : OSnd1 K r g) : ESnd K (tUn r ta) (cO1 g ea) := by
  intro env o env' h σ F O f a0 Q q
  simp only [cO1] at h
  split at h
  · next o1 e1 h1 =>
    split at h
    · next x hx =>
      split at h
      · next t ht =>
        cases h
        refine ha _ _ _ h1 σ F O f a0 _ fun v F1 O1 fp1 f1 a1 s1 r1 => ?_
        obtain ⟨g1, w1, _⟩ := r1.view a1.e hx
        exact hr F1 O1 _ _ _ _ a1.d w1 ht Q (fin a1 s1.snd q)
      · cases h
    · cases h
  · cases h
theorem eO2 {ta tb : TE} {ea eb : Ev} {r : R2} {g : T → T → Option T} (ha : ESnd K ta ea) (hb : ESnd K tb eb) (hr : OSnd2 K r g) : ESnd K (tOp r ta tb) (cO2 g ea eb) := by
  intro env o env' h σ F O f a0 Q q
  simp only [cO2] at h
  split at h
  · next o1 e1 h1 =>
    split at h
    · next o2 e2 h2 =>
      split at h
      · next x y hx hy =>
        split at h
        · next t ht =>
          cases h
          refine ha _ _ _ h1 σ F O f a0 _ fun v F1 O1 fp1 f1 a1 s1 r1 => ?_
          refine hb _ _ _ h2 σ F1 O1 f1 a1.only _ fun v2 F2 O2 fp2 f2 a2 s2 r2 => ?_
          obtain ⟨g1, w1, _⟩ := (s2.keepO r1 fun a z => a1.nd.apart z).view a2.e hx
          obtain ⟨g2, w2, _⟩ := r2.view a2.e hy
          exact hr F2 O2 _ _ _ _ _ _ _ a2.d w1 w2 ht Q (fin a2 (s1.snd.trans s2.snd) q)
        · cases h
      · cases h
    · cases h
  · cases h
theorem eON {ta : TA} {ea : Ea} {r : List V → Hp → VK → Prop} {g : List T → Option T} (ha : ASnd K ta ea) (hr : OSndN K r g) : ESnd K (tCB r ta) (cON g ea) := by
  intro env o env' h σ F O f a0 Q q
  simp only [cON] at h
  split at h
  · next o1 e1 h1 =>
    split at h
    · next x hx =>
      split at h
      · next t ht =>
        cases h
        refine ha _ _ _ h1 σ F O f a0 _ fun v F1 O1 fp1 f1 a1 s1 r1 => ?_
        obtain ⟨g1, w1⟩ := r1.views a1.e hx
        exact hr F1 O1 _ _ _ _ a1.d w1 ht Q (fin a1 s1.snd q)
      · cases h
    · cases h
  · cases h

/-! ### argument lists, displays -/
def aNil : Ea := fun env => some ([], env)
def aCons (a : Ev) (r : Ea) : Ea := fun env => match a env with
  | some (o, e) => match r e with
    | some (os, e2) => some (o :: os, e2)
    | none => none
  | none => none
theorem eaNil : ASnd K tNil aNil := by
  intro env o env' h σ F O f a0 Q q
  cases h
  exact q [] F O [] f a0 Stp.refl .nil
theorem RlOs.keep {fs gs : List Addr} {v : List V} {o : List Opd} (x : Stp F O fs F' O' gs) (r : RlOs K σ F O v o fp) (d : ∀ a ∈ fp, a ∉ fs) : RlOs K σ F' O' v o fp := by
  induction r with
  | nil => exact .nil
  | cons h r ih => exact .cons (x.keepO h fun a z => d a (List.mem_append_left _ z)) (ih fun a z => d a (List.mem_append_right _ z))
theorem eaCons {te : TE} {ta : TA} {ev : Ev} {ea : Ea} (h1 : ESnd K te ev) (h2 : ASnd K ta ea) : ASnd K (tCons te ta) (aCons ev ea) := by
  intro env o env' h σ F O f a0 Q q
  simp only [aCons] at h
  split at h
  · next o1 e1 h3 =>
    split at h
    · next os e2 h4 =>
      cases h
      refine h1 _ _ _ h3 σ F O f a0 _ fun v F1 O1 fp1 f1 a1 s1 r1 => ?_
      refine h2 _ _ _ h4 σ F1 O1 f1 a1.only _ fun vs F2 O2 fp2 f2 a2 s2 r2 => ?_
      have n : Nd (fp1 ++ (fp2 ++ f2)) := s2.nd r1.alloc a1.nd a2.nd
      refine q (v :: vs) F2 O2 (fp1 ++ fp2) f2 ⟨a2.d, a2.e, by rw [List.append_assoc]; exact n⟩ ?_ (.cons (s2.keepO r1 fun a z => a1.nd.apart z) r2)
      have s3 := s2.frame (hs := fp1)
      rw [List.append_assoc]
      exact s1.trans s3
    · cases h
  · cases h
def cLst (a : Ea) : Ev := fun env => match a env with
  | some (os, e) => match stos e os with
    | some ts => if ts.length ≤ sizeLine then some (.t (.lst true ts), e) else none
    | none => none
  | none => none
def cTup (a : Ea) : Ev := fun env => match a env with
  | some (os, e) => match stos e os with
    | some ts => if ts.length ≤ sizeLine then some (.t (.tup (!fzL ts) ts), e) else none
    | none => none
  | none => none
theorem Rls.len : ∀ {vs : List V} {ts : List T} {fs : List Addr}, Rls K F O vs ts fs → vs.length = ts.length
  | _, _, _, .nil => rfl
  | _, _, _, .cons _ r => by rw [List.length_cons, List.length_cons, Rls.len r]
/-- a new object holds things made on the way -/
theorem newObj {p : Addr} {o : HO} (a1 : At K σ F O env fp f) (al : ∀ a ∈ fp, ∃ o, O a = some o) (hp : jn F O p = none) : At K σ F (upd O p o) env (p :: fp) f ∧ Stp F O (fp ++ f) F (upd O p o) ((p :: fp) ++ f) ∧ ∀ a ∈ fp, ∀ u, O a = some u → upd O p o a = some u := by
  have hk : ∀ (a : Addr) (u : HO), O a = some u → upd O p o a = some u := fun a u e => by
    rw [upd_ne fun z => by rw [z, (jn_none hp).2] at e; cases e]
    exact e
  refine ⟨⟨a1.d.updO (jn_none hp).1, a1.e.mono (Same.refl F) fun a _ u e => hk a u e, fun a => ?_⟩, ⟨Same.refl F, fun a u _ e => hk a u e, fun a z => ?_, fun a z => ?_⟩, fun a _ u e => hk a u e⟩
  · have n := a1.nd a
    rw [List.count_append] at n ⊢
    rw [List.count_cons]
    by_cases e : p = a
    · subst e
      have n1 : ¬ 0 < fp.count p := fun z => by
        obtain ⟨u, h⟩ := al p (mem_count.mpr z)
        rw [(jn_none hp).2] at h
        cases h
      have n2 : ¬ 0 < f.count p := fun z => by
        obtain ⟨u, h⟩ := a1.e.alloc p (mem_count.mpr z)
        rw [(jn_none hp).2] at h
        cases h
      rw [beq_self_eq_true, if_pos rfl]
      omega
    · rw [if_neg (by simpa using e)]
      omega
  · rcases List.mem_cons.mp z with rfl | z
    · exact .inr hp
    · exact .inl z
  · rw [← upd_jn, upd_ne fun w => z (by rw [w]; exact hp)]
    exact z
theorem eLst {ta : TA} {ea : Ea} (ha : ASnd K ta ea) : ESnd K (tLst ta) (cLst ea) := by
  intro env o env' h σ F O f a0 Q q
  simp only [cLst] at h
  split at h
  · next os e1 h1 =>
    split at h
    · next ts h2 =>
      split at h
      · next hl =>
        cases h
        refine ha _ _ _ h1 σ F O f a0 _ fun vs F1 O1 fp1 f1 a1 s1 r1 => ?_
        have r2 := r1.stores a1.e h2
        refine ⟨by rw [r2.len]; exact hl, fun p hp => ?_⟩
        rw [upd_jn]
        obtain ⟨a2, s2, k2⟩ := newObj (o := .lst vs) a1 r1.alloc hp
        exact q (.ref p) F1 _ (p :: fp1) f1 a2 (s1.trans s2) (.lstO upd_same (r2.mono (Same.refl _) k2))
      · cases h
    · cases h
  · cases h
theorem eTup {ta : TA} {ea : Ea} (ha : ASnd K ta ea) : ESnd K (tTup ta) (cTup ea) := by
  intro env o env' h σ F O f a0 Q q
  simp only [cTup] at h
  split at h
  · next os e1 h1 =>
    split at h
    · next ts h2 =>
      split at h
      · next hl =>
        cases h
        refine ha _ _ _ h1 σ F O f a0 _ fun vs F1 O1 fp1 f1 a1 s1 r1 => ?_
        have r2 := r1.stores a1.e h2
        refine ⟨by rw [r2.len]; exact hl, fun p hp => ?_⟩
        cases z : fzL ts with
        | false =>
          rw [upd_jn]
          obtain ⟨a2, s2, k2⟩ := newObj (o := .tup vs) a1 r1.alloc hp
          refine q (.ref p) F1 _ (p :: fp1) f1 a2 (s1.trans s2) ?_
          show Rl K F1 _ (V.ref p) (T.tup (!fzL ts) ts) (p :: fp1)
          rw [z]
          exact .tupO upd_same (r2.mono (Same.refl _) k2)
        | true =>
          have e0 := r2.noown z
          subst e0
          have b : Back K F1 O1 (.tup (!fzL ts) ts) Q := fin a1 s1.snd q
          rw [z] at b
          exact b.newT a1.d r2 p hp
      · cases h
    · cases h
  · cases h

/-! ### truth, and, or, not -/
def cTest (a : Ev) : Et := fun env => match a env with
  | some (o, e) => match vw e o with
    | some (.bl b) => some (b, e)
    | _ => none
  | none => none
theorem tTest_ {ta : TE} {ea : Ev} (ha : ESnd K ta ea) : TSnd K (tTest ta) (cTest ea) := by
  intro env o env' h σ F O f a0 Q q
  simp only [cTest] at h
  split at h
  · next o1 e1 h1 =>
    split at h
    · next b hb =>
      cases h
      refine ha _ _ _ h1 σ F O f a0 _ fun v F1 O1 fp1 f1 a1 s1 r1 => ?_
      obtain ⟨g1, w1, _⟩ := r1.view a1.e hb
      cases w1
      exact ⟨_, rfl, q F1 O1 f1 a1.only s1.snd⟩
    · cases h
  · cases h
theorem tB_ {ta : TE} {ea : Ev} (ha : ESnd K ta ea) : TSnd K (tB ta) (cTest ea) := tTest_ ha
def cAnd (a b : Et) : Et := fun env => match a env with
  | some (true, e) => b e
  | some (false, e) => some (false, e)
  | none => none
def cOr (a b : Et) : Et := fun env => match a env with
  | some (true, e) => some (true, e)
  | some (false, e) => b e
  | none => none
def cNot (a : Et) : Et := fun env => match a env with
  | some (b, e) => some (!b, e)
  | none => none
theorem tAnd_ {ta tb : TT} {ea eb : Et} (ha : TSnd K ta ea) (hb : TSnd K tb eb) : TSnd K (tAnd ta tb) (cAnd ea eb) := by
  intro env o env' h σ F O f a0 Q q
  simp only [cAnd] at h
  split at h
  · next e1 h1 =>
    refine ha _ _ _ h1 σ F O f a0 _ fun F1 O1 f1 a1 s1 => ?_
    rw [if_pos rfl]
    exact hb _ _ _ h σ F1 O1 f1 a1 _ fun F2 O2 f2 a2 s2 => q F2 O2 f2 a2 (s1.trans s2)
  · next e1 h1 =>
    cases h
    refine ha _ _ _ h1 σ F O f a0 _ fun F1 O1 f1 a1 s1 => ?_
    rw [if_neg Bool.false_ne_true]
    exact q F1 O1 f1 a1 s1
  · cases h
theorem tOr_ {ta tb : TT} {ea eb : Et} (ha : TSnd K ta ea) (hb : TSnd K tb eb) : TSnd K (tOr ta tb) (cOr ea eb) := by
  intro env o env' h σ F O f a0 Q q
  simp only [cOr] at h
  split at h
  · next e1 h1 =>
    cases h
    refine ha _ _ _ h1 σ F O f a0 _ fun F1 O1 f1 a1 s1 => ?_
    rw [if_pos rfl]
    exact q F1 O1 f1 a1 s1
  · next e1 h1 =>
    refine ha _ _ _ h1 σ F O f a0 _ fun F1 O1 f1 a1 s1 => ?_
    rw [if_neg Bool.false_ne_true]
    exact hb _ _ _ h σ F1 O1 f1 a1 _ fun F2 O2 f2 a2 s2 => q F2 O2 f2 a2 (s1.trans s2)
  · cases h
theorem tNot_ {ta : TT} {ea : Et} (ha : TSnd K ta ea) : TSnd K (tNot ta) (cNot ea) := by
  intro env o env' h σ F O f a0 Q q
  simp only [cNot] at h
  split at h
  · next b e1 h1 =>
    cases h
    exact ha _ _ _ h1 σ F O f a0 _ fun F1 O1 f1 a1 s1 => q F1 O1 f1 a1 s1
  · cases h
/-- as values: all but the last True or False -/
def cAndV (a b : Ev) : Ev := fun env => match a env with
  | some (o, e) => match vw e o with
    | some (.bl true) => b e
    | some (.bl false) => some (.t (.bl false), e)
    | _ => none
  | none => none
def cOrV (a b : Ev) : Ev := fun env => match a env with
  | some (o, e) => match vw e o with
    | some (.bl false) => b e
    | some (.bl true) => some (.t (.bl true), e)
    | _ => none
  | none => none
def cNotV (a : Ev) : Ev := fun env => match a env with
  | some (o, e) => match vw e o with
    | some (.bl b) => some (.t (.bl (!b)), e)
    | _ => none
  | none => none
theorem eAndV {ta tb : TE} {ea eb : Ev} (ha : ESnd K ta ea) (hb : ESnd K tb eb) : ESnd K (tAndV ta tb) (cAndV ea eb) := by
  intro env o env' h σ F O f a0 Q q
  simp only [cAndV] at h
  split at h
  · next o1 e1 h1 =>
    split at h
    · next hx =>
      refine ha _ _ _ h1 σ F O f a0 _ fun v F1 O1 fp1 f1 a1 s1 r1 => ?_
      obtain ⟨g1, w1, _⟩ := r1.view a1.e hx
      cases w1
      refine ⟨_, rfl, ?_⟩
      rw [if_pos rfl]
      exact hb _ _ _ h σ F1 O1 f1 a1.only _ fun v F2 O2 fp2 f2 a2 s2 r2 => q v F2 O2 fp2 f2 a2 (s1.snd.trans s2) r2
    · next hx =>
      cases h
      refine ha _ _ _ h1 σ F O f a0 _ fun v F1 O1 fp1 f1 a1 s1 r1 => ?_
      obtain ⟨g1, w1, _⟩ := r1.view a1.e hx
      cases w1
      refine ⟨_, rfl, ?_⟩
      rw [if_neg Bool.false_ne_true]
      exact q _ F1 O1 [] f1 a1.only s1.snd (Rl.bl _)
    · cases h
  · cases h
theorem eOrV {ta tb : TE} {ea eb : Ev} (ha : ESnd K ta ea) (hb : ESnd K tb eb) : ESnd K (tOrV ta tb) (cOrV ea eb) := by
  intro env o env' h σ F O f a0 Q q
  simp only [cOrV] at h
  split at h
  · next o1 e1 h1 =>
    split at h
    · next hx =>
      refine ha _ _ _ h1 σ F O f a0 _ fun v F1 O1 fp1 f1 a1 s1 r1 => ?_
      obtain ⟨g1, w1, _⟩ := r1.view a1.e hx
      cases w1
      refine ⟨_, rfl, ?_⟩
      rw [if_neg Bool.false_ne_true]
      exact hb _ _ _ h σ F1 O1 f1 a1.only _ fun v F2 O2 fp2 f2 a2 s2 r2 => q v F2 O2 fp2 f2 a2 (s1.snd.trans s2) r2
    · next hx =>
      cases h
      refine ha _ _ _ h1 σ F O f a0 _ fun v F1 O1 fp1 f1 a1 s1 r1 => ?_
      obtain ⟨g1, w1, _⟩ := r1.view a1.e hx
      cases w1
      refine ⟨_, rfl, ?_⟩
      rw [if_pos rfl]
      exact q _ F1 O1 [] f1 a1.only s1.snd (Rl.bl _)
    · cases h
  · cases h
theorem eNotV {ta : TE} {ea : Ev} (ha : ESnd K ta ea) : ESnd K (tNotV ta) (cNotV ea) := by
  intro env o env' h σ F O f a0 Q q
  simp only [cNotV] at h
  split at h
  · next o1 e1 h1 =>
    split at h
    · next b hx =>
      cases h
      refine ha _ _ _ h1 σ F O f a0 _ fun v F1 O1 fp1 f1 a1 s1 r1 => ?_
      obtain ⟨g1, w1, _⟩ := r1.view a1.e hx
      cases w1
      exact ⟨_, rfl, q _ F1 O1 [] f1 a1.only s1.snd (Rl.bl _)⟩
    · cases h
  · cases h
def cIf (c : Et) (a b : Ev) : Ev := fun env => match c env with
  | some (true, e) => a e
  | some (false, e) => b e
  | none => none
theorem eIf {tc : TT} {ta tb : TE} {ec : Et} {ea eb : Ev} (hc : TSnd K tc ec) (ha : ESnd K ta ea) (hb : ESnd K tb eb) : ESnd K (tIf tc ta tb) (cIf ec ea eb) := by
  intro env o env' h σ F O f a0 Q q
  simp only [cIf] at h
  split at h
  · next e1 h1 =>
    refine hc _ _ _ h1 σ F O f a0 _ fun F1 O1 f1 a1 s1 => ?_
    rw [if_pos rfl]
    exact ha _ _ _ h σ F1 O1 f1 a1 _ fun v F2 O2 fp2 f2 a2 s2 r2 => q v F2 O2 fp2 f2 a2 (s1.trans s2) r2
  · next e1 h1 =>
    refine hc _ _ _ h1 σ F O f a0 _ fun F1 O1 f1 a1 s1 => ?_
    rw [if_neg Bool.false_ne_true]
    exact hb _ _ _ h σ F1 O1 f1 a1 _ fun v F2 O2 fp2 f2 a2 s2 r2 => q v F2 O2 fp2 f2 a2 (s1.trans s2) r2
  · cases h
end
end LP
set_option maxRecDepth 100000
/-! LP: operations on trees. -/
namespace LP
open PySem L2
section
variable {K : PySem.W.Frag} {F O : Hp}
theorem Rl.lstv {v : V} {o : Bool} {xs : List T} {f : List Addr} (d : Dis F O) (h : Rl K F O v (.lst o xs) f) : ∃ a vs fs, v = .ref a ∧ jn F O a = some (.lst vs) ∧ Rls K F O vs xs fs := by
  cases h with
  | lstF h r => exact ⟨_, _, _, rfl, d.jn_F h, r⟩
  | lstO h r => exact ⟨_, _, _, rfl, jn_O h, r⟩
theorem Rl.tupv {v : V} {o : Bool} {xs : List T} {f : List Addr} (d : Dis F O) (h : Rl K F O v (.tup o xs) f) : ∃ a vs fs, v = .ref a ∧ SqT K (jn F O) a vs ∧ Rls K F O vs xs fs := by
  cases h with
  | tupF h r => exact ⟨_, _, _, rfl, Same.seqT d.same h, r⟩
  | tupO h r => exact ⟨_, _, _, rfl, .inl (.inl (jn_O h)), r⟩
theorem Rl.scrv {v : V} {ns : List Int} {f : List Addr} (d : Dis F O) (h : Rl K F O v (.scr ns) f) : ∃ a, v = .ref a ∧ SqL K (jn F O) a (ns.map V.int) := by
  cases h with
  | scr h => exact ⟨_, rfl, d.same.seq h.seq⟩
theorem Rls.append : ∀ {vs ws : List V} {ts us : List T} {f g : List Addr}, Rls K F O vs ts f → Rls K F O ws us g → Rls K F O (vs ++ ws) (ts ++ us) (f ++ g)
  | _, _, _, _, _, _, .nil, s => s
  | _, _, _, _, _, _, .cons h r, s => by
    rw [List.append_assoc]
    exact .cons h (Rls.append r s)
theorem Rls.at : ∀ {vs : List V} {ts : List T} {f : List Addr} {i : Nat} {t : T}, Rls K F O vs ts f → ts[i]? = some t → ∃ v g, vs[i]? = some v ∧ Rl K F O v t g ∧ ∀ a, g.count a ≤ f.count a
  | _, _, _, _, _, .nil, e => by simp at e
  | _, _, _, 0, t', .cons (t := t0) (f := f0) h r, e => by
    have e2 : t0 = t' := by simpa using e
    subst e2
    exact ⟨_, f0, rfl, h, fun a => by rw [List.count_append]; omega⟩
  | _, _, _, i + 1, _, .cons h r, e => by
    obtain ⟨v, g, h1, h2, h3⟩ := Rls.at (i := i) r (by simpa using e)
    exact ⟨v, g, by simpa using h1, h2, fun a => by rw [List.count_append]; have := h3 a; omega⟩
theorem Rls.own0 {vs : List V} {ts : List T} {f : List Addr} (h : Rls K F O vs ts f) (z : fzL ts = true) : Rls K F O vs ts [] := by
  have e := h.noown z
  subst e
  exact h
theorem Rl.own0 {v : V} {t : T} {f : List Addr} (h : Rl K F O v t f) (z : t.fz = true) : Rl K F O v t [] := by
  have e := h.noown z
  subst e
  exact h
/-- all ints -/
def intsL : List T → Option (List Int)
  | [] => some []
  | .int i :: r => match intsL r with
    | some ns => some (i :: ns)
    | none => none
  | _ :: _ => none
theorem ints_map (ns : List Int) : intsL (ns.map T.int) = some ns := by
  induction ns with
  | nil => rfl
  | cons n r ih => simp only [List.map_cons, intsL, ih]
theorem ints_eq : ∀ {ts : List T} {ns : List Int}, intsL ts = some ns → ts = ns.map T.int
  | [], ns, h => by cases h; rfl
  | .int i :: r, ns, h => by
    simp only [intsL] at h
    split at h
    · next ms e => cases h; rw [ints_eq e]; rfl
    · cases h
  | .non :: _, _, h => by cases h
  | .bl _ :: _, _, h => by cases h
  | .str _ :: _, _, h => by cases h
  | .lst _ _ :: _, _, h => by cases h
  | .tup _ _ :: _, _, h => by cases h
  | .scr _ :: _, _, h => by cases h
  | .dic _ _ _ :: _, _, h => by cases h
  | .dtu _ _ _ :: _, _, h => by cases h
theorem Rls.ofInts : ∀ {ns : List Int} {vs : List V} {f : List Addr}, Rls K F O vs (ns.map T.int) f → vs = ns.map V.int
  | [], _, _, h => by cases h; rfl
  | n :: r, _, _, h => by
    cases h with
    | cons h1 h2 => cases h1; rw [Rls.ofInts h2]; rfl
theorem Rls.mkInts : ∀ (ns : List Int), Rls K F O (ns.map V.int) (ns.map T.int) []
  | [] => .nil
  | n :: r => .cons (f := []) (fs := []) (.int n) (Rls.mkInts r)

/-! ### arithmetic -/
def opI (g : Int → Int → Option Int) : T → T → Option T := fun a b => match a, b with
  | .int i, .int j => match g i j with
    | some k => some (.int k)
    | none => none
  | _, _ => none
def big : Int := 2 ^ 64
theorem okMul_ex : ∃ f : Int → Int → Bool, ∀ i j, f i j = ((decide (-(2 ^ 64) < i) && decide (i < 2 ^ 64)) || (decide (-(2 ^ 64) < j) && decide (j < 2 ^ 64))) := ⟨_, fun _ _ => rfl⟩
/-- one of the two is small (not to be reckoned by the kernel) -/
noncomputable def okMul : Int → Int → Bool := Classical.choose okMul_ex
theorem okMul_eq (i j : Int) : okMul i j = ((decide (-(2 ^ 64) < i) && decide (i < 2 ^ 64)) || (decide (-(2 ^ 64) < j) && decide (j < 2 ^ 64))) := Classical.choose_spec okMul_ex i j
def subT := opI fun i j => some (i - j)
noncomputable def mulT := opI fun i j => if okMul i j then some (i * j) else none
def divT := opI fun i j => if 0 < j ∧ j < 1073741824 then some (i / j) else none
def modT := opI fun i j => if 0 < j then some (i % j) else none
theorem sI {C : Int → Int → Prop} {g : Int → Int → Int} {g' : Int → Int → Option Int} (h : ∀ i j k, g' i j = some k → C i j ∧ g i j = k) : OSnd2 K (rI C fun i j => .int (g i j)) (opI g') := by
  intro F O x y a b fa fb t d ha hb e Q q
  unfold opI at e
  split at e
  · split at e
    · next k hk =>
      cases e
      cases ha
      cases hb
      obtain ⟨h1, h2⟩ := h _ _ _ hk
      refine ⟨_, _, rfl, rfl, h1, ?_⟩
      show Q (V.int (g _ _)) _
      rw [h2]
      exact q.sc d (.int _)
    · cases e
  · cases e
theorem sSub : OSnd2 K (rI0 fun i j => .int (i - j)) subT := by
  intro F O x y a b fa fb t d ha hb e Q q
  unfold subT opI at e
  split at e
  · cases e
    cases ha
    cases hb
    exact ⟨_, _, rfl, rfl, q.sc d (.int _)⟩
  · cases e
theorem sMul : OSnd2 K (rI CMul fun i j => .int (i * j)) mulT := sI fun i j k e => by
  split at e
  · next h =>
    refine ⟨?_, Option.some.inj e⟩
    simp only [okMul_eq, Bool.or_eq_true, Bool.and_eq_true, decide_eq_true_eq] at h
    exact h
  · cases e
theorem sDiv : OSnd2 K (rI CDiv fun i j => .int (i / j)) divT := sI fun i j k e => by
  split at e
  · next h => exact ⟨h, Option.some.inj e⟩
  · cases e
theorem sMod : OSnd2 K (rI (fun _ j => 0 < j) fun i j => .int (i % j)) modT := sI fun i j k e => by
  split at e
  · next h => exact ⟨h, Option.some.inj e⟩
  · cases e
def negT : T → Option T
  | .int i => some (.int (-i))
  | _ => none
theorem sNeg : OSnd1 K (rU fun i => .int (-i)) negT := by
  intro F O x a fa t d ha e Q q
  unfold negT at e
  split at e
  · cases e
    cases ha
    exact ⟨_, rfl, q.sc d (.int _)⟩
  · cases e
/-- + of ints, texts, lists, tuples -/
def addT : T → T → Option T := fun a b => match a, b with
  | .int i, .int j => some (.int (i + j))
  | .str x, .str y => if x.length + y.length ≤ sizeLine then some (.str (x ++ y)) else none
  | .lst _ xs, .lst _ ys => if fzL xs && fzL ys && decide (xs.length + ys.length ≤ sizeLine) then some (.lst true (xs ++ ys)) else none
  | .tup _ xs, .tup _ ys => if fzL xs && fzL ys && !xs.isEmpty && !ys.isEmpty && decide (xs.length + ys.length ≤ sizeLine) then some (.tup false (xs ++ ys)) else none
  | _, _ => none
def rStr2 : R2 := fun x y H Q => ∃ i j, x = .str i ∧ y = .str j ∧ i.length + j.length ≤ sizeLine ∧ Q (.str (i ++ j)) H
def rAddU (K : PySem.W.Frag) : R2 := fun x y H Q => (rI0 fun i j => .int (i + j)) x y H Q ∨ (rStr2 x y H Q ∨ (rCat x y H Q ∨ rCatT K x y H Q))
theorem op_addU {X : Cx} : OpR X (binaryOp .Add) (rAddU X.K) := op_add.or (op_add_str.or (op_cat.or op_catT))
theorem sAdd : OSnd2 K (rAddU K) addT := by
  intro F O x y a b fa fb t d ha hb e Q q
  unfold addT at e
  split at e
  · cases e
    cases ha
    cases hb
    exact .inl ⟨_, _, rfl, rfl, q.sc d (.int _)⟩
  · split at e
    · next h =>
      cases e
      cases ha
      cases hb
      exact .inr (.inl ⟨_, _, rfl, rfl, h, q.sc d (.str _)⟩)
    · cases e
  · split at e
    · next h =>
      cases e
      simp only [Bool.and_eq_true, decide_eq_true_eq] at h
      obtain ⟨p, vs, fs, rfl, h1, r1⟩ := ha.lstv d
      obtain ⟨p2, ws, gs, rfl, h2, r2⟩ := hb.lstv d
      refine .inr (.inr (.inl ⟨_, _, _, _, rfl, rfl, h1, h2, ?_, ?_⟩))
      · rw [r1.len, r2.len]; exact h.2
      · exact q.newL d ((r1.own0 h.1.1).append (r2.own0 h.1.2))
    · cases e
  · split at e
    · next h =>
      cases e
      simp only [Bool.and_eq_true, decide_eq_true_eq, Bool.not_eq_true', List.isEmpty_eq_false_iff] at h
      obtain ⟨p, vs, fs, rfl, h1, r1⟩ := ha.tupv d
      obtain ⟨p2, ws, gs, rfl, h2, r2⟩ := hb.tupv d
      have n1 : vs ≠ [] := fun z => h.1.1.2 (List.length_eq_zero_iff.mp (by rw [← r1.len, z]; rfl))
      have n2 : ws ≠ [] := fun z => h.1.2 (List.length_eq_zero_iff.mp (by rw [← r2.len, z]; rfl))
      refine .inr (.inr (.inr ⟨_, _, _, _, rfl, rfl, h1, h2, n1, ?_, fun z => absurd z n2, fun _ => ?_⟩))
      · rw [r1.len, r2.len]; exact h.2
      · exact q.newT d ((r1.own0 h.1.1.1.1).append (r2.own0 h.1.1.1.2))
    · cases e
  · cases e

/-! ### comparisons -/
def cmpT (g : Int → Int → Bool) : T → T → Option T := fun a b => match a, b with
  | .int i, .int j => some (.bl (g i j))
  | _, _ => none
theorem sCmp {g : Int → Int → Bool} : OSnd2 K (rI0 fun i j => .bl (g i j)) (cmpT g) := by
  intro F O x y a b fa fb t d ha hb e Q q
  unfold cmpT at e
  split at e
  · cases e
    cases ha
    cases hb
    exact ⟨_, _, rfl, rfl, q.sc d (.bl _)⟩
  · cases e
def ltT := cmpT fun i j => decide (i < j)
def leT := cmpT fun i j => decide (i ≤ j)
def gtT := cmpT fun i j => decide (j < i)
def geT := cmpT fun i j => decide (j ≤ i)
mutual
/-- no deeper than n -/
def T.dle : Nat → T → Bool
  | n + 1, .lst _ xs => dleL n xs
  | n + 1, .tup _ xs => dleL n xs
  | _ + 1, .non => true
  | _ + 1, .bl _ => true
  | _ + 1, .int _ => true
  | _ + 1, .str _ => true
  | _, _ => false
def dleL : Nat → List T → Bool
  | _, [] => true
  | n, x :: r => x.dle n && dleL n r
end
mutual
theorem dle_py : ∀ (n : Nat) (t : T), t.dle n = true → t.py.plain = true ∧ t.py.depth ≤ n
  | 0, t, h => by cases t <;> simp [T.dle] at h
  | n + 1, .lst _ xs, h => by
    obtain ⟨h1, h2⟩ := dle_pyL n xs (by simpa [T.dle] using h)
    refine ⟨?_, ?_⟩
    · simp only [T.py, PyData.plain]; exact h1
    · simp only [T.py, PyData.depth]; omega
  | n + 1, .tup _ xs, h => by
    obtain ⟨h1, h2⟩ := dle_pyL n xs (by simpa [T.dle] using h)
    refine ⟨?_, ?_⟩
    · simp only [T.py, PyData.plain]; exact h1
    · simp only [T.py, PyData.depth]; omega
  | n + 1, .non, _ => ⟨rfl, by simp [T.py, PyData.depth]⟩
  | n + 1, .bl _, _ => ⟨rfl, by simp [T.py, PyData.depth]⟩
  | n + 1, .int _, _ => ⟨rfl, by simp [T.py, PyData.depth]⟩
  | n + 1, .str _, _ => ⟨rfl, by simp [T.py, PyData.depth]⟩
  | n + 1, .scr _, h => by simp [T.dle] at h
  | n + 1, .dic _ _ _, h => by simp [T.dle] at h
  | n + 1, .dtu _ _ _, h => by simp [T.dle] at h
theorem dle_pyL : ∀ (n : Nat) (ts : List T), dleL n ts = true → PyData.plainAll (pyL ts) = true ∧ PyData.depthAll (pyL ts) ≤ n
  | n, [], _ => ⟨rfl, by simp [pyL, PyData.depthAll]⟩
  | n, x :: r, h => by
    simp only [dleL, Bool.and_eq_true] at h
    obtain ⟨h1, h2⟩ := dle_py n x h.1
    obtain ⟨h3, h4⟩ := dle_pyL n r h.2
    refine ⟨?_, ?_⟩
    · simp only [pyL, PyData.plainAll, h1, h3, Bool.and_true]
    · simp only [pyL, PyData.depthAll]; omega
end
mutual
theorem dle_nd : ∀ (n : Nat) (t : T), t.dle n = true → t.nd = true
  | 0, t, h => by cases t <;> simp [T.dle] at h
  | n + 1, .lst _ xs, h => by simpa [T.nd] using dle_ndL n xs (by simpa [T.dle] using h)
  | n + 1, .tup _ xs, h => by simpa [T.nd] using dle_ndL n xs (by simpa [T.dle] using h)
  | n + 1, .non, _ => rfl
  | n + 1, .bl _, _ => rfl
  | n + 1, .int _, _ => rfl
  | n + 1, .str _, _ => rfl
  | n + 1, .scr _, h => rfl
  | n + 1, .dic _ _ _, h => by simp [T.dle] at h
  | n + 1, .dtu _ _ _, h => by simp [T.dle] at h
theorem dle_ndL : ∀ (n : Nat) (ts : List T), dleL n ts = true → ndL ts = true
  | n, [], _ => rfl
  | n, x :: r, h => by
    simp only [dleL, Bool.and_eq_true] at h
    simp only [ndL, dle_nd n x h.1, dle_ndL n r h.2, Bool.and_true]
end
/-- == of trees without dicts, no deeper than 16 -/
def eqT : T → T → Option T := fun a b => if a.dle 16 && b.dle 16 then some (.bl (PyData.eqv a.py b.py)) else none
def neT : T → T → Option T := fun a b => if a.dle 16 && b.dle 16 then some (.bl (!PyData.eqv a.py b.py)) else none
def rEqP (K : PySem.W.Frag) (g : Bool → Bool) : R2 := fun x y H Q => ∃ d e, Dp K H x d ∧ Dp K H y e ∧ d.plain = true ∧ e.plain = true ∧ min d.depth e.depth ≤ 64 ∧ Q (.bl (g (PyData.eqv d e))) H
theorem op_eqP {X : Cx} (hu : X.A.units + 64 < cLine) : OpR X (compareOp .Eq) (rEqP X.K fun b => b) := by
  intro pins s σ H x y v u Q I rx ry h
  obtain ⟨d, e, hd, he, sd, se, hz, q⟩ := h
  obtain ⟨as, r1⟩ := Dp.reads I d x v hd rx
  obtain ⟨bs, r2⟩ := Dp.reads I e y u he ry
  exact SeqAt.eq_plain r1 r2 sd se (by omega) ⟨.bl _, H, I, rfl, q⟩
theorem op_neP {X : Cx} (hu : X.A.units + 64 < cLine) : OpR X (compareOp .NotEq) (rEqP X.K fun b => !b) := by
  intro pins s σ H x y v u Q I rx ry h
  obtain ⟨d, e, hd, he, sd, se, hz, q⟩ := h
  obtain ⟨as, r1⟩ := Dp.reads I d x v hd rx
  obtain ⟨bs, r2⟩ := Dp.reads I e y u he ry
  exact SeqAt.ne_plain r1 r2 sd se (by omega) ⟨.bl _, H, I, rfl, q⟩
theorem sEq : OSnd2 K (rEqP K fun b => b) eqT := by
  intro F O x y a b fa fb t d ha hb e Q q
  unfold eqT at e
  split at e
  · next h =>
    cases e
    simp only [Bool.and_eq_true] at h
    obtain ⟨p1, d1⟩ := dle_py _ _ h.1
    obtain ⟨p2, d2⟩ := dle_py _ _ h.2
    exact ⟨_, _, ha.dp d (dle_nd _ _ h.1), hb.dp d (dle_nd _ _ h.2), p1, p2, by omega, q.sc d (.bl _)⟩
  · cases e
theorem sNe : OSnd2 K (rEqP K fun b => !b) neT := by
  intro F O x y a b fa fb t d ha hb e Q q
  unfold neT at e
  split at e
  · next h =>
    cases e
    simp only [Bool.and_eq_true] at h
    obtain ⟨p1, d1⟩ := dle_py _ _ h.1
    obtain ⟨p2, d2⟩ := dle_py _ _ h.2
    exact ⟨_, _, ha.dp d (dle_nd _ _ h.1), hb.dp d (dle_nd _ _ h.2), p1, p2, by omega, q.sc d (.bl _)⟩
  · cases e
def isN : T → Bool
  | .non => true
  | _ => false
theorem isN_v {x : V} {a : T} {f : List Addr} (h : Rl K F O x a f) : decide (x = .non) = isN a := by
  cases h <;> first | exact decide_eq_true rfl | exact decide_eq_false (fun z => nomatch z)
/-- x is None, x is not None (the right one written) -/
def isT : T → T → Option T := fun a b => match b with
  | .non => some (.bl (isN a))
  | _ => none
def isNotT : T → T → Option T := fun a b => match b with
  | .non => some (.bl (!isN a))
  | _ => none
theorem sIs : OSnd2 K (fun x y H Q => y = .non ∧ Q (.bl (decide (x = .non))) H) isT := by
  intro F O x y a b fa fb t d ha hb e Q q
  unfold isT at e
  split at e
  · cases e
    cases hb
    refine ⟨rfl, ?_⟩
    rw [isN_v ha]
    exact q.sc d (.bl _)
  · cases e
theorem sIsNot : OSnd2 K (fun x y H Q => y = .non ∧ Q (.bl (!decide (x = .non))) H) isNotT := by
  intro F O x y a b fa fb t d ha hb e Q q
  unfold isNotT at e
  split at e
  · cases e
    cases hb
    refine ⟨rfl, ?_⟩
    rw [isN_v ha]
    exact q.sc d (.bl _)
  · cases e

/-! ### places, slices -/
def okStr (s : Str) : Bool := decide (s.length ≤ sizeLine)
def ixT : T → T → Option T := fun a b => match a, b with
  | .lst _ xs, .int i => match atI xs i with
    | some t => if t.fz then some t else none
    | none => none
  | .tup _ xs, .int i => match atI xs i with
    | some t => if t.fz then some t else none
    | none => none
  | .scr ns, .int i => match atI ns i with
    | some n => some (.int n)
    | none => none
  | .str s, .int i => if okStr s then match atI s.cps.toList i with
    | some c => some (.str ⟨#[c]⟩)
    | none => none
    else none
  | _, _ => none
theorem Rls.atI {vs : List V} {ts : List T} {f : List Addr} {i : Int} {t : T} (r : Rls K F O vs ts f) (e : L2.atI ts i = some t) : ∃ v g, L2.atI vs i = some v ∧ Rl K F O v t g := by
  unfold L2.atI at e ⊢
  rw [r.len]
  cases q : ixN ts.length i with
  | none => rw [q] at e; cases e
  | some j =>
    rw [q] at e
    obtain ⟨v, g, h1, h2, _⟩ := r.at (show ts[j]? = some t from e)
    exact ⟨v, g, h1, h2⟩
theorem atI_map {α β : Type} (g : α → β) (xs : List α) (i : Int) : L2.atI (xs.map g) i = (L2.atI xs i).map g := by
  unfold L2.atI
  rw [List.length_map]
  cases ixN xs.length i with
  | none => rfl
  | some j => show (xs.map g)[j]? = (xs[j]?).map g; rw [List.getElem?_map]
theorem sIx : OSnd2 K (rIx K) ixT := by
  intro F O x y a b fa fb t d ha hb e Q q
  unfold ixT at e
  split at e
  · split at e
    · next u hu =>
      split at e
      · next z =>
        cases e
        cases hb
        obtain ⟨p, vs, fs, rfl, h1, r1⟩ := ha.lstv d
        obtain ⟨v, g, h2, h3⟩ := r1.atI hu
        exact .inl ⟨_, _, _, _, rfl, rfl, .inl (.inl h1), h2, q.sc d (h3.own0 z)⟩
      · cases e
    · cases e
  · split at e
    · next u hu =>
      split at e
      · next z =>
        cases e
        cases hb
        obtain ⟨p, vs, fs, rfl, h1, r1⟩ := ha.tupv d
        obtain ⟨v, g, h2, h3⟩ := r1.atI hu
        exact .inr (.inl ⟨_, _, _, _, rfl, rfl, h1, h2, q.sc d (h3.own0 z)⟩)
      · cases e
    · cases e
  · split at e
    · next n hn =>
      cases e
      cases hb
      obtain ⟨p, rfl, h1⟩ := ha.scrv d
      exact .inl ⟨_, _, _, _, rfl, rfl, h1, by rw [atI_map, hn]; rfl, q.sc d (.int _)⟩
    · cases e
  · split at e
    · next ho =>
      split at e
      · next c hc =>
        cases e
        cases ha
        cases hb
        exact .inr (.inr ⟨_, _, _, rfl, rfl, of_decide_eq_true ho, hc, q.sc d (.str _)⟩)
      · cases e
    · cases e
  · cases e
end
end LP
set_option maxRecDepth 100000
/-! LP: statements, loops. -/
namespace LP
open PySem L2

inductive Out where
  | nx (e : Env) | rt (t : T) (e : Env) | bk (e : Env) | ct (e : Env)
abbrev S := Env → Option Out
abbrev Tg := T → Env → Option Env
abbrev It := Env → Option (List T × Env)
section
variable {K : PySem.W.Frag} {F O F' O' F1 O1 F2 O2 : Hp} {σ : L2.St} {env env' : Env} {f f1 f2 fp fp1 fp2 : List Addr} {pn : List Nat}

structure Same2 (pn : List Nat) (σ σ' : L2.St) : Prop where
  l : σ'.length = σ.length
  s : ∀ i ∈ pn, σ'[i]? = σ[i]?
theorem Same2.refl : Same2 pn σ σ := ⟨rfl, fun _ _ => rfl⟩
theorem Same2.trans {σ1 σ2 : L2.St} (a : Same2 pn σ σ1) (b : Same2 pn σ1 σ2) : Same2 pn σ σ2 := ⟨b.l.trans a.l, fun i h => (b.s i h).trans (a.s i h)⟩
def EndOk (K : PySem.W.Frag) (pn : List Nat) (σ : L2.St) (F O : Hp) (f : List Addr) (D : Ends) : Out → Prop
  | .nx e => ∀ σ' F' O' f', At K σ' F' O' e [] f' → Stp F O f F' O' f' → Same2 pn σ σ' → D.nx σ' (jn F' O')
  | .bk e => ∀ σ' F' O' f', At K σ' F' O' e [] f' → Stp F O f F' O' f' → Same2 pn σ σ' → D.bk σ' (jn F' O')
  | .ct e => ∀ σ' F' O' f', At K σ' F' O' e [] f' → Stp F O f F' O' f' → Same2 pn σ σ' → D.ct σ' (jn F' O')
  | .rt t e => ∀ v σ' F' O' fp f', At K σ' F' O' e fp f' → Stp F O f F' O' (fp ++ f') → Rl K F' O' v t fp → Same2 pn σ σ' → D.rt v (jn F' O')
theorem EndOk.after {σ1 : L2.St} {o : Out} {D : Ends} (h : EndOk K pn σ F O f D o) (s : Stp F O f F1 O1 f1) (p : Same2 pn σ σ1) : EndOk K pn σ1 F1 O1 f1 D o := by
  cases o with
  | nx e => exact fun σ' F' O' f' a st q => h σ' F' O' f' a (s.trans st) (p.trans q)
  | bk e => exact fun σ' F' O' f' a st q => h σ' F' O' f' a (s.trans st) (p.trans q)
  | ct e => exact fun σ' F' O' f' a st q => h σ' F' O' f' a (s.trans st) (p.trans q)
  | rt t e => exact fun v σ' F' O' fp f' a st r q => h v σ' F' O' fp f' a (s.trans st) r (p.trans q)
def SSnd (K : PySem.W.Frag) (pn : List Nat) (ts : TS) (s : S) : Prop := ∀ env out, s env = some out → ∀ σ F O f, At K σ F O env [] f → ∀ D, EndOk K pn σ F O f D out → ts D σ (jn F O)
structure SS (K : PySem.W.Frag) (X : Cx) (pn : List Nat) (st : Stmt) (ts : TS) (b : S) : Prop where
  p : PS X st ts
  s : SSnd K pn ts b
  k : X.K = K := by rfl
structure SSs (K : PySem.W.Frag) (X : Cx) (pn : List Nat) (st : List Stmt) (ts : TS) (b : S) : Prop where
  p : PSs X st ts
  s : SSnd K pn ts b
  k : X.K = K := by rfl

def cSkip : S := fun env => some (.nx env)
def cSeq (a b : S) : S := fun env => match a env with
  | some (.nx e) => b e
  | some o => some o
  | none => none
theorem sSkip : SSnd K pn tNext cSkip := by
  intro env out h σ F O f a0 D q
  cases h
  exact q σ F O f a0 Stp.refl Same2.refl
theorem sSeq {ta tb : TS} {a b : S} (ha : SSnd K pn ta a) (hb : SSnd K pn tb b) : SSnd K pn (tSeq ta tb) (cSeq a b) := by
  intro env out h σ F O f a0 D q
  simp only [cSeq] at h
  split at h
  · next e h1 => exact ha _ _ h1 σ F O f a0 _ fun σ1 F1 O1 f1 a1 s1 p1 => hb _ _ h σ1 F1 O1 f1 a1 _ (q.after s1 p1)
  · next o h1 h2 =>
    cases h
    refine ha _ _ h2 σ F O f a0 _ ?_
    cases out with
    | nx e => exact (h1 e rfl).elim
    | rt t e => exact q
    | bk e => exact q
    | ct e => exact q
  · cases h
def cBrk : S := fun env => some (.bk env)
def cCnt : S := fun env => some (.ct env)
theorem sBrk : SSnd K pn tBreak cBrk := by
  intro env out h σ F O f a0 D q
  cases h
  exact q σ F O f a0 Stp.refl Same2.refl
theorem sCnt : SSnd K pn tCont cCnt := by
  intro env out h σ F O f a0 D q
  cases h
  exact q σ F O f a0 Stp.refl Same2.refl
def cIfS (c : Et) (a b : S) : S := fun env => match c env with
  | some (true, e) => a e
  | some (false, e) => b e
  | none => none
theorem sIf {tc : TT} {ta tb : TS} {c : Et} {a b : S} (hc : TSnd K tc c) (ha : SSnd K pn ta a) (hb : SSnd K pn tb b) : SSnd K pn (tIfS tc ta tb) (cIfS c a b) := by
  intro env out h σ F O f a0 D q
  simp only [cIfS] at h
  split at h
  · next e h1 =>
    refine hc _ _ _ h1 σ F O f a0 _ fun F1 O1 f1 a1 s1 => ?_
    rw [if_pos rfl]
    exact ha _ _ h σ F1 O1 f1 a1 D (q.after s1 Same2.refl)
  · next e h1 =>
    refine hc _ _ _ h1 σ F O f a0 _ fun F1 O1 f1 a1 s1 => ?_
    rw [if_neg Bool.false_ne_true]
    exact hb _ _ h σ F1 O1 f1 a1 D (q.after s1 Same2.refl)
  · cases h
/-- an expression alone -/
def cDrop (a : Ev) : S := fun env => match a env with
  | some (_, e) => some (.nx e)
  | none => none
theorem sDrop {ta : TE} {a : Ev} (ha : ESnd K ta a) : SSnd K pn (tDrop ta) (cDrop a) := by
  intro env out h σ F O f a0 D q
  simp only [cDrop] at h
  split at h
  · next o e h1 =>
    cases h
    exact ha _ _ _ h1 σ F O f a0 _ fun v F1 O1 fp1 f1 a1 s1 r1 => q σ F1 O1 f1 a1.only s1.snd Same2.refl
  · cases h
def cRet (a : Ev) : S := fun env => match a env with
  | some (o, e) => match sto e o with
    | some t => some (.rt t e)
    | none => none
  | none => none
theorem sRet {ta : TE} {a : Ev} (ha : ESnd K ta a) : SSnd K pn (tRet ta) (cRet a) := by
  intro env out h σ F O f a0 D q
  simp only [cRet] at h
  split at h
  · next o e h1 =>
    split at h
    · next t h2 =>
      cases h
      exact ha _ _ _ h1 σ F O f a0 _ fun v F1 O1 fp1 f1 a1 s1 r1 => q v σ F1 O1 fp1 f1 a1 s1 (r1.store a1.e h2) Same2.refl
    · cases h
  · cases h
def cRetN : S := fun env => some (.rt .non env)
theorem sRetN : SSnd K pn tRetN cRetN := by
  intro env out h σ F O f a0 D q
  cases h
  exact q .non σ F O [] f a0 Stp.refl .non Same2.refl

/-! ### targets -/
def GSnd (K : PySem.W.Frag) (pn : List Nat) (g : TG) (tg : Tg) : Prop := ∀ x env env', tg x env = some env' → ∀ v σ F O fp f, At K σ F O env fp f → Rl K F O v x fp → ∀ Q : L2.St → Hp → Prop,
  (∀ σ' F' O' f', At K σ' F' O' env' [] f' → Stp F O (fp ++ f) F' O' f' → Same2 pn σ σ' → Q σ' (jn F' O')) → g v σ (jn F O) Q
structure SG (K : PySem.W.Frag) (X : Cx) (pn : List Nat) (e : Expr) (g : TG) (tg : Tg) : Prop where
  p : PG X e g
  s : GSnd K pn g tg
  k : X.K = K := by rfl
def gN (i : Nat) : Tg := fun x env => some (env.set i (some x))
theorem tgN {i : Nat} (hi : i ∉ pn) : GSnd K pn (gName i) (gN i) := by
  intro x env env' h v σ F O fp f a0 r Q q
  cases h
  obtain ⟨f', h1, h2⟩ := a0.e.set (i := i) r
  refine q _ F O f' ⟨a0.d, h1, a0.nd.sub fun a => by simp only [List.count_append, List.count_nil]; have := h2 a; omega⟩ (Stp.refl.less fun a z => ?_) ⟨List.length_set, fun j hj => ?_⟩
  · rw [mem_count] at z ⊢
    rw [List.count_append]
    have := h2 a
    omega
  · rw [List.getElem?_set]
    rw [if_neg fun e => hi (by rw [e]; exact hj)]
abbrev Tgs := List T → Env → Option Env
def GsSnd (K : PySem.W.Frag) (pn : List Nat) (g : TGs) (tg : Tgs) : Prop := ∀ xs env env', tg xs env = some env' → ∀ vs σ F O fp f, At K σ F O env fp f → Rls K F O vs xs fp → ∀ Q : L2.St → Hp → Prop,
  (∀ σ' F' O' f', At K σ' F' O' env' [] f' → Stp F O (fp ++ f) F' O' f' → Same2 pn σ σ' → Q σ' (jn F' O')) → g vs σ (jn F O) Q
structure SGs (K : PySem.W.Frag) (X : Cx) (pn : List Nat) (e : List Expr) (g : TGs) (tg : Tgs) : Prop where
  p : PGs X e g
  s : GsSnd K pn g tg
  k : X.K = K := by rfl
def gN0 : Tgs := fun xs env => match xs with
  | [] => some env
  | _ => none
def gNc (a : Tg) (r : Tgs) : Tgs := fun xs env => match xs with
  | x :: ys => match a x env with
    | some e => r ys e
    | none => none
  | _ => none
theorem tgs0 : GsSnd K pn gNil gN0 := by
  intro xs env env' h vs σ F O fp f a0 r Q q
  simp only [gN0] at h
  split at h
  · cases h
    cases r
    exact ⟨rfl, q σ F O f a0 Stp.refl Same2.refl⟩
  · cases h
theorem tgsC {g : TG} {gs : TGs} {a : Tg} {b : Tgs} (h1 : GSnd K pn g a) (h2 : GsSnd K pn gs b) : GsSnd K pn (gCons g gs) (gNc a b) := by
  intro xs env env' h vs σ F O fp f a0 r Q q
  simp only [gNc] at h
  split at h
  · next x ys =>
    split at h
    · next e he =>
      cases r with
      | cons r rs =>
        next v p vs ps =>
        refine ⟨v, vs, rfl, ?_⟩
        have n0 := a0.nd
        rw [List.append_assoc] at n0
        refine h1 _ _ _ he v σ F O p f ⟨a0.d, a0.e, n0.sub fun a => by simp only [List.count_append]; omega⟩ r _ fun σ1 F1 O1 f1 a1 s1 p1 => ?_
        have ap : ∀ a ∈ ps, a ∉ p ++ f := fun a z w => by
          have := n0 a
          simp only [List.count_append] at this
          rw [mem_count] at z w
          rw [List.count_append] at w
          omega
        have rs' : Rls K F1 O1 vs ys ps := s1.keeps rs ap
        have nd1 : Nd (ps ++ f1) := s1.nd rs.alloc (n0.sub fun a => by simp only [List.count_append]; omega) a1.nd
        refine h2 _ _ _ h vs σ1 F1 O1 ps f1 ⟨a1.d, a1.e, nd1⟩ rs' Q fun σ2 F2 O2 f2 a2 s2 p2 => q σ2 F2 O2 f2 a2 ?_ (p1.trans p2)
        have s3 := (s1.frame (hs := ps)).trans s2
        refine ⟨s3.f, fun a o z e => s3.k a o (fun w => z ?_) e, fun a z => (s3.n a z).elim (fun w => .inl ?_) .inr, s3.g⟩
        · rw [mem_count] at w ⊢
          simp only [List.count_append] at w ⊢
          omega
        · rw [mem_count] at w ⊢
          simp only [List.count_append] at w ⊢
          omega
    · cases h
  · cases h
/-- a, b, .. = a tuple | a list of that length -/
def gUn (n : Nat) (r : Tgs) : Tg := fun x env => match x with
  | .tup _ xs => if xs.length = n then r xs env else none
  | .lst _ xs => if xs.length = n then r xs env else none
  | _ => none
def gSeq (K : PySem.W.Frag) (n : Nat) (t : TGs) : TG := fun v σ H Q => gTup K n t v σ H Q ∨ gLst K n t v σ H Q
theorem pg_seq {X : Cx} {es : List Expr} {k : Nat} {t : TGs} {n : Nat} {pos : Pos} (hc : X.calm = true) (h : PGs X es t)
    (hn : (assignEach es X.env).length = n := by rfl) (hst : (assignEach es X.env).findIdx? (·.1) = none := by rfl) : PG X (.Tuple es k pos) (gSeq X.K n t) := by
  refine ⟨fun pins s σ H v u Q I r hw => ?_⟩
  rcases hw with hw | hw
  · exact (pg_tup hc h hn hst).run pins s σ H v u Q I r hw
  · exact (pg_lst hc h hn hst).run pins s σ H v u Q I r hw
theorem Nd.tail {p : Addr} {l m : List Addr} (h : Nd ((p :: l) ++ m)) : Nd (l ++ m) := h.sub fun a => by
  simp only [List.count_append, List.count_cons]
  omega
theorem tgUn {gs : TGs} {b : Tgs} {n : Nat} (h2 : GsSnd K pn gs b) : GSnd K pn (gSeq K n gs) (gUn n b) := by
  intro x env env' h v σ F O fp f a0 r Q q
  unfold gUn at h
  have more : ∀ {p : Addr} {l : List Addr} {F' O' : Hp} {f' : List Addr}, Stp F O (l ++ f) F' O' f' → Stp F O ((p :: l) ++ f) F' O' f' := fun s =>
    ⟨s.f, fun a o z e => s.k a o (fun w => z (List.mem_cons_of_mem _ w)) e, fun a z => (s.n a z).elim (fun w => .inl (List.mem_cons_of_mem _ w)) .inr, s.g⟩
  split at h
  · split at h
    · next hl =>
      cases r with
      | tupF e r =>
        refine .inl ⟨_, _, rfl, Same.seqT a0.d.same e, by rw [r.len]; exact hl, ?_⟩
        exact h2 _ _ _ h _ σ F O [] f a0 r Q q
      | tupO e r =>
        refine .inl ⟨_, _, rfl, .inl (.inl (jn_O e)), by rw [r.len]; exact hl, ?_⟩
        exact h2 _ _ _ h _ σ F O _ f ⟨a0.d, a0.e, a0.nd.tail⟩ r Q fun σ1 F1 O1 f1 a1 s1 p1 => q σ1 F1 O1 f1 a1 (more s1) p1
    · cases h
  · split at h
    · next hl =>
      cases r with
      | lstF e r =>
        refine .inr ⟨_, _, rfl, .inl (.inl (a0.d.jn_F e)), by rw [r.len]; exact hl, ?_⟩
        exact h2 _ _ _ h _ σ F O [] f a0 r Q q
      | lstO e r =>
        refine .inr ⟨_, _, rfl, .inl (.inl (jn_O e)), by rw [r.len]; exact hl, ?_⟩
        exact h2 _ _ _ h _ σ F O _ f ⟨a0.d, a0.e, a0.nd.tail⟩ r Q fun σ1 F1 O1 f1 a1 s1 p1 => q σ1 F1 O1 f1 a1 (more s1) p1
    · cases h
  · cases h
/-- target = value -/
def cAsg (a : Ev) (g : Tg) : S := fun env => match a env with
  | some (o, e) => match sto e o with
    | some t => match g t e with
      | some e2 => some (.nx e2)
      | none => none
    | none => none
  | none => none
theorem sAsg {ta : TE} {a : Ev} {g : TG} {tg : Tg} (ha : ESnd K ta a) (hg : GSnd K pn g tg) : SSnd K pn (tAsg ta g) (cAsg a tg) := by
  intro env out h σ F O f a0 D q
  simp only [cAsg] at h
  split at h
  · next o e h1 =>
    split at h
    · next t h2 =>
      split at h
      · next e2 h3 =>
        cases h
        refine ha _ _ _ h1 σ F O f a0 _ fun v F1 O1 fp1 f1 a1 s1 r1 => ?_
        exact hg _ _ _ h3 v σ F1 O1 fp1 f1 a1 (r1.store a1.e h2) _ fun σ2 F2 O2 f2 a2 s2 p2 => q σ2 F2 O2 f2 a2 (s1.trans s2) p2
      · cases h
    · cases h
  · cases h
/-- x op= e -/
def cAug (i : Nat) (g : T → T → Option T) (a : Ev) : S := fun env => match env[i]? with
  | some (some _) => match a env with
    | some (o, e) => match e[i]? with
      | some (some x) => match vw e o with
        | some y => match g x y with
          | some t => some (.nx (e.set i (some t)))
          | none => none
        | none => none
      | _ => none
    | none => none
  | _ => none
theorem sAug {i : Nat} {ta : TE} {a : Ev} {r : R2} {g : T → T → Option T} (hi : i ∉ pn) (ha : ESnd K ta a) (hr : OSnd2 K r g) : SSnd K pn (tAug i ta r) (cAug i g a) := by
  intro env out h σ F O f a0 D q
  simp only [cAug] at h
  split at h
  · next t0 h0 =>
    split at h
    · next o e h1 =>
      split at h
      · next x hx =>
        split at h
        · next y hy =>
          split at h
          · next t ht =>
            cases h
            obtain ⟨v0, _, g1, _, _⟩ := a0.e.get h0
            refine ⟨v0, g1, ?_⟩
            refine ha _ _ _ h1 σ F O f a0 _ fun v F1 O1 fp1 f1 a1 s1 r1 => ?_
            obtain ⟨v1, w1, g2, r2, _⟩ := a1.e.get hx
            rw [g1] at g2
            cases g2
            obtain ⟨w3, r3, _⟩ := r1.view a1.e hy
            refine hr F1 O1 _ _ _ _ _ _ _ a1.d r2 r3 ht _ (fin a1 s1.snd fun v F2 O2 fp2 f2 a2 s2 r2 => ?_)
            exact tgN hi t e _ rfl v σ F2 O2 fp2 f2 a2 r2 _ fun σ3 F3 O3 f3 a3 s3 p3 => q σ3 F3 O3 f3 a3 (s2.trans s3) p3
          · cases h
        · cases h
      · cases h
    · cases h
  · cases h

/-! ### what is walked -/
/-- J yields these trees, one after the other, whatever is free besides -/
def Yields (K : PySem.W.Frag) (J : L2.It) (F : Hp) (items : List T) : Prop := ∀ F' O', Same F F' → Dis F' O' → ∀ i : Nat,
  (∀ t, items[i]? = some t → J.go i (jn F' O') ∧ ∀ x H', J.yld i (jn F' O') x H' → ∃ F2 O2, H' = jn F2 O2 ∧ Dis F2 O2 ∧ Stp F' O' [] F2 O2 [] ∧ Rl K F2 O2 x t []) ∧ (items.length ≤ i → J.stop i (jn F' O'))
def WSnd (K : PySem.W.Frag) (wi : TI) (it : It) : Prop := ∀ env items env', it env = some (items, env') → ∀ σ F O f, At K σ F O env [] f → ∀ R : L2.It → Hp → Prop,
  (∀ J F' O' f', At K σ F' O' env' [] f' → Stp F O f F' O' f' → Yields K J F' items → R J (jn F' O')) → wi σ (jn F O) R
structure SI (K : PySem.W.Frag) (X : Cx) (tg e : Expr) (wi : TI) (it : It) : Prop where
  p : PI X tg e wi
  s : WSnd K wi it
  k : X.K = K := by rfl
theorem Rls.nth {vs : List V} {ts : List T} {i : Nat} {t : T} (r : Rls K F O vs ts []) (e : ts[i]? = some t) : ∃ v, vs[i]? = some v ∧ Rl K F O v t [] := by
  obtain ⟨v, g, h1, h2, h3⟩ := r.at e
  refine ⟨v, h1, ?_⟩
  have : g = [] := by
    cases g with
    | nil => rfl
    | cons a l =>
      have := h3 a
      rw [List.count_cons, beq_self_eq_true, if_pos rfl, List.count_nil] at this
      omega
  rw [this] at h2
  exact h2
/-- a list, a tuple (free) -/
def iLs (a : Ev) : It := fun env => match a env with
  | some (o, e) => match vw e o with
    | some (.lst false xs) => some (xs, e)
    | some (.lst true xs) => match o with
      | .t _ => if fzL xs then some (xs, e) else none
      | .s _ => none
    | _ => none
  | none => none
theorem yieldsL {F : Hp} {a : Addr} {vs : List V} {items : List T} (h : F a = some (.lst vs)) (r : Rls K F O vs items []) : Yields K (Itl K a) F items := by
  intro F' O' s d i
  have hq : SqL K (jn F' O') a vs := .inl (.inl (d.jn_F (s _ _ h)))
  refine ⟨fun t e => ?_, fun hl => ⟨vs, hq, by rw [r.len]; exact hl⟩⟩
  obtain ⟨v, h1, h2⟩ := r.nth e
  refine ⟨⟨vs, v, hq, h1⟩, fun x H' y => ?_⟩
  obtain ⟨rfl, y⟩ := y
  have e2 : vs[i]? = some x := y vs hq
  rw [h1] at e2
  cases e2
  exact ⟨F', O', rfl, d, Stp.refl, h2.mono s fun a z => by cases z⟩
theorem wList {ta : TE} {a : Ev} (ha : ESnd K ta a) : WSnd K (iList K ta) (iLs a) := by
  intro env items env' h σ F O f a0 R q
  simp only [iLs] at h
  split at h
  · next o e h1 =>
    split at h
    · next xs hx =>
      cases h
      refine ha _ _ _ h1 σ F O f a0 _ fun v F1 O1 fp1 f1 a1 s1 r1 => ?_
      obtain ⟨g1, w1, _⟩ := r1.view a1.e hx
      cases w1 with
      | lstF hf r => exact ⟨_, rfl, ⟨_, .inl (.inl (a1.d.jn_F hf))⟩, q _ F1 O1 f1 a1.only s1.snd (yieldsL hf r)⟩
    · next xs hx =>
      split at h
      · next o y =>
        split at h
        · next z =>
          cases h
          refine ha _ _ _ h1 σ F O f a0 _ fun v F1 O1 fp1 f1 a1 s1 r1 => ?_
          have r1 : Rl K F1 O1 v y fp1 := r1
          have hx : y = .lst true items := Option.some.inj hx
          subst hx
          have al := r1.alloc
          cases r1 with
          | lstO hf r =>
            next a vs fs =>
            have r0 := r.own0 z
            have j := jn_toF (F := F1) al
            rw [← j]
            have hF : toF F1 O1 (a :: fs) a = some (.lst vs) := by unfold toF; rw [if_pos (List.mem_cons_self ..)]; exact hf
            have sm := a1.d.same_toF al
            have kk : ∀ b ∈ f1, ∀ u, O1 b = some u → offO O1 (a :: fs) b = some u := fun b z u e => by
              unfold offO
              rw [if_neg fun w => a1.nd.apart w z]
              exact e
            refine ⟨_, rfl, ⟨_, .inl (.inl ((a1.d.toF (fs := a :: fs)).jn_F hF))⟩, q _ _ _ f1 ⟨a1.d.toF, a1.e.mono sm kk, a1.nd.right⟩ ⟨s1.f.trans sm, fun b u n e => ?_, fun b z => s1.n b (List.mem_append_right _ z), fun b n => ?_⟩ (yieldsL (O := O1) hF (r0.mono sm fun b z => by cases z))⟩
            · have e1 := s1.k b u n e
              unfold offO
              rw [if_neg fun w => ?_]
              · exact e1
              · rcases s1.n b (List.mem_append_left _ w) with q | q
                · exact n q
                · rw [jn_O e] at q; cases q
            · rw [j]; exact s1.g b n
        · cases h
      · cases h
    · cases h
  · cases h
def iTp (a : Ev) : It := fun env => match a env with
  | some (o, e) => match vw e o with
    | some (.tup false xs) => some (xs, e)
    | _ => none
  | none => none
theorem wTup {ta : TE} {a : Ev} (ha : ESnd K ta a) : WSnd K (iTup K ta) (iTp a) := by
  intro env items env' h σ F O f a0 R q
  simp only [iTp] at h
  split at h
  · next o e h1 =>
    split at h
    · next xs hx =>
      cases h
      refine ha _ _ _ h1 σ F O f a0 _ fun v F1 O1 fp1 f1 a1 s1 r1 => ?_
      obtain ⟨g1, w1, w0⟩ := r1.view a1.e hx
      clear w0
      cases w1 with
      | tupF hf r =>
        next a vs =>
        refine ⟨_, rfl, ⟨_, Same.seqT a1.d.same hf⟩, q _ F1 O1 f1 a1.only s1.snd ?_⟩
        intro F' O' s d i
        have hq : SqT K (jn F' O') a vs := Same.seqT d.same (Same.seqT s hf)
        refine ⟨fun t e => ?_, fun hl => ⟨vs, hq, by rw [r.len]; exact hl⟩⟩
        obtain ⟨v, h1, h2⟩ := r.nth e
        refine ⟨⟨vs, v, hq, h1⟩, fun x H' y => ?_⟩
        obtain ⟨rfl, y⟩ := y
        have e2 : vs[i]? = some x := y vs hq
        rw [h1] at e2
        cases e2
        exact ⟨F', O', rfl, d, Stp.refl, h2.mono s fun a z => by cases z⟩
    · cases h
  · cases h
/-- the ints from lo, n of them -/
def rngI (lo : Int) (n : Nat) : List T := (List.range n).map fun k : Nat => T.int (lo + (k : Int))
theorem rngI_len (lo : Int) (n : Nat) : (rngI lo n).length = n := by unfold rngI; rw [List.length_map, List.length_range]
theorem rngI_at {lo : Int} {n i : Nat} {t : T} (e : (rngI lo n)[i]? = some t) : i < n ∧ t = .int (lo + (i : Int)) := by
  unfold rngI at e
  rw [List.getElem?_map] at e
  cases q : (List.range n)[i]? with
  | none => rw [q] at e; cases e
  | some k =>
    rw [q] at e
    obtain ⟨h1, h2⟩ := List.getElem?_eq_some_iff.mp q
    rw [List.length_range] at h1
    rw [List.getElem_range] at h2
    subst h2
    exact ⟨h1, (Option.some.inj e).symm⟩
theorem yieldsR {F : Hp} {lo : Int} {n : Nat} : Yields K (Itr lo n) F (rngI lo n) := by
  intro F' O' s d i
  refine ⟨fun t e => ?_, fun hl => by rw [rngI_len] at hl; exact hl⟩
  obtain ⟨h1, rfl⟩ := rngI_at e
  refine ⟨h1, fun x H' y => ?_⟩
  obtain ⟨rfl, rfl⟩ := y
  exact ⟨F', O', rfl, d, Stp.refl, .int _⟩
theorem inR_ex : ∃ f : Int → Bool, ∀ i, f i = (decide (-(2 ^ 62) ≤ i) && decide (i < 2 ^ 62)) := ⟨_, fun _ => rfl⟩
noncomputable def inR : Int → Bool := Classical.choose inR_ex
theorem inR_eq (i : Int) : inR i = (decide (-(2 ^ 62) ≤ i) && decide (i < 2 ^ 62)) := Classical.choose_spec inR_ex i
noncomputable def iR1 (a : Ea) : It := fun env => match a env with
  | some (os, e) => match vws e os with
    | some [.int j] => if inR j then some (rngI 0 j.toNat, e) else none
    | _ => none
  | none => none
noncomputable def iR2 (a : Ea) : It := fun env => match a env with
  | some (os, e) => match vws e os with
    | some [.int i, .int j] => if inR i && inR j then some (rngI i (j - i).toNat, e) else none
    | _ => none
  | none => none
theorem wR1 {ta : TA} {a : Ea} (ha : ASnd K ta a) : WSnd K (iRng1 ta) (iR1 a) := by
  intro env items env' h σ F O f a0 R q
  simp only [iR1] at h
  split at h
  · next o e h1 =>
    split at h
    · next j hx =>
      split at h
      · next z =>
        cases h
        refine ha _ _ _ h1 σ F O f a0 _ fun v F1 O1 fp1 f1 a1 s1 r1 => ?_
        obtain ⟨g1, w1⟩ := r1.views a1.e hx
        simp only [inR_eq, Bool.and_eq_true, decide_eq_true_eq] at z
        cases w1 with
        | cons w w' =>
          cases w
          cases w'
          exact ⟨_, rfl, z.1, z.2, q _ F1 O1 f1 a1.only s1.snd yieldsR⟩
      · cases h
    · cases h
  · cases h
theorem wR2 {ta : TA} {a : Ea} (ha : ASnd K ta a) : WSnd K (iRng2 ta) (iR2 a) := by
  intro env items env' h σ F O f a0 R q
  simp only [iR2] at h
  split at h
  · next o e h1 =>
    split at h
    · next i j hx =>
      split at h
      · next z =>
        cases h
        refine ha _ _ _ h1 σ F O f a0 _ fun v F1 O1 fp1 f1 a1 s1 r1 => ?_
        obtain ⟨g1, w1⟩ := r1.views a1.e hx
        simp only [inR_eq, Bool.and_eq_true, decide_eq_true_eq] at z
        cases w1 with
        | cons w w' =>
          cases w
          cases w' with
          | cons w w' =>
            cases w
            cases w'
            exact ⟨_, _, rfl, ⟨z.1.1, z.1.2, z.2.1, z.2.2⟩, q _ F1 O1 f1 a1.only s1.snd yieldsR⟩
      · cases h
    · cases h
  · cases h

/-! ### for, while -/
def loop (g : Tg) (b : S) : List T → Env → Option Out
  | [], env => some (.nx env)
  | x :: r, env => match g x env with
    | some e1 => match b e1 with
      | some (.nx e2) => loop g b r e2
      | some (.ct e2) => loop g b r e2
      | some (.bk e2) => some (.nx e2)
      | some (.rt t e2) => some (.rt t e2)
      | none => none
    | none => none
def cFor (it : It) (g : Tg) (b : S) : S := fun env => match it env with
  | some (items, e) => loop g b items e
  | none => none
theorem sFor {wi : TI} {it : It} {tg : TG} {g : Tg} {tb : TS} {b : S} (hi : WSnd K wi it) (hg : GSnd K pn tg g) (hb : SSnd K pn tb b) : SSnd K pn (tFor wi tg tb) (cFor it g b) := by
  intro env out h σ F O f a0 D q
  simp only [cFor] at h
  split at h
  · next items e h1 =>
    refine hi _ _ _ h1 σ F O f a0 _ fun J F1 O1 f1 a1 s1 y => ?_
    have q1 := q.after s1 Same2.refl
    refine ⟨fun i m σ' H => ∃ env' F' O' f', H = jn F' O' ∧ m = items.length - i ∧ At K σ' F' O' env' [] f' ∧ Stp F1 O1 f1 F' O' f' ∧ Same2 pn σ σ' ∧ loop g b (items.drop i) env' = some out, ⟨items.length, e, F1, O1, f1, rfl, rfl, a1, Stp.refl, Same2.refl, h⟩, ?_⟩
    rintro i m σ2 H ⟨env2, F2, O2, f2, rfl, rfl, a2, s2, p2, h2⟩
    obtain ⟨y1, y2⟩ := y F2 O2 s2.f a2.d i
    by_cases hl : items.length ≤ i
    · rw [List.drop_eq_nil_of_le hl] at h2
      simp only [loop] at h2
      cases h2
      exact .inl ⟨y2 hl, q1 σ2 F2 O2 f2 a2 s2 p2⟩
    · have hlt : i < items.length := Nat.lt_of_not_le hl
      rw [List.drop_eq_getElem_cons hlt] at h2
      obtain ⟨go, yl⟩ := y1 _ (List.getElem?_eq_getElem hlt)
      refine .inr ⟨go, fun σ' H' => ∃ env' F' O' f', H' = jn F' O' ∧ At K σ' F' O' env' [] f' ∧ Stp F1 O1 f1 F' O' f' ∧ Same2 pn σ σ' ∧ loop g b (items.drop (i + 1)) env' = some out, ?_, fun x H' yx => ?_⟩
      · rintro σ' H' ⟨env', F', O', f', rfl, b1, b2, b3, b4⟩
        exact ⟨items.length - (i + 1), by omega, env', F', O', f', rfl, rfl, b1, b2, b3, b4⟩
      · obtain ⟨F3, O3, rfl, d3, s3, r3⟩ := yl x H' yx
        simp only [loop] at h2
        split at h2
        · next e3 h3 =>
          have a3 : At K σ2 F3 O3 env2 [] f2 := ⟨d3, a2.e.mono s3.f fun a z o e => s3.none_k a o e, a2.nd⟩
          have s23 : Stp F2 O2 f2 F3 O3 f2 := by
            have := s3.frame (hs := f2)
            rw [List.append_nil] at this
            exact this
          refine hg _ _ _ h3 x σ2 F3 O3 [] f2 a3 r3 _ fun σ4 F4 O4 f4 a4 s4 p4 => ?_
          have s14 : Stp F1 O1 f1 F4 O4 f4 := (s2.trans s23).trans s4
          have p14 : Same2 pn σ σ4 := p2.trans p4
          split at h2
          · next e4 h4 => exact hb _ _ h4 σ4 F4 O4 f4 a4 _ fun σ5 F5 O5 f5 a5 s5 p5 => ⟨e4, F5, O5, f5, rfl, a5, s14.trans s5, p14.trans p5, h2⟩
          · next e4 h4 => exact hb _ _ h4 σ4 F4 O4 f4 a4 _ fun σ5 F5 O5 f5 a5 s5 p5 => ⟨e4, F5, O5, f5, rfl, a5, s14.trans s5, p14.trans p5, h2⟩
          · next e4 h4 =>
            cases h2
            exact hb _ _ h4 σ4 F4 O4 f4 a4 _ fun σ5 F5 O5 f5 a5 s5 p5 => q1 σ5 F5 O5 f5 a5 (s14.trans s5) (p14.trans p5)
          · next t e4 h4 =>
            cases h2
            exact hb _ _ h4 σ4 F4 O4 f4 a4 _ fun v σ5 F5 O5 fp5 f5 a5 s5 r5 p5 => q1 v σ5 F5 O5 fp5 f5 a5 (s14.trans s5) r5 (p14.trans p5)
          · cases h2
        · cases h2
  · cases h
def whl (c : Et) (b : S) : Nat → Env → Option Out
  | 0, _ => none
  | n + 1, env => match c env with
    | some (false, e) => some (.nx e)
    | some (true, e) => match b e with
      | some (.nx e2) => whl c b n e2
      | some (.ct e2) => whl c b n e2
      | some (.bk e2) => some (.nx e2)
      | some (.rt t e2) => some (.rt t e2)
      | none => none
    | none => none
/-- n: more turns than there are -/
def cWhl (c : Et) (b : S) (n : Env → Nat) : S := fun env => whl c b (n env) env
theorem sWhl {tc : TT} {c : Et} {tb : TS} {b : S} {n : Env → Nat} (hc : TSnd K tc c) (hb : SSnd K pn tb b) : SSnd K pn (tWhile tc tb) (cWhl c b n) := by
  intro env out h σ F O f a0 D q
  simp only [cWhl] at h
  refine ⟨fun m σ' H => ∃ env' F' O' f', H = jn F' O' ∧ At K σ' F' O' env' [] f' ∧ Stp F O f F' O' f' ∧ Same2 pn σ σ' ∧ whl c b m env' = some out, ⟨n env, env, F, O, f, rfl, a0, Stp.refl, Same2.refl, h⟩, ?_⟩
  rintro m σ2 H ⟨env2, F2, O2, f2, rfl, a2, s2, p2, h2⟩
  cases m with
  | zero => simp [whl] at h2
  | succ m =>
    simp only [whl] at h2
    split at h2
    · next e3 h3 =>
      cases h2
      refine hc _ _ _ h3 σ2 F2 O2 f2 a2 _ fun F3 O3 f3 a3 s3 => ?_
      rw [if_neg Bool.false_ne_true]
      exact q σ2 F3 O3 f3 a3 (s2.trans s3) p2
    · next e3 h3 =>
      refine hc _ _ _ h3 σ2 F2 O2 f2 a2 _ fun F3 O3 f3 a3 s3 => ?_
      rw [if_pos rfl]
      refine ⟨fun σ' H' => ∃ env' F' O' f', H' = jn F' O' ∧ At K σ' F' O' env' [] f' ∧ Stp F O f F' O' f' ∧ Same2 pn σ σ' ∧ whl c b m env' = some out, ?_, ?_⟩
      · rintro σ' H' ⟨env', F', O', f', rfl, b1, b2, b3, b4⟩
        exact ⟨m, Nat.lt_succ_self m, env', F', O', f', rfl, b1, b2, b3, b4⟩
      · have s13 := s2.trans s3
        split at h2
        · next e4 h4 => exact hb _ _ h4 σ2 F3 O3 f3 a3 _ fun σ5 F5 O5 f5 a5 s5 p5 => ⟨e4, F5, O5, f5, rfl, a5, s13.trans s5, p2.trans p5, h2⟩
        · next e4 h4 => exact hb _ _ h4 σ2 F3 O3 f3 a3 _ fun σ5 F5 O5 f5 a5 s5 p5 => ⟨e4, F5, O5, f5, rfl, a5, s13.trans s5, p2.trans p5, h2⟩
        · next e4 h4 =>
          cases h2
          exact hb _ _ h4 σ2 F3 O3 f3 a3 _ fun σ5 F5 O5 f5 a5 s5 p5 => q σ5 F5 O5 f5 a5 (s13.trans s5) (p2.trans p5)
        · next t e4 h4 =>
          cases h2
          exact hb _ _ h4 σ2 F3 O3 f3 a3 _ fun v σ5 F5 O5 fp5 f5 a5 s5 r5 p5 => q v σ5 F5 O5 fp5 f5 a5 (s13.trans s5) r5 (p2.trans p5)
        · cases h2
    · cases h2
end
end LP
set_option maxRecDepth 100000
/-! LP: built-ins, methods of lists, stores. -/
namespace LP
open PySem L2
section
variable {K : PySem.W.Frag} {F O F' O' F1 O1 F2 O2 : Hp} {σ : L2.St} {env env' : Env} {f f1 f2 fp fp1 fp2 : List Addr} {pn : List Nat}

/-! ### built-ins by values -/
def lenT : List T → Option T
  | [.lst _ xs] => some (.int xs.length)
  | [.tup _ xs] => some (.int xs.length)
  | [.scr ns] => some (.int ns.length)
  | [.str s] => if okStr s then some (.int s.length) else none
  | [.dic _ ks _] => some (.int ks.length)
  | _ => none
def rLenU (K : PySem.W.Frag) : List V → Hp → VK → Prop := fun xs H Q => (∃ p ys, xs = [.ref p] ∧ (SqL K H p ys ∨ SqT K H p ys) ∧ Q (.int ys.length) H) ∨ ((∃ z, xs = [.str z] ∧ z.length ≤ sizeLine ∧ Q (.int z.length) H) ∨ (∃ a kvs, xs = [V.ref a] ∧ H a = some (.dK kvs) ∧ Q (.int kvs.length) H))
theorem Rls.one {vs : List V} {t : T} {g : List Addr} (h : Rls K F O vs [t] g) : ∃ v g', vs = [v] ∧ Rl K F O v t g' := by
  cases h with
  | cons h r => cases r; exact ⟨_, _, rfl, h⟩
theorem Rls.two {vs : List V} {t u : T} {g : List Addr} (h : Rls K F O vs [t, u] g) : ∃ v w g' g2, vs = [v, w] ∧ Rl K F O v t g' ∧ Rl K F O w u g2 := by
  cases h with
  | cons h r => obtain ⟨w, g2, rfl, h2⟩ := r.one; exact ⟨_, _, _, _, rfl, h, h2⟩
theorem zipLen {α β : Type} {ks : List α} {vs : List β} (n : ks.length = vs.length) : (ks.zip vs).length = ks.length := by rw [List.length_zip, n, Nat.min_self]
theorem sLen : OSndN K (rLenU K) lenT := by
  intro F O xs as fa t d ha e Q q
  unfold lenT at e
  split at e
  · cases e
    obtain ⟨v, g, rfl, h⟩ := ha.one
    obtain ⟨p, vs, fs, rfl, h1, r1⟩ := h.lstv d
    refine .inl ⟨_, _, rfl, .inl (.inl (.inl h1)), ?_⟩
    rw [r1.len]
    exact q.sc d (.int _)
  · cases e
    obtain ⟨v, g, rfl, h⟩ := ha.one
    obtain ⟨p, vs, fs, rfl, h1, r1⟩ := h.tupv d
    refine .inl ⟨_, _, rfl, .inr h1, ?_⟩
    rw [r1.len]
    exact q.sc d (.int _)
  · cases e
    obtain ⟨v, g, rfl, h⟩ := ha.one
    obtain ⟨p, rfl, h1⟩ := h.scrv d
    refine .inl ⟨_, _, rfl, .inl h1, ?_⟩
    rw [List.length_map]
    exact q.sc d (.int _)
  · split at e
    · next z =>
      cases e
      obtain ⟨v, g, rfl, h⟩ := ha.one
      cases h
      exact .inr (.inl ⟨_, rfl, of_decide_eq_true z, q.sc d (.int _)⟩)
    · cases e
  · cases e
    obtain ⟨v, g, rfl, h⟩ := ha.one
    cases h with
    | dicF e n r =>
      refine .inr (.inr ⟨_, _, rfl, d.jn_F e, ?_⟩)
      rw [zipLen n]
      exact q.sc d (.int _)
    | dicO e n r =>
      refine .inr (.inr ⟨_, _, rfl, jn_O e, ?_⟩)
      rw [zipLen n]
      exact q.sc d (.int _)
  · cases e
def max2T : List T → Option T
  | [.int i, .int j] => some (.int (if j > i then j else i))
  | _ => none
def min2T : List T → Option T
  | [.int i, .int j] => some (.int (if j < i then j else i))
  | _ => none
theorem sMax2 : OSndN K (fun xs H Q => ∃ i j, xs = [.int i, .int j] ∧ Q (.int (if j > i then j else i)) H) max2T := by
  intro F O xs as fa t d ha e Q q
  unfold max2T at e
  split at e
  · cases e
    obtain ⟨v, w, g, g2, rfl, h, h2⟩ := ha.two
    cases h
    cases h2
    exact ⟨_, _, rfl, q.sc d (.int _)⟩
  · cases e
theorem sMin2 : OSndN K (fun xs H Q => ∃ i j, xs = [.int i, .int j] ∧ Q (.int (if j < i then j else i)) H) min2T := by
  intro F O xs as fa t d ha e Q q
  unfold min2T at e
  split at e
  · cases e
    obtain ⟨v, w, g, g2, rfl, h, h2⟩ := ha.two
    cases h
    cases h2
    exact ⟨_, _, rfl, q.sc d (.int _)⟩
  · cases e
def absT : List T → Option T
  | [.int i] => some (.int (if i < 0 then -i else i))
  | _ => none
def intT : List T → Option T
  | [.int i] => some (.int i)
  | [.bl b] => some (.int (if b then 1 else 0))
  | _ => none
theorem sInt : OSndN K (fun xs H Q => (∃ i, xs = [.int i] ∧ Q (.int i) H) ∨ ∃ k, xs = [.bl k] ∧ Q (.int (if k then 1 else 0)) H) intT := by
  intro F O xs as fa t d ha e Q q
  unfold intT at e
  split at e
  · cases e
    obtain ⟨v, g, rfl, h⟩ := ha.one
    cases h
    exact .inl ⟨_, rfl, q.sc d (.int _)⟩
  · cases e
    obtain ⟨v, g, rfl, h⟩ := ha.one
    cases h
    exact .inr ⟨_, rfl, q.sc d (.int _)⟩
  · cases e
def sumT : List T → Option T
  | [.lst _ xs] => match intsL xs with
    | some ns => some (.int ns.sum)
    | none => none
  | _ => none
theorem Rl.intsv {v : V} {o : Bool} {xs : List T} {ns : List Int} {g : List Addr} (d : Dis F O) (h : Rl K F O v (.lst o xs) g) (e : intsL xs = some ns) : ∃ a, v = .ref a ∧ jn F O a = some (.lst (ns.map V.int)) := by
  obtain ⟨p, vs, fs, rfl, h1, r1⟩ := h.lstv d
  have e2 := ints_eq e
  subst e2
  have e3 := Rls.ofInts r1
  subst e3
  exact ⟨p, rfl, h1⟩
theorem sSum : OSndN K (rSum K) sumT := by
  intro F O xs as fa t d ha e Q q
  unfold sumT at e
  split at e
  · split at e
    · next ns hn =>
      cases e
      obtain ⟨v, g, rfl, h⟩ := ha.one
      obtain ⟨p, rfl, h1⟩ := h.intsv d hn
      exact ⟨_, ns, rfl, .inl (.inl h1), q.sc d (.int _)⟩
    · cases e
  · cases e
/-- list(xs): a list of its own, of what is free -/
def listT : List T → Option T
  | [.lst _ xs] => if fzL xs then some (.lst true xs) else none
  | [.tup _ xs] => if fzL xs then some (.lst true xs) else none
  | _ => none
theorem sList : OSndN K (fun xs H Q => ∃ p ys, xs = [.ref p] ∧ (SqL K H p ys ∨ SqT K H p ys) ∧ ∀ l, H l = none → Q (.ref l) (upd H l (.lst ys))) listT := by
  intro F O xs as fa t d ha e Q q
  unfold listT at e
  split at e
  · split at e
    · next z =>
      cases e
      obtain ⟨v, g, rfl, h⟩ := ha.one
      obtain ⟨p, vs, fs, rfl, h1, r1⟩ := h.lstv d
      exact ⟨_, _, rfl, .inl (.inl (.inl h1)), q.newL d (r1.own0 z)⟩
    · cases e
  · split at e
    · next z =>
      cases e
      obtain ⟨v, g, rfl, h⟩ := ha.one
      obtain ⟨p, vs, fs, rfl, h1, r1⟩ := h.tupv d
      exact ⟨_, _, rfl, .inr h1, q.newL d (r1.own0 z)⟩
    · cases e
  · cases e
/-- max(xs), min(xs) of ints -/
def maxI (n : Int) (ns : List Int) : Int := ns.foldl (fun a b => if a < b then b else a) n
def minI (n : Int) (ns : List Int) : Int := ns.foldl (fun a b => if b < a then b else a) n
theorem maxI_spec : ∀ (ns : List Int) (n m : Int), m ∈ n :: ns → (∀ y ∈ n :: ns, y ≤ m) → maxI n ns = m
  | [], n, m, h, _ => by
    rw [List.mem_singleton] at h
    exact h.symm
  | a :: r, n, m, h, hm => by
    show maxI (if n < a then a else n) r = m
    have h1 := hm n (List.mem_cons_self ..)
    have h2 := hm a (List.mem_cons_of_mem _ (List.mem_cons_self ..))
    refine maxI_spec r _ m ?_ fun y hy => ?_
    · rcases List.mem_cons.mp h with e | h
      · split
        · next z => omega
        · rw [e]; exact List.mem_cons_self ..
      · rcases List.mem_cons.mp h with e | h
        · split
          · next z => rw [e]; exact List.mem_cons_self ..
          · next z =>
            have : m = n := by omega
            rw [this]; exact List.mem_cons_self ..
        · exact List.mem_cons_of_mem _ h
    · rcases List.mem_cons.mp hy with e | hy
      · rw [e]; split <;> assumption
      · exact hm y (List.mem_cons_of_mem _ (List.mem_cons_of_mem _ hy))
theorem minI_spec : ∀ (ns : List Int) (n m : Int), m ∈ n :: ns → (∀ y ∈ n :: ns, m ≤ y) → minI n ns = m
  | [], n, m, h, _ => by
    rw [List.mem_singleton] at h
    exact h.symm
  | a :: r, n, m, h, hm => by
    show minI (if a < n then a else n) r = m
    have h1 := hm n (List.mem_cons_self ..)
    have h2 := hm a (List.mem_cons_of_mem _ (List.mem_cons_self ..))
    refine minI_spec r _ m ?_ fun y hy => ?_
    · rcases List.mem_cons.mp h with e | h
      · split
        · next z => omega
        · rw [e]; exact List.mem_cons_self ..
      · rcases List.mem_cons.mp h with e | h
        · split
          · next z => rw [e]; exact List.mem_cons_self ..
          · next z =>
            have : m = n := by omega
            rw [this]; exact List.mem_cons_self ..
        · exact List.mem_cons_of_mem _ h
    · rcases List.mem_cons.mp hy with e | hy
      · rw [e]; split <;> assumption
      · exact hm y (List.mem_cons_of_mem _ (List.mem_cons_of_mem _ hy))
def max1T : List T → Option T
  | [.lst _ xs] => match intsL xs with
    | some (n :: ns) => some (.int (maxI n ns))
    | _ => none
  | _ => none
def min1T : List T → Option T
  | [.lst _ xs] => match intsL xs with
    | some (n :: ns) => some (.int (minI n ns))
    | _ => none
  | _ => none
theorem sMax1 : OSndN K (rMax K) max1T := by
  intro F O xs as fa t d ha e Q q
  unfold max1T at e
  split at e
  · split at e
    · next n ns hn =>
      cases e
      obtain ⟨v, g, rfl, h⟩ := ha.one
      obtain ⟨p, rfl, h1⟩ := h.intsv d hn
      refine ⟨_, n :: ns, rfl, .inl (.inl h1), Nat.succ_pos _, fun m h2 h3 => ?_⟩
      rw [← maxI_spec ns n m h2 h3]
      exact q.sc d (.int _)
    · cases e
  · cases e
theorem sMin1 : OSndN K (rMin K) min1T := by
  intro F O xs as fa t d ha e Q q
  unfold min1T at e
  split at e
  · split at e
    · next n ns hn =>
      cases e
      obtain ⟨v, g, rfl, h⟩ := ha.one
      obtain ⟨p, rfl, h1⟩ := h.intsv d hn
      refine ⟨_, n :: ns, rfl, .inl (.inl h1), Nat.succ_pos _, fun m h2 h3 => ?_⟩
      rw [← minI_spec ns n m h2 h3]
      exact q.sc d (.int _)
    · cases e
  · cases e

/-! ### isinstance(x, T), a built-in T -/
def tyN : T → Option String
  | .non => some "NoneType"
  | .bl _ => some "bool"
  | .int _ => some "int"
  | .str _ => some "str"
  | .lst _ _ => some "list"
  | .tup _ _ => some "tuple"
  | .scr _ => some "list"
  | .dic _ _ _ => some "dict"
  | .dtu _ _ _ => some "dict"
def isiT (c : String) (t : T) : Option T := match tyN t with
  | some n => match kitB n c with
    | some b => some (.bl b)
    | none => none
  | none => none
theorem tyX_of {v : V} {t : T} {g : List Addr} {n : String} (d : Dis F O) (h : Rl K F O v t g) (e : tyN t = some n) : TyX K (jn F O) v (.type n) := by
  cases h with
  | non => cases e; exact .base .non
  | bl b => cases e; exact .base (.bl b)
  | int i => cases e; exact .base (.int i)
  | str s => cases e; exact .base (.str s)
  | scr h =>
    cases e
    rcases h with ⟨o, h⟩ | (h | ⟨o, h⟩) | ⟨o, its, n, h1, h2, _⟩
    · exact .base (.frz (d.jn_F h))
    · cases h
    · cases h
    · exact .kList h1 h2
  | lstF h r => cases e; exact .base (.lst (d.jn_F h))
  | lstO h r => cases e; exact .base (.lst (jn_O h))
  | tupF h r =>
    cases e
    rcases Same.seqT d.same h with (h | ⟨o, h⟩) | ⟨o, its, n, h1, h2, _⟩
    · exact .base (.tup h)
    · exact .fTuple h
    · exact .kTuple h1 h2
  | tupO h r => cases e; exact .base (.tup (jn_O h))
  | dicF h n r => cases e; exact .base (.dK (d.jn_F h))
  | dicO h n r => cases e; exact .base (.dK (jn_O h))
  | dtuF h n r => cases e; exact .base (.dT (d.jn_F h))
  | dtuO h n r => cases e; exact .base (.dT (jn_O h))
def cIsi (c : String) (a : Ev) : Ev := cO1 (isiT c) a
theorem eIsi {ta : TE} {a : Ev} {c : String} (ha : ESnd K ta a) : ESnd K (tCB (rIsi K) (tCons ta (tCons (tC (.ty c)) tNil))) (cIsi c a) := by
  intro env o env' h σ F O f a0 Q q
  simp only [cIsi, cO1] at h
  split at h
  · next o1 e1 h1 =>
    split at h
    · next x hx =>
      split at h
      · next t ht =>
        cases h
        refine ha _ _ _ h1 σ F O f a0 _ fun v F1 O1 fp1 f1 a1 s1 r1 => ?_
        obtain ⟨g1, w1, _⟩ := r1.view a1.e hx
        unfold isiT at ht
        split at ht
        · next n hn =>
          split at ht
          · next b hb =>
            cases ht
            exact ⟨v, .ty c, .type n, .type c, b, rfl, .ty c, tyX_of a1.d w1 hn, kit_ty hb, (fin (t := .bl b) a1 s1.snd q).sc a1.d (.bl b)⟩
          · cases ht
        · cases ht
      · cases h
    · cases h
  · cases h

/-! ### slices -/
def Po := Env → Option (Option Int × Env)
def p0 : Po := fun env => some (none, env)
def p1 (a : Ev) : Po := fun env => match a env with
  | some (o, e) => match vw e o with
    | some (.int i) => some (some i, e)
    | _ => none
  | none => none
def POnd (K : PySem.W.Frag) (tp : TO) (ep : Po) : Prop := ∀ env b env', ep env = some (b, env') → ∀ σ F O f, At K σ F O env [] f → ∀ Q : Option Int → Hp → Prop,
  (∀ F' O' f', At K σ F' O' env' [] f' → Stp F O f F' O' f' → Q b (jn F' O')) → tp σ (jn F O) Q
structure SPo (K : PySem.W.Frag) (X : Cx) (e : Option Expr) (tp : TO) (ep : Po) : Prop where
  p : PO X e tp
  s : POnd K tp ep
  k : X.K = K := by rfl
theorem pP0 : POnd K tNoPart p0 := by
  intro env b env' h σ F O f a0 Q q
  cases h
  exact q F O f a0 Stp.refl
theorem pP1 {ta : TE} {a : Ev} (ha : ESnd K ta a) : POnd K (tPart ta) (p1 a) := by
  intro env b env' h σ F O f a0 Q q
  simp only [p1] at h
  split at h
  · next o e h1 =>
    split at h
    · next i hi =>
      cases h
      refine ha _ _ _ h1 σ F O f a0 _ fun v F1 O1 fp1 f1 a1 s1 r1 => ?_
      obtain ⟨g1, w1, _⟩ := r1.view a1.e hi
      cases w1
      exact ⟨_, rfl, q F1 O1 f1 a1.only s1.snd⟩
    · cases h
  · cases h
def cutL {α : Type} (xs : List α) (lo hi : Option Int) : List α := (xs.drop (HT.sIx xs.length 0 lo)).take (HT.sIx xs.length xs.length hi - HT.sIx xs.length 0 lo)
def slT (t : T) (lo hi : Option Int) : Option T := match t with
  | .lst _ xs => if fzL (cutL xs lo hi) then some (.lst true (cutL xs lo hi)) else none
  | .tup false xs => some (.tup false (cutL xs lo hi))
  | .str s => if okStr s then some (.str (cutS s lo hi)) else none
  | _ => none
def cSl (a : Ev) (lo hi : Po) : Ev := fun env => match a env with
  | some (o, e) => match lo e with
    | some (l, e1) => match hi e1 with
      | some (h, e2) => match vw e2 o with
        | some x => match slT x l h with
          | some t => some (.t t, e2)
          | none => none
        | none => none
      | none => none
    | none => none
  | none => none
def rSlU (K : PySem.W.Frag) : V → Option Int → Option Int → Hp → VK → Prop := fun x lo hi H Q => rSlL K x lo hi H Q ∨ (rSlA K x lo hi H Q ∨ rSlS x lo hi H Q)
theorem sl_U {X : Cx} : SlR X (rSlU X.K) := by
  intro pins s σ H x v vl vu lo hi sl Q I rx hs pl pu h
  rcases h with h | h | h
  · exact sl_list pins s σ H x v vl vu lo hi sl Q I rx hs pl pu h
  · exact sl_tupA pins s σ H x v vl vu lo hi sl Q I rx hs pl pu h
  · exact sl_str pins s σ H x v vl vu lo hi sl Q I rx hs pl pu h
theorem Rls.cut {vs : List V} {ts : List T} (r : Rls K F O vs ts []) (lo hi : Option Int) : Rls K F O (cutV vs lo hi) (cutL ts lo hi) [] := by
  have dr : ∀ (n : Nat) {vs : List V} {ts : List T} {g : List Addr}, Rls K F O vs ts g → ∃ g', Rls K F O (vs.drop n) (ts.drop n) g' ∧ ∀ a, g'.count a ≤ g.count a := by
    intro n
    induction n with
    | zero => exact fun r => ⟨_, r, fun _ => Nat.le_refl _⟩
    | succ n ih =>
      intro vs ts g r
      cases r with
      | nil => exact ⟨[], .nil, fun _ => Nat.le_refl _⟩
      | cons h r =>
        obtain ⟨g', h1, h2⟩ := ih r
        exact ⟨g', h1, fun a => by rw [List.count_append]; have := h2 a; omega⟩
  have tk : ∀ (n : Nat) {vs : List V} {ts : List T} {g : List Addr}, Rls K F O vs ts g → ∃ g', Rls K F O (vs.take n) (ts.take n) g' ∧ ∀ a, g'.count a ≤ g.count a := by
    intro n
    induction n with
    | zero => exact fun r => ⟨[], by rw [List.take_zero, List.take_zero]; exact .nil, fun a => by rw [List.count_nil]; omega⟩
    | succ n ih =>
      intro vs ts g r
      cases r with
      | nil => exact ⟨[], .nil, fun _ => Nat.le_refl _⟩
      | cons h r =>
        obtain ⟨g', h1, h2⟩ := ih r
        exact ⟨_ ++ g', .cons h h1, fun a => by rw [List.count_append, List.count_append]; have := h2 a; omega⟩
  unfold cutV cutL
  rw [r.len]
  obtain ⟨g1, r1, c1⟩ := dr (HT.sIx ts.length 0 lo) r
  obtain ⟨g2, r2, c2⟩ := tk (HT.sIx ts.length ts.length hi - HT.sIx ts.length 0 lo) r1
  have : g2 = [] := by
    cases g2 with
    | nil => rfl
    | cons a l =>
      have e1 := c2 a
      have e2 := c1 a
      rw [List.count_cons, beq_self_eq_true, if_pos rfl] at e1
      rw [List.count_nil] at e2
      omega
  rw [this] at r2
  exact r2
theorem Rls.cutF {vs : List V} {ts : List T} {g : List Addr} (r : Rls K F O vs ts g) (lo hi : Option Int) (z : fzL (cutL ts lo hi) = true) : Rls K F O (cutV vs lo hi) (cutL ts lo hi) [] := by
  have dr : ∀ (n : Nat) {vs : List V} {ts : List T} {g : List Addr}, Rls K F O vs ts g → ∃ g', Rls K F O (vs.drop n) (ts.drop n) g' := by
    intro n
    induction n with
    | zero => exact fun r => ⟨_, r⟩
    | succ n ih =>
      intro vs ts g r
      cases r with
      | nil => exact ⟨[], .nil⟩
      | cons h r => exact ih r
  have tk : ∀ (n : Nat) {vs : List V} {ts : List T} {g : List Addr}, Rls K F O vs ts g → ∃ g', Rls K F O (vs.take n) (ts.take n) g' := by
    intro n
    induction n with
    | zero => exact fun r => ⟨[], by rw [List.take_zero, List.take_zero]; exact .nil⟩
    | succ n ih =>
      intro vs ts g r
      cases r with
      | nil => exact ⟨[], .nil⟩
      | cons h r =>
        obtain ⟨g', h1⟩ := ih r
        exact ⟨_ ++ g', .cons h h1⟩
  unfold cutV
  rw [r.len]
  obtain ⟨g1, r1⟩ := dr (HT.sIx ts.length 0 lo) r
  obtain ⟨g2, r2⟩ := tk (HT.sIx ts.length ts.length hi - HT.sIx ts.length 0 lo) r1
  exact Rls.own0 r2 z
theorem cutL_all {α : Type} (xs : List α) (lo hi : Option Int) (h : HT.sIx xs.length 0 lo = 0 ∧ HT.sIx xs.length xs.length hi = xs.length) : cutL xs lo hi = xs := by
  unfold cutL
  rw [h.1, h.2, List.drop_zero, Nat.sub_zero, List.take_length]
theorem eSl {ta : TE} {a : Ev} {tl th : TO} {lo hi : Po} (ha : ESnd K ta a) (hl : POnd K tl lo) (hh : POnd K th hi) : ESnd K (tSl (rSlU K) ta tl th) (cSl a lo hi) := by
  intro env o env' h σ F O f a0 Q q
  simp only [cSl] at h
  split at h
  · next o1 e1 h1 =>
    split at h
    · next l e2 h2 =>
      split at h
      · next u e3 h3 =>
        split at h
        · next x hx =>
          split at h
          · next t ht =>
            cases h
            refine ha _ _ _ h1 σ F O f a0 _ fun v F1 O1 fp1 f1 a1 s1 r1 => ?_
            refine hl _ _ _ h2 σ F1 O1 f1 a1.only _ fun F2 O2 f2 a2 s2 => ?_
            refine hh _ _ _ h3 σ F2 O2 f2 a2 _ fun F3 O3 f3 a3 s3 => ?_
            have s23 := s2.trans s3
            obtain ⟨g1, w1, _⟩ := (s23.keepO r1 fun a z => a1.nd.apart z).view a3.e hx
            have b : Back K F3 O3 t Q := fin a3 (s1.snd.trans s23) q
            unfold slT at ht
            split at ht
            · split at ht
              · next z =>
                cases ht
                obtain ⟨p, vs, fs, rfl, k1, r2⟩ := w1.lstv a3.d
                exact .inl ⟨_, _, rfl, .inl (.inl k1), b.newL a3.d (r2.cutF l u z)⟩
              · cases ht
            · cases ht
              cases w1 with
              | tupF hf r =>
                refine .inr (.inl ⟨_, _, rfl, Same.seqT a3.d.same hf, fun w => ?_, fun w => b.newT a3.d (r.cut l u)⟩)
                rw [r.len] at w
                rw [cutL_all _ _ _ w] at b
                exact b.sc a3.d (.tupF hf r)
            · split at ht
              · next z =>
                cases ht
                cases w1
                exact .inr (.inr ⟨_, rfl, of_decide_eq_true z, b.sc a3.d (.str _)⟩)
              · cases ht
            · cases ht
          · cases h
        · cases h
      · cases h
    · cases h
  · cases h
end
end LP
set_option maxRecDepth 100000
/-! LP: lists that are changed in place. -/
namespace LP
open PySem L2
section
variable {K : PySem.W.Frag} {F O F' O' F1 O1 F2 O2 : Hp} {σ : L2.St} {env env' : Env} {f f1 f2 fp fp1 fp2 : List Addr} {pn : List Nat}
/-- a list that a slot owns is written -/
theorem wr {i : Nat} {xs : List T} (a1 : At K σ F O env fp f) (al : ∀ a ∈ fp, ∃ o, O a = some o) (e : env[i]? = some (some (.lst true xs))) :
    ∃ p vs fs, σ[i]? = some (some (.ref p)) ∧ O p = some (.lst vs) ∧ Rls K F O vs xs fs ∧ ∀ (vs' : List V) (ts' : List T) (fs' : List Addr), Rls K F O vs' ts' fs' → (∀ a, fs'.count a ≤ fs.count a + fp.count a) →
      ∃ f', At K σ F (upd O p (.lst vs')) (env.set i (some (.lst true ts'))) [] f' ∧ Stp F O (fp ++ f) F (upd O p (.lst vs')) f' ∧ f'.count p = 1 := by
  obtain ⟨v, _, h1, h2, _⟩ := a1.e.get e
  obtain ⟨fq, f0, h3, h4, h5⟩ := a1.e.upd h1 e
  cases h3 with
  | lstO ho r =>
    next p vs fs =>
    refine ⟨p, vs, fs, h1, ho, r, fun vs' ts' fs' r' c => ?_⟩
    have n : ∀ a, fp.count a + ((if p = a then 1 else 0) + fs.count a + f0.count a) ≤ 1 := fun a => by
      have n1 := a1.nd a
      have n2 := h4 a
      rw [List.count_append] at n1
      rw [List.count_cons] at n2
      by_cases z : p = a
      · rw [if_pos z]
        rw [z, beq_self_eq_true, if_pos rfl] at n2
        omega
      · rw [if_neg z]
        rw [if_neg (by simpa using z)] at n2
        omega
    have np : ∀ {l : List Addr}, l.count p = 0 → ∀ a ∈ l, ∀ o, O a = some o → upd O p (.lst vs') a = some o := fun z a w o e => by
      rw [upd_ne fun q => by rw [q, mem_count] at w; omega]
      exact e
    have z1 := n p
    rw [if_pos rfl] at z1
    have c1 := c p
    obtain ⟨f', h6, h7⟩ := h5 F (upd O p (.lst vs')) (.lst true ts') (p :: fs') (Same.refl F) (np (by omega)) (.lstO upd_same (r'.mono (Same.refl F) (np (by omega))))
    have h8 : ∀ a, f'.count a = (if p = a then 1 else 0) + fs'.count a + f0.count a := fun a => by
      have := h7 a
      rw [List.count_cons] at this
      by_cases z : p = a
      · rw [if_pos z]
        rw [z, beq_self_eq_true, if_pos rfl] at this
        omega
      · rw [if_neg z]
        rw [if_neg (by simpa using z)] at this
        omega
    refine ⟨f', ⟨a1.d.updO (a1.d.noF ho), h6, fun a => ?_⟩, ⟨Same.refl F, fun a o z e => ?_, fun a z => .inl ?_, fun a z => ?_⟩, ?_⟩
    · rw [List.nil_append]
      have := h8 a
      have := n a
      have := c a
      omega
    · rw [upd_ne fun q => z ?_]
      · exact e
      · rw [q, mem_count, List.count_append]
        have := h4 p
        rw [List.count_cons, beq_self_eq_true, if_pos rfl] at this
        omega
    · rw [mem_count] at z ⊢
      rw [List.count_append]
      have e1 := h8 a
      have e2 := h4 a
      have e3 := c a
      rw [List.count_cons] at e2
      by_cases w : p = a
      · rw [w, beq_self_eq_true, if_pos rfl] at e2
        omega
      · rw [if_neg w] at e1
        rw [if_neg (by simpa using w)] at e2
        omega
    · rw [← upd_jn]
      by_cases w : a = p
      · rw [w, upd_same]; exact fun z => nomatch z
      · rw [upd_ne w]; exact z
    · have := h8 p
      rw [if_pos rfl] at this
      omega
/-- x.append(e) -/
def cApp (i : Nat) (a : Ev) : Ev := fun env => match env[i]? with
  | some (some (.lst true _)) => match a env with
    | some (o, e) => match e[i]? with
      | some (some (.lst true xs)) => match sto e o with
        | some t => if xs.length < sizeLine then some (.t .non, e.set i (some (.lst true (xs ++ [t])))) else none
        | none => none
      | _ => none
    | none => none
  | _ => none
theorem eApp {i : Nat} {ta : TE} {a : Ev} (ha : ESnd K ta a) : ESnd K (tBM K "list" rAppend (tVar i) (tCons ta tNil)) (cApp i a) := by
  intro env o env' h σ F O f a0 Q q
  simp only [cApp] at h
  split at h
  · next xs0 h0 =>
    split at h
    · next o1 e1 h1 =>
      split at h
      · next xs hx =>
        split at h
        · next t ht =>
          split at h
          · next hz =>
            cases h
            obtain ⟨p0, vs0, fs0, g0, k0, _, _⟩ := wr a0 (fun a z => by cases z) h0
            refine ⟨.ref p0, g0, .inl ⟨rfl, vs0, .inl (.inl (jn_O k0))⟩, ?_⟩
            refine ha _ _ _ h1 σ F O f a0 _ fun v F1 O1 fp1 f1 a1 s1 r1 => ?_
            obtain ⟨p, vs, fs, g1, k1, r2, w⟩ := wr a1 r1.alloc hx
            rw [g0] at g1
            cases g1
            refine ⟨p0, vs, v, rfl, rfl, jn_O k1, by rw [r2.len]; exact hz, ?_⟩
            rw [upd_jn]
            obtain ⟨f', a2, s2, _⟩ := w (vs ++ [v]) (xs ++ [t]) (fs ++ (fp1 ++ [])) (r2.append (.cons (r1.store a1.e ht) .nil)) fun a => by simp only [List.count_append, List.count_nil]; omega
            exact q .non _ _ [] f' a2 (s1.trans s2) .non
          · cases h
        · cases h
      · cases h
    · cases h
  · cases h
/-- x.clear() -/
def cClr (i : Nat) : Ev := fun env => match env[i]? with
  | some (some (.lst true _)) => some (.t .non, env.set i (some (.lst true [])))
  | _ => none
theorem eClr {i : Nat} : ESnd K (tBM0 K "list" rClear (tVar i)) (cClr i) := by
  intro env o env' h σ F O f a0 Q q
  simp only [cClr] at h
  split at h
  · next xs h0 =>
    cases h
    obtain ⟨p, vs, fs, g0, k0, r2, w⟩ := wr a0 (fun a z => by cases z) h0
    refine ⟨.ref p, g0, .inl ⟨rfl, vs, .inl (.inl (jn_O k0))⟩, p, vs, rfl, rfl, jn_O k0, ?_⟩
    rw [upd_jn]
    obtain ⟨f', a2, s2, _⟩ := w [] [] [] .nil fun a => by rw [List.count_nil]; omega
    exact q .non _ _ [] f' a2 s2 .non
  · cases h
theorem Rls.take {n : Nat} : ∀ {vs : List V} {ts : List T} {g : List Addr}, Rls K F O vs ts g → ∃ g1 g2, Rls K F O (vs.take n) (ts.take n) g1 ∧ Rls K F O (vs.drop n) (ts.drop n) g2 ∧ ∀ a, g1.count a + g2.count a = g.count a := by
  induction n with
  | zero => intro vs ts g r; exact ⟨[], g, by rw [List.take_zero, List.take_zero]; exact .nil, r, fun a => by rw [List.count_nil]; omega⟩
  | succ n ih =>
    intro vs ts g r
    cases r with
    | nil => exact ⟨[], [], .nil, .nil, fun a => rfl⟩
    | cons h r =>
      obtain ⟨g1, g2, h1, h2, h3⟩ := ih r
      exact ⟨_ ++ g1, g2, .cons h h1, h2, fun a => by rw [List.count_append, List.count_append]; have := h3 a; omega⟩
theorem Rls.set {i : Nat} {v : V} {t : T} {g' : List Addr} (h' : Rl K F O v t g') : ∀ {vs : List V} {ts : List T} {g : List Addr}, Rls K F O vs ts g → ∃ g2, Rls K F O (vs.set i v) (ts.set i t) g2 ∧ ∀ a, g2.count a ≤ g.count a + g'.count a := by
  induction i with
  | zero =>
    intro vs ts g r
    cases r with
    | nil => exact ⟨[], .nil, fun a => by rw [List.count_nil]; omega⟩
    | cons h r => exact ⟨_, .cons h' r, fun a => by rw [List.count_append, List.count_append]; omega⟩
  | succ i ih =>
    intro vs ts g r
    cases r with
    | nil => exact ⟨[], .nil, fun a => by rw [List.count_nil]; omega⟩
    | cons h r =>
      obtain ⟨g2, h1, h2⟩ := ih r
      exact ⟨_, .cons h h1, fun a => by rw [List.count_append, List.count_append]; have := h2 a; omega⟩
/-- x[k] = .. (a target) -/
def gIx (i : Nat) (k : Ev) : Tg := fun x env => match env[i]? with
  | some (some _) => match k env with
    | some (o, e) => match vw e o with
      | some (.int n) => match e[i]? with
        | some (some (.lst true xs)) => match ixN xs.length n with
          | some j => some (e.set i (some (.lst true (xs.set j x))))
          | none => none
        | _ => none
      | _ => none
    | none => none
  | _ => none
theorem tgIx {i : Nat} {tk : TE} {k : Ev} (hk : ESnd K tk k) : GSnd K pn (gSub (tVar i) tk rSetL) (gIx i k) := by
  intro x env env' h v σ F O fp f a0 r Q q
  simp only [gIx] at h
  split at h
  · next t0 h0 =>
    split at h
    · next o1 e1 h1 =>
      split at h
      · next n hn =>
        split at h
        · next xs hx =>
          split at h
          · next j hj =>
            cases h
            obtain ⟨v0, _, g0, _, _⟩ := a0.e.get h0
            refine ⟨v0, g0, ?_⟩
            refine hk _ _ _ h1 σ F O f a0.only _ fun vk F1 O1 fp1 f1 a1 s1 r1 => ?_
            obtain ⟨gk, wk, _⟩ := r1.view a1.e hn
            cases wk
            have r' := s1.snd.keep r fun a z => a0.nd.apart z
            have n1 : Nd (fp ++ f1) := s1.snd.nd r.alloc a0.nd a1.nd.right
            obtain ⟨p, vs, fs, g1, k1, r2, w⟩ := wr (⟨a1.d, a1.e, n1⟩ : At K σ F1 O1 e1 fp f1) r'.alloc hx
            rw [g0] at g1
            cases g1
            obtain ⟨g2, r3, c3⟩ := r2.set (i := j) r'
            obtain ⟨f', a2, s2, _⟩ := w _ _ g2 r3 c3
            refine ⟨p, vs, n, j, rfl, rfl, jn_O k1, by rw [r2.len]; exact hj, ?_⟩
            rw [upd_jn]
            exact q σ _ _ f' a2 ((s1.snd.frame (hs := fp)).trans s2) Same2.refl
          · cases h
        · cases h
      · cases h
    · cases h
  · cases h
/-- l[k], as it is read by op= -/
def rGetL (K : PySem.W.Frag) : V → V → Hp → VK → Prop := fun x y H Q => ∃ p xs i v, x = .ref p ∧ y = .int i ∧ SqL K H p xs ∧ 0 ≤ i ∧ i < 2 ^ 62 ∧ xs[i.toNat]? = some v ∧ Q v H
theorem get_list {X : Cx} : PGet X (rGetL X.K) := by
  intro pins s σ H o i ov iv Q I ro ri h
  obtain ⟨p, xs, k, v, rfl, rfl, hq, h0, h1, hx, q⟩ := h
  cases ro
  obtain ⟨t, rfl⟩ := ri
  obtain ⟨its, r, pl, hz⟩ := I.list hq
  obtain ⟨w, ew, rw'⟩ := r.get hx
  exact PySem.wpAny_getItem_list pl.isList h0 (by omega) (by simpa using ew) ⟨v, H, I, rw', q⟩
def setAt (xs : List T) (n : Int) (x : T) : Option (List T) := match ixN xs.length n with
  | some j => some (xs.set j x)
  | none => none
def getAt (xs : List T) (n : Int) : Option T := if 0 ≤ n ∧ n < 2 ^ 62 then match xs[n.toNat]? with
  | some y => if y.fz then some y else none
  | none => none
  else none
/-- x[k] op= e -/
def cAugIx (i : Nat) (k : Ev) (g : T → T → Option T) (a : Ev) : S := fun env => match env[i]? with
  | some (some _) => match k env with
    | some (o, e) => match vw e o, e[i]? with
      | some (.int n), some (some (.lst true ys)) => match getAt ys n, a e with
        | some y, some (o2, e2) => match vw e2 o2, e2[i]? with
          | some z, some (some (.lst true xs)) => match g y z with
            | some x => match setAt xs n x with
              | some zs => some (.nx (e2.set i (some (.lst true zs))))
              | none => none
            | none => none
          | _, _ => none
        | _, _ => none
      | _, _ => none
    | none => none
  | _ => none
theorem sAugIx {i : Nat} {tk ta : TE} {k a : Ev} {r : R2} {g : T → T → Option T} (hk : ESnd K tk k) (ha : ESnd K ta a) (hr : OSnd2 K r g) : SSnd K pn (tAugS (tVar i) tk ta (rGetL K) r rSetL) (cAugIx i k g a) := by
  intro env out h σ F O f a0 D q
  simp only [cAugIx] at h
  split at h
  · next t0 h0 =>
    split at h
    · next o1 e1 h1 =>
      split at h
      · next n ys hn hys =>
        split at h
        · next y o2 e2 hy h2 =>
          split at h
          · next z xs hz hxs =>
            split at h
            · next x hx =>
              split at h
              · next zs hzs =>
                cases h
                obtain ⟨v0, _, g0, _, _⟩ := a0.e.get h0
                refine ⟨v0, g0, ?_⟩
                refine hk _ _ _ h1 σ F O f a0 _ fun vk F1 O1 fp1 f1 a1 s1 r1 => ?_
                obtain ⟨gk, wk, _⟩ := r1.view a1.e hn
                cases wk
                obtain ⟨p, vs, fs, g1, k1, r2, _⟩ := wr a1.only (fun a z => by cases z) hys
                rw [g0] at g1
                cases g1
                unfold getAt at hy
                split at hy
                · next hb =>
                  split at hy
                  · next y' hy' =>
                    split at hy
                    · next fz =>
                      cases hy
                      obtain ⟨vy, gy, hvy, ry, _⟩ := r2.at hy'
                      refine ⟨p, vs, n, vy, rfl, rfl, .inl (.inl (jn_O k1)), hb.1, hb.2, hvy, ?_⟩
                      have ry0 := ry.own0 fz
                      refine ha _ _ _ h2 σ F1 O1 f1 a1.only _ fun va F2 O2 fp2 f2 a2 s2 r3 => ?_
                      obtain ⟨gz, wz, _⟩ := r3.view a2.e hz
                      refine hr F2 O2 _ _ _ _ _ _ _ a2.d (s2.keep ry0 (fun a z => by cases z)) wz hx _ (fin a2 ((s1.snd.trans s2).snd) fun vx F3 O3 fp3 f3 a3 s3 r4 => ?_)
                      have hxs3 := hxs
                      obtain ⟨p3, vs3, fs3, g3, k3, r5, w⟩ := wr a3 (Rl.alloc (show Rl K F3 O3 vx x fp3 from r4)) hxs3
                      rw [g0] at g3
                      cases g3
                      unfold setAt at hzs
                      split at hzs
                      · next j hj =>
                        cases hzs
                        obtain ⟨g5, r6, c6⟩ := r5.set (i := j) (show Rl K F3 O3 vx x fp3 from r4)
                        obtain ⟨f', a4, s4, _⟩ := w _ _ g5 r6 c6
                        refine ⟨p, vs3, n, j, rfl, rfl, jn_O k3, by rw [r5.len]; exact hj, ?_⟩
                        rw [upd_jn]
                        exact q σ _ _ f' a4 (s3.trans s4) Same2.refl
                      · cases hzs
                    · cases hy
                  · cases hy
                · cases hy
              · cases h
            · cases h
          · cases h
        · cases h
      · cases h
    · cases h
  · cases h
def addI := opI fun i j => some (i + j)
def subI := opI fun i j => some (i - j)
theorem sAddI : OSnd2 K (ipI fun i j => i + j) addI := by
  intro F O x y a b fa fb t d ha hb e Q q
  unfold addI opI at e
  split at e
  · cases e
    cases ha
    cases hb
    exact ⟨_, _, rfl, rfl, q.sc d (.int _)⟩
  · cases e
theorem sSubI : OSnd2 K (ipI fun i j => i - j) subI := by
  intro F O x y a b fa fb t d ha hb e Q q
  unfold subI opI at e
  split at e
  · cases e
    cases ha
    cases hb
    exact ⟨_, _, rfl, rfl, q.sc d (.int _)⟩
  · cases e

/-! ### calls -/
/-- a def, as a function on trees: what it hands back, and what its arguments are then -/
abbrev Fn := List T → Option (T × List T)
/-- the promise of a def -/
def spF (K : PySem.W.Frag) (n : Nat) (g : Fn) : Sp := fun vs H Q _ => ∃ F O ts f r outs, vs.length = n ∧ H = jn F O ∧ Dis F O ∧ Rls K F O vs ts f ∧ Nd f ∧ g ts = some (r, outs) ∧
  ∀ v F' O' fp f', Dis F' O' → Stp F O f F' O' (fp ++ f') → Rl K F' O' v r fp → Rls K F' O' vs outs f' → Nd (fp ++ f') → Q v (jn F' O')
/-- the arguments' trees; what is handed over to be changed (true) leaves its slot -/
def cArgs : List Bool → List Opd → Env → Option (List T × Env)
  | [], [], env => some ([], env)
  | true :: m, .s i :: os, env => match env[i]? with
    | some (some t) => match cArgs m os (env.set i none) with
      | some (ts, e) => some (t :: ts, e)
      | none => none
    | _ => none
  | false :: m, .s i :: os, env => match env[i]? with
    | some (some t) => if t.fz then match cArgs m os env with
      | some (ts, e) => some (t :: ts, e)
      | none => none
      else none
    | _ => none
  | false :: m, .t x :: os, env => if x.fz then match cArgs m os env with
      | some (ts, e) => some (x :: ts, e)
      | none => none
      else none
  | _, _, _ => none
def cBack : List Bool → List Opd → List T → Env → Env
  | true :: m, .s i :: os, t :: ts, env => cBack m os ts (env.set i (some t))
  | false :: m, _ :: os, _ :: ts, env => cBack m os ts env
  | _, _, _, env => env
/-- what was made on the way is given free -/
def ers : List Opd → List Opd
  | [] => []
  | .s i :: r => .s i :: ers r
  | .t x :: r => .t x.er :: ers r
mutual
theorem er_fz : ∀ t : T, t.er.fz = true
  | .non => rfl
  | .bl _ => rfl
  | .int _ => rfl
  | .str _ => rfl
  | .scr _ => rfl
  | .lst _ xs => by simp only [T.er, T.fz, erL_fz xs, Bool.not_false, Bool.and_self]
  | .tup _ xs => by simp only [T.er, T.fz, erL_fz xs, Bool.not_false, Bool.and_self]
  | .dic _ _ xs => by simp only [T.er, T.fz, erL_fz xs, Bool.not_false, Bool.and_self]
  | .dtu _ _ xs => by simp only [T.er, T.fz, erL_fz xs, Bool.not_false, Bool.and_self]
theorem erL_fz : ∀ ts : List T, fzL (erL ts) = true
  | [] => rfl
  | x :: r => by simp only [erL, fzL, er_fz x, erL_fz r, Bool.and_self]
end
def cCall (g : Fn) (m : List Bool) (a : Ea) : Ev := fun env => match a env with
  | some (os, e) => match cArgs m (ers os) e with
    | some (ts, e1) => match g ts with
      | some (r, outs) => some (.t r, cBack m (ers os) outs e1)
      | none => none
    | none => none
  | none => none
theorem RlOs.ers {vs : List V} {os : List Opd} (d : Dis F O) {fs : List Addr} (al : ∀ a ∈ fs, ∃ o, O a = some o) (h : RlOs K σ F O vs os fp) (hf : ∀ a ∈ fp, a ∈ fs) : RlOs K σ (toF F O fs) (offO O fs) vs (LP.ers os) [] := by
  induction h with
  | nil => exact .nil
  | cons h r ih =>
    next v o f0 vs os fs0 =>
    have ih := ih fun a z => hf a (List.mem_append_right _ z)
    cases o with
    | s i =>
      obtain ⟨h1, rfl⟩ := h
      exact .cons (o := .s i) (f := []) (fs := []) ⟨h1, rfl⟩ ih
    | t x => exact .cons (o := .t x.er) (f := []) (fs := []) (Rl.erase d al (show Rl K F O v x f0 from h) fun a z => hf a (List.mem_append_left _ z)) ih
/-- the arguments come out of their slots -/
theorem args_out : ∀ {m : List Bool} {os : List Opd} {vs : List V} {env env1 : Env} {ts : List T} {f : List Addr}, RlOs K σ F O vs os [] → RlE K F O σ env f → cArgs m os env = some (ts, env1) →
    ∃ g f1, Rls K F O vs ts g ∧ RlE K F O σ env1 f1 ∧ (∀ a, g.count a + f1.count a = f.count a) ∧
      ∀ (F' O' : Hp) (outs : List T) (g' f1' : List Addr), Rls K F' O' vs outs g' → ∀ env2, RlE K F' O' σ env2 f1' → ∃ f2, RlE K F' O' σ (cBack m os outs env2) f2 ∧ ∀ a, f2.count a ≤ g'.count a + f1'.count a
  | [], [], vs, env, env1, ts, f, h, e, w => by
    cases w
    cases h
    exact ⟨[], f, .nil, e, fun a => by rw [List.count_nil]; omega, fun F' O' outs g' f1' r env2 e2 => ⟨f1', e2, fun a => Nat.le_add_left _ _⟩⟩
  | true :: m, .s i :: os, vs, env, env1, ts, f, h, e, w => by
    simp only [cArgs] at w
    split at w
    · next t ht =>
      split at w
      · next us e2 hu =>
        cases w
        generalize hz : ([] : List Addr) = z at h
        cases h with
        | cons h r =>
          next v g0 vs gs =>
          obtain ⟨hv, rfl⟩ := h
          have hz : gs = [] := by simpa using hz.symm
          subst hz
          obtain ⟨v', fp, f0, k1, k2, k3, k4⟩ := e.out ht
          rw [hv] at k1
          cases k1
          obtain ⟨g, f1, m1, m2, m3, m4⟩ := args_out r k3 hu
          refine ⟨fp ++ g, f1, .cons k2 m1, m2, fun a => by rw [List.count_append]; have := m3 a; have := k4 a; omega, fun F' O' outs g' f1' ro env2 e2 => ?_⟩
          cases ro with
          | cons ho ro =>
            next t' g1 outs g2 =>
            obtain ⟨f3, n1, n2⟩ := e2.set (i := i) ho
            have eσ : σ.set i (some v) = σ := by
              apply List.ext_getElem?
              intro j
              rw [List.getElem?_set]
              split
              · next ij =>
                subst ij
                rw [hv]
                split
                · rfl
                · next hl => exact absurd (List.getElem?_eq_some_iff.mp hv).1 hl
              · rfl
            rw [eσ] at n1
            obtain ⟨f4, n3, n4⟩ := m4 F' O' outs g2 f3 ro _ n1
            exact ⟨f4, n3, fun a => by rw [List.count_append]; have := n4 a; have := n2 a; omega⟩
      · cases w
    · cases w
  | false :: m, .s i :: os, vs, env, env1, ts, f, h, e, w => by
    simp only [cArgs] at w
    split at w
    · next t ht =>
      split at w
      · next fz =>
        split at w
        · next us e2 hu =>
          cases w
          generalize hz : ([] : List Addr) = z at h
          cases h with
          | cons h r =>
            next v g0 vs gs =>
            obtain ⟨hv, rfl⟩ := h
            have hz : gs = [] := by simpa using hz.symm
            subst hz
            obtain ⟨v', fp, k1, k2, k3⟩ := e.get ht
            rw [hv] at k1
            cases k1
            obtain ⟨g, f1, m1, m2, m3, m4⟩ := args_out r e hu
            refine ⟨[] ++ g, f1, .cons (k2.own0 fz) m1, m2, m3, fun F' O' outs g' f1' ro env2 e2 => ?_⟩
            cases ro with
            | cons ho ro =>
              obtain ⟨f4, n3, n4⟩ := m4 F' O' _ _ f1' ro _ e2
              exact ⟨f4, n3, fun a => by rw [List.count_append]; have := n4 a; omega⟩
        · cases w
      · cases w
    · cases w
  | false :: m, .t x :: os, vs, env, env1, ts, f, h, e, w => by
    simp only [cArgs] at w
    split at w
    · next fz =>
      split at w
      · next us e2 hu =>
        cases w
        generalize hz : ([] : List Addr) = z at h
        cases h with
        | cons h r =>
          next v g0 vs gs =>
          have hz2 : g0 = [] ∧ gs = [] := by simpa using hz.symm
          obtain ⟨rfl, rfl⟩ := hz2
          obtain ⟨g, f1, m1, m2, m3, m4⟩ := args_out r e hu
          refine ⟨[] ++ g, f1, .cons (show Rl K F O v x [] from h) m1, m2, m3, fun F' O' outs g' f1' ro env2 e2 => ?_⟩
          cases ro with
          | cons ho ro =>
            obtain ⟨f4, n3, n4⟩ := m4 F' O' _ _ f1' ro _ e2
            exact ⟨f4, n3, fun a => by rw [List.count_append]; have := n4 a; omega⟩
      · cases w
    · cases w
  | [], _ :: _, _, _, _, _, _, _, _, w => by simp [cArgs] at w
  | _ :: _, [], _, _, _, _, _, _, _, w => by simp [cArgs] at w
  | true :: m, .t x :: os, _, _, _, _, _, _, _, w => by simp [cArgs] at w
theorem RlOs.len {vs : List V} {os : List Opd} (h : RlOs K σ F O vs os fp) : vs.length = os.length := by
  induction h with
  | nil => rfl
  | cons _ _ ih => rw [List.length_cons, List.length_cons, ih]
theorem cArgs_len : ∀ {m : List Bool} {os : List Opd} {env env1 : Env} {ts : List T}, cArgs m os env = some (ts, env1) → ts.length = m.length
  | [], [], _, _, _, w => by cases w; rfl
  | true :: m, .s i :: os, env, env1, ts, w => by
    simp only [cArgs] at w
    split at w
    · split at w
      · next hu => cases w; rw [List.length_cons, List.length_cons, cArgs_len hu]
      · cases w
    · cases w
  | false :: m, .s i :: os, env, env1, ts, w => by
    simp only [cArgs] at w
    split at w
    · split at w
      · split at w
        · next hu => cases w; rw [List.length_cons, List.length_cons, cArgs_len hu]
        · cases w
      · cases w
    · cases w
  | false :: m, .t x :: os, env, env1, ts, w => by
    simp only [cArgs] at w
    split at w
    · split at w
      · next hu => cases w; rw [List.length_cons, List.length_cons, cArgs_len hu]
      · cases w
    · cases w
  | [], _ :: _, _, _, _, w => by simp [cArgs] at w
  | _ :: _, [], _, _, _, w => by simp [cArgs] at w
  | true :: m, .t x :: os, _, _, _, w => by simp [cArgs] at w
theorem eCall {ta : TA} {a : Ea} {g : Fn} {m : List Bool} {E : XK} (ha : ASnd K ta a) : ESnd K (tCall (spF K m.length g) [] E ta) (cCall g m a) := by
  intro env o env' h σ F O f a0 Q q
  simp only [cCall] at h
  split at h
  · next os e h1 =>
    split at h
    · next ts e1 h2 =>
      split at h
      · next r outs h3 =>
        cases h
        refine ha _ _ _ h1 σ F O f a0 _ fun vs F1 O1 fp1 f1 a1 s1 r1 => ?_
        have al := r1.alloc
        have d2 : Dis (toF F1 O1 fp1) (offO O1 fp1) := a1.d.toF
        have r2 := r1.ers a1.d al fun a z => z
        have sm := a1.d.same_toF al
        have kk : ∀ b ∈ f1, ∀ u, O1 b = some u → offO O1 fp1 b = some u := fun b z u e => by
          unfold offO
          rw [if_neg fun w => a1.nd.apart w z]
          exact e
        have e2 := a1.e.mono sm kk
        have j := jn_toF (F := F1) al
        obtain ⟨gg, f2, m1, m2, m3, m4⟩ := args_out r2 e2 h2
        have s12 : Stp F O f (toF F1 O1 fp1) (offO O1 fp1) f1 := by
          refine ⟨s1.f.trans sm, fun b u n e => ?_, fun b z => s1.n b (List.mem_append_right _ z), fun b n => ?_⟩
          · have e1 := s1.k b u n e
            unfold offO
            rw [if_neg fun w => ?_]
            · exact e1
            · rcases s1.n b (List.mem_append_left _ w) with q | q
              · exact n q
              · rw [jn_O e] at q; cases q
          · rw [j]; exact s1.g b n
        have n1 := a1.nd.right
        have ngf : Nd (gg ++ f2) := n1.sub fun a => by rw [List.count_append]; have := m3 a; omega
        rw [← j, List.append_nil]
        refine ⟨_, _, ts, gg, r, outs, ?_, rfl, d2, m1, ngf.left, h3, fun v F3 O3 fp3 g3 d3 s3 r3 ro n3 => ?_⟩
        · rw [m1.len, cArgs_len h2]
        · have e3 : RlE K F3 O3 σ e1 f2 := m2.mono s3.f fun a z o e => s3.k a o (fun w => ngf.apart w z) e
          obtain ⟨f4, k1, k2⟩ := m4 F3 O3 outs g3 f2 ro e1 e3
          have big : Nd ((fp3 ++ g3) ++ f2) := n3.of ngf.right fun a z w => by
            rcases s3.n a z with q | q
            · exact ngf.apart q w
            · obtain ⟨o, e⟩ := m2.alloc a w
              rw [jn_O e] at q
              cases q
          refine q v F3 O3 fp3 f4 ⟨d3, k1, big.sub fun a => by simp only [List.count_append]; have := k2 a; omega⟩ (s12.trans ⟨s3.f, fun a o z e => s3.k a o (fun w => z ?_) e, fun a z => ?_, s3.g⟩) r3
          · rw [mem_count] at w ⊢
            have := m3 a
            omega
          · have z' : a ∈ fp3 ++ g3 ∨ a ∈ f2 := by
              rw [mem_count, List.count_append] at z
              rw [mem_count, mem_count, List.count_append]
              have := k2 a
              omega
            rcases z' with w | w
            · rcases s3.n a w with q | q
              · refine .inl ?_
                rw [mem_count] at q ⊢
                have := m3 a
                omega
              · exact .inr q
            · refine .inl ?_
              rw [mem_count] at w ⊢
              have := m3 a
              omega
      · cases h
    · cases h
  · cases h
end
end LP
set_option maxRecDepth 100000
/-! LP: what is lent; comprehensions; a def's body. -/
namespace LP
open PySem L2
section
variable {K : PySem.W.Frag} {F O F' O' F1 O1 F2 O2 : Hp} {σ : L2.St} {env env' : Env} {f f1 f2 fp fp1 fp2 : List Addr} {pn : List Nat}

/-! ### lending -/
mutual
/-- no tuple in it is owned -/
def T.nt : T → Bool
  | .lst _ xs => ntL xs
  | .tup o xs => !o && ntL xs
  | .dic _ _ vs => ntL vs
  | .dtu _ _ vs => ntL vs
  | .non => true
  | .bl _ => true
  | .int _ => true
  | .str _ => true
  | .scr _ => true
def ntL : List T → Bool
  | [] => true
  | x :: r => x.nt && ntL r
end
def ntE : Env → Bool
  | [] => true
  | none :: r => ntE r
  | some t :: r => t.nt && ntE r
def erE : Env → Env
  | [] => []
  | none :: r => none :: erE r
  | some t :: r => some t.er :: erE r
mutual
theorem Rl.ld : ∀ {v : V} {t : T} {f : List Addr}, Rl K F O v t f → t.nt = true → ∀ a ∈ f, LD (O a)
  | _, _, _, .non, _, _, z => by cases z
  | _, _, _, .bl b, _, _, z => by cases z
  | _, _, _, .int b, _, _, z => by cases z
  | _, _, _, .str b, _, _, z => by cases z
  | _, _, _, .scr h, _, _, z => by cases z
  | _, _, _, .lstF h r, _, _, z => by cases z
  | _, _, _, .lstO h r, n, a, z => (List.mem_cons.mp z).elim (fun e => by rw [e, h]; exact .inl ⟨_, rfl⟩) (Rls.ld r (by simpa [T.nt] using n) a)
  | _, _, _, .tupF h r, _, _, z => by cases z
  | _, _, _, .tupO h r, n, a, z => by simp [T.nt] at n
  | _, _, _, .dicF h m r, _, _, z => by cases z
  | _, _, _, .dicO h m r, n, a, z => (List.mem_cons.mp z).elim (fun e => by rw [e, h]; exact .inr (.inl ⟨_, rfl⟩)) (Rls.ld r (by simpa [T.nt] using n) a)
  | _, _, _, .dtuF h m r, _, _, z => by cases z
  | _, _, _, .dtuO h m r, n, a, z => (List.mem_cons.mp z).elim (fun e => by rw [e, h]; exact .inr (.inr ⟨_, rfl⟩)) (Rls.ld r (by simpa [T.nt] using n) a)
theorem Rls.ld : ∀ {v : List V} {t : List T} {f : List Addr}, Rls K F O v t f → ntL t = true → ∀ a ∈ f, LD (O a)
  | _, _, _, .nil, _, _, z => by cases z
  | _, _, _, .cons h r, n, a, z => by
    rw [ntL, Bool.and_eq_true] at n
    exact (List.mem_append.mp z).elim (Rl.ld h n.1 a) (Rls.ld r n.2 a)
end
theorem RlE.ld : ∀ {σ : L2.St} {env : Env} {f : List Addr}, RlE K F O σ env f → ntE env = true → ∀ a ∈ f, LD (O a)
  | _, _, _, .nil, _, _, z => by cases z
  | _, _, _, .non r, n, a, z => RlE.ld r (by simpa [ntE] using n) a z
  | _, _, _, .som h r, n, a, z => by
    rw [ntE, Bool.and_eq_true] at n
    exact (List.mem_append.mp z).elim (h.ld n.1 a) (RlE.ld r n.2 a)
theorem RlE.erase (d : Dis F O) {fs : List Addr} (al : ∀ a ∈ fs, ∃ o, O a = some o) : ∀ {σ : L2.St} {env : Env} {f : List Addr}, RlE K F O σ env f → (∀ a ∈ f, a ∈ fs) → RlE K (toF F O fs) (offO O fs) σ (erE env) []
  | _, _, _, .nil, _ => .nil
  | _, _, _, .non r, k => .non (RlE.erase d al r k)
  | _, _, _, .som h r, k => .som (f := []) (fs := []) (h.erase d al fun a z => k a (List.mem_append_left _ z)) (RlE.erase d al r fun a z => k a (List.mem_append_right _ z))
/-- all that the slots own is lent while it is reckoned; what comes back holds no list of another's -/
def cLend (a : Ev) : Ev := fun env => if ntE env then match a (erE env) with
  | some (.t r, _) => if r.nl then some (.t r, env) else none
  | _ => none
  else none
theorem eLend {ta : TE} {a : Ev} (ha : ESnd K ta a) : ESnd K ta (cLend a) := by
  intro env o env' h σ F O f a0 Q q
  simp only [cLend] at h
  split at h
  · next hn =>
    split at h
    · next r e h1 =>
      split at h
      · next hr =>
        cases h
        have al := a0.e.alloc
        have j := jn_toF (F := F) al
        have e1 := a0.e.erase a0.d al fun a z => z
        have d1 : Dis (toF F O f) (offO O f) := a0.d.toF
        rw [← j]
        refine ha _ _ _ h1 σ _ _ [] ⟨d1, e1, Nd.nil⟩ _ fun v F1 O1 fp f1 a1 s1 r1 => ?_
        have r1 : Rl K F1 O1 v r fp := r1
        have hF : ∀ a ∈ f, F1 a = O a := fun a z => by
          obtain ⟨u, hu⟩ := al a z
          have : toF F O f a = some u := by unfold toF; rw [if_pos z]; exact hu
          rw [s1.f a u this, hu]
        have hO : ∀ a ∈ f, O1 a = none := fun a z => by
          obtain ⟨u, hu⟩ := al a z
          exact a1.d.noO ((hF a z).trans hu)
        have ld : ∀ a ∈ f, LD (F1 a) := fun a z => by rw [hF a z]; exact a0.e.ld hn a z
        have rb := Rl.back (O1 := O) ld hO r1 hr
        have jj : jn (backF F1 f) (backO O O1 f) = jn F1 O1 := by
          funext a
          by_cases z : a ∈ f
          · obtain ⟨u, hu⟩ := al a z
            rw [jn_O (show backO O O1 f a = some u by unfold backO; rw [if_pos z]; exact hu), a1.d.jn_F ((hF a z).trans hu)]
          · unfold jn backO backF
            rw [if_neg z, if_neg z]
        have sF : Same F (backF F1 f) := fun a u e => by
          have z : a ∉ f := fun z => by
            obtain ⟨w, hw⟩ := al a z
            rw [a0.d.noO e] at hw
            cases hw
          unfold backF
          rw [if_neg z]
          exact s1.f a u (a0.d.same_toF al a u e)
        have kO : ∀ a u, O a = some u → backO O O1 f a = some u := fun a u e => by
          unfold backO
          by_cases z : a ∈ f
          · rw [if_pos z]; exact e
          · rw [if_neg z]
            exact s1.k a u (fun w => by cases w) (show offO O f a = some u by unfold offO; rw [if_neg z]; exact e)
        have dd : Dis (backF F1 f) (backO O O1 f) := fun a => by
          unfold backF backO
          by_cases z : a ∈ f
          · rw [if_pos z]; exact .inl rfl
          · rw [if_neg z, if_neg z]; exact a1.d a
        have new : ∀ a ∈ fp, jn F O a = none := fun a z => by
          rcases s1.n a (List.mem_append_left _ z) with q | q
          · cases q
          · rw [j] at q; exact q
        rw [← jj]
        refine q v _ _ fp f ⟨dd, a0.e.mono sF fun a _ u e => kO a u e, a1.nd.left.of a0.nd.right fun a z w => ?_⟩ ⟨sF, fun a u _ e => kO a u e, fun a z => ?_, fun a z => ?_⟩ rb
        · obtain ⟨u, hu⟩ := al a w
          have := new a z
          rw [jn_O hu] at this
          cases this
        · rcases List.mem_append.mp z with w | w
          · exact .inr (new a w)
          · exact .inl w
        · rw [jj]
          refine s1.g a ?_
          rw [j]
          exact z
      · cases h
    · cases h
  · cases h

/-! ### comprehensions -/
def wipeE (env : Env) : List Nat → Env
  | [] => env
  | v :: vs => (wipeE env vs).set v none
theorem RlE.kill {x : Option V} : ∀ {σ : L2.St} {env : Env} {f : List Addr} {i : Nat}, RlE K F O σ env f → ∃ f', RlE K F O (σ.set i x) (env.set i none) f' ∧ ∀ a, f'.count a ≤ f.count a
  | _, _, _, _, .nil => ⟨[], .nil, fun _ => Nat.le_refl _⟩
  | _, _, _, 0, .non (fs := fs) r => ⟨fs, .non r, fun _ => Nat.le_refl _⟩
  | _, _, _, i + 1, .non r => by
    obtain ⟨f', h1, h2⟩ := RlE.kill (i := i) r
    exact ⟨f', .non h1, h2⟩
  | _, _, _, 0, .som (fs := fs) h r => ⟨fs, .non r, fun a => by rw [List.count_append]; omega⟩
  | _, _, _, i + 1, .som (f := f0) h r => by
    obtain ⟨f', h1, h2⟩ := RlE.kill (i := i) r
    exact ⟨f0 ++ f', .som h h1, fun a => by rw [List.count_append, List.count_append]; have := h2 a; omega⟩
theorem RlE.wipe (e : RlE K F O σ env f) : ∀ vs : List Nat, ∃ f', RlE K F O (L2.wipe σ vs) (wipeE env vs) f' ∧ ∀ a, f'.count a ≤ f.count a
  | [] => ⟨f, e, fun _ => Nat.le_refl _⟩
  | v :: vs => by
    obtain ⟨f1, h1, h2⟩ := RlE.wipe e vs
    obtain ⟨f2, h3, h4⟩ := h1.kill (i := v) (x := none)
    exact ⟨f2, h3, fun a => Nat.le_trans (h4 a) (h2 a)⟩
theorem RlE.cong : ∀ {σ σ' : L2.St} {env : Env} {f : List Addr}, RlE K F O σ env f → σ'.length = σ.length → (∀ (i : Nat) (t : T), env[i]? = some (some t) → σ'[i]? = σ[i]?) → RlE K F O σ' env f
  | _, [], _, _, .nil, _, _ => .nil
  | _, [], _, _, .non _, l, _ => by simp at l
  | _, [], _, _, .som _ _, l, _ => by simp at l
  | _, _ :: _, _, _, .nil, l, _ => by simp at l
  | _, y :: s, _, _, .non r, l, k => .non (RlE.cong r (by simpa using l) fun i t e => by simpa using k (i + 1) t (by simpa using e))
  | _, y :: s, _, _, .som (v := v0) h r, l, k => by
    have e := k 0 _ rfl
    have e : y = some v0 := by simpa using e
    rw [e]
    exact .som h (RlE.cong r (by simpa using l) fun i t e => by simpa using k (i + 1) t (by simpa using e))
theorem wipeE_at {env : Env} {i : Nat} {t : T} : ∀ {vs : List Nat}, (wipeE env vs)[i]? = some (some t) → env[i]? = some (some t) ∧ i ∉ vs
  | [], h => ⟨h, by simp⟩
  | v :: vs, h => by
    unfold wipeE at h
    rw [List.getElem?_set] at h
    split at h
    · split at h <;> cases h
    · next ne =>
      obtain ⟨h1, h2⟩ := wipeE_at h
      exact ⟨h1, by simp only [List.mem_cons, not_or]; exact ⟨fun e => ne e.symm, h2⟩⟩
theorem wipe_at {σ : L2.St} {i : Nat} : ∀ {vs : List Nat}, i ∉ vs → (L2.wipe σ vs)[i]? = σ[i]?
  | [], _ => rfl
  | v :: vs, h => by
    unfold L2.wipe
    rw [List.getElem?_set, if_neg fun e => h (by rw [e]; exact List.mem_cons_self ..)]
    exact wipe_at fun z => h (List.mem_cons_of_mem _ z)
theorem wipe_same {σ σ2 : L2.St} {vs : List Nat} (l : σ2.length = σ.length) (h : ∀ i, i ∉ vs → σ2[i]? = σ[i]?) : L2.wipe σ2 vs = L2.wipe σ vs := by
  apply List.ext_getElem?
  intro i
  by_cases z : i ∈ vs
  · have : ∀ (τ : L2.St) (ws : List Nat), i ∈ ws → (L2.wipe τ ws)[i]? = if i < τ.length then some none else none := by
      intro τ ws
      induction ws with
      | nil => intro z; cases z
      | cons v ws ih =>
        intro z
        unfold L2.wipe
        rw [List.getElem?_set, wipe_length]
        split
        · next e => subst e; rfl
        · next e =>
          refine ih ?_
          rcases List.mem_cons.mp z with q | q
          · exact absurd q.symm e
          · exact q
    rw [this _ _ z, this _ _ z, l]
  · rw [wipe_at z, wipe_at z, h i z]
theorem wipe_wipe {σ : L2.St} {vs : List Nat} : L2.wipe (L2.wipe σ vs) vs = L2.wipe σ vs := wipe_same (wipe_length ..) fun i z => wipe_at z
/-- the block's own slots, as they stood: nothing or something free -/
def bring (env0 : Env) : List Nat → Env → Option Env
  | [], e => some e
  | v :: vs, e => match bring env0 vs e with
    | some e1 => match env0[v]? with
      | some (some t) => if t.fz then some (e1.set v (some t)) else none
      | _ => some e1
    | none => none
theorem set_self {v : V} {i : Nat} (h : σ[i]? = some (some v)) : σ.set i (some v) = σ := by
  apply List.ext_getElem?
  intro j
  rw [List.getElem?_set]
  split
  · next ij =>
    subst ij
    rw [h]
    split
    · rfl
    · next hl => exact absurd (List.getElem?_eq_some_iff.mp h).1 hl
  · rfl
theorem RlE.bring {env0 : Env} {f0 : List Addr} (e0 : RlE K F O σ env0 f0) (s : Same F F') : ∀ {vs : List Nat} {e e' : Env} {g : List Addr}, RlE K F' O' σ e g → LP.bring env0 vs e = some e' → ∃ g', RlE K F' O' σ e' g' ∧ ∀ a, g'.count a ≤ g.count a
  | [], e, e', g, r, h => by cases h; exact ⟨g, r, fun _ => Nat.le_refl _⟩
  | v :: vs, e, e', g, r, h => by
    simp only [LP.bring] at h
    split at h
    · next e1 h1 =>
      obtain ⟨g1, r1, c1⟩ := RlE.bring e0 s r h1
      split at h
      · next t ht =>
        split at h
        · next z =>
          cases h
          obtain ⟨w, fq, k1, k2, _⟩ := e0.get ht
          obtain ⟨g2, r2, c2⟩ := r1.set (i := v) ((k2.own0 z).mono (O' := O') s fun a z => by cases z)
          rw [set_self k1] at r2
          exact ⟨g2, r2, fun a => by have h2 := c2 a; have h1 := c1 a; rw [List.count_nil] at h2; omega⟩
        · cases h
      · cases h
        exact ⟨g1, r1, c1⟩
    · cases h
def lcLoop (vs : List Nat) (g : Tg) (c : Et) (a : Ev) : List T → List T → Env → Option (List T × Env)
  | [], acc, env => some (acc, env)
  | x :: r, acc, env => match g x (wipeE env vs) with
    | some e1 => match c e1 with
      | some (true, e2) => match a e2 with
        | some (o, e3) => match sto e3 o with
          | some t => if acc.length < sizeLine then lcLoop vs g c a r (acc ++ [t]) (wipeE e3 vs) else none
          | none => none
        | none => none
      | some (false, e2) => lcLoop vs g c a r acc (wipeE e2 vs)
      | none => none
    | none => none
/-- [a for g in it if c]; vs: the block's own slots, n: how many slots there are -/
def cLc (n : Nat) (vs : List Nat) (it : It) (g : Tg) (c : Et) (a : Ev) : Ev := fun env => match it env with
  | some (items, e) => if e.length ≤ n then match lcLoop vs g c a items [] (wipeE e vs) with
    | some (ts, e2) => match bring e vs e2 with
      | some e3 => some (.t (.lst true ts), e3)
      | none => none
    | none => none
    else none
  | none => none
theorem lcLoop_wiped {vs : List Nat} {g : Tg} {c : Et} {a : Ev} : ∀ {items acc ts : List T} {env env' : Env}, lcLoop vs g c a items acc env = some (ts, env') → (∀ i ∈ vs, ∀ t, env[i]? ≠ some (some t)) → ∀ i ∈ vs, ∀ t, env'[i]? ≠ some (some t)
  | [], acc, ts, env, env', h, k => by cases h; exact k
  | x :: r, acc, ts, env, env', h, k => by
    simp only [lcLoop] at h
    have wp : ∀ (e : Env), ∀ i ∈ vs, ∀ t, (wipeE e vs)[i]? ≠ some (some t) := fun e i hi t z => (wipeE_at z).2 hi
    split at h
    · split at h
      · split at h
        · split at h
          · split at h
            · exact lcLoop_wiped h (wp _)
            · cases h
          · cases h
        · cases h
      · exact lcLoop_wiped h (wp _)
      · cases h
    · cases h
theorem eLc {wi : TI} {it : It} {tg : TG} {g : Tg} {tt : TT} {c : Et} {te : TE} {a : Ev} {n : Nat} {vs : List Nat} (hp : ∀ i, i < n → i ∉ vs → i ∈ pn) (hi : WSnd K wi it) (hg : GSnd K pn tg g) (hc : TSnd K tt c) (ha : ESnd K te a) :
    ESnd K (tLc wi tg tt te vs) (cLc n vs it g c a) := by
  intro env o env' h σ F O f a0 Q q
  simp only [cLc] at h
  split at h
  · next items e h1 =>
    split at h
    · next hn =>
      split at h
      · next ts e2 h2 =>
        split at h
        · next e3 h3 =>
          cases h
          refine hi _ _ _ h1 σ F O f a0 _ fun J F1 O1 f1 a1 s1 y D hD => ?_
          obtain ⟨fw, ew, cw⟩ := a1.e.wipe vs
          have hl1 : σ.length = e.length := a1.e.len
          -- the invariant: the new list at D, the slots wiped
          refine ⟨fun i m H => ∃ env2 F2 O2 f2 acc vsd fd, H = jn F2 O2 ∧ m = items.length - i ∧ Dis F2 O2 ∧ RlE K F2 O2 (L2.wipe σ vs) env2 f2 ∧ Rls K F2 O2 vsd acc fd ∧ O2 D = some (.lst vsd) ∧ Nd ((D :: fd) ++ f2) ∧ Stp F1 O1 f1 F2 O2 ((D :: fd) ++ f2) ∧ lcLoop vs g c a (items.drop i) acc env2 = some (ts, e2) ∧ (∀ i ∈ vs, ∀ t, env2[i]? ≠ some (some t)),
            ⟨items.length, wipeE e vs, F1, upd O1 D (.lst []), fw, [], [], [], upd_jn, rfl, a1.d.updO (jn_none hD).1, ew.mono (Same.refl F1) fun a z u e => ?_, .nil, upd_same, ?_, ?_, h2, fun i hi t z => (wipeE_at z).2 hi⟩, ?_⟩
          · rw [upd_ne fun z => by rw [z, (jn_none hD).2] at e; cases e]
            exact e
          · refine Nd.of (fun a => Nat.le_trans (List.count_le_length ..) (Nat.le_refl _)) (a1.nd.right.sub cw) fun a z w => ?_
            rw [List.mem_singleton.mp z, mem_count] at w
            have := cw D
            obtain ⟨u, hu⟩ := a1.e.alloc D (mem_count.mpr (by omega))
            rw [(jn_none hD).2] at hu
            cases hu
          · have s2 := (Stp.newO (F := F1) (O := O1) (p := D) (o := .lst []) (gs := [D]) hD fun a z => List.mem_singleton.mp z).frame (hs := f1)
            rw [List.append_nil] at s2
            refine s2.less fun a z => ?_
            rcases List.mem_append.mp z with w | w
            · exact List.mem_append_right _ w
            · refine List.mem_append_left _ ?_
              rw [mem_count] at w ⊢
              have := cw a
              omega
          · rintro i m H ⟨env2, F2, O2, f2, acc, vsd, fd, rfl, rfl, d2, r2, rl2, hD2, n2, s2, l2, w2⟩
            obtain ⟨y1, y2⟩ := y F2 O2 s2.f d2 i
            by_cases hl : items.length ≤ i
            · rw [List.drop_eq_nil_of_le hl] at l2
              simp only [lcLoop] at l2
              obtain ⟨rfl, rfl⟩ := Prod.mk.inj (Option.some.inj l2)
              refine .inl ⟨y2 hl, ?_⟩
              -- back to the slots as they stood
              have r3 : RlE K F2 O2 σ env2 f2 := r2.cong (wipe_length ..).symm fun j t hj => (wipe_at fun hv => w2 j hv t hj).symm
              obtain ⟨g', r4, c4⟩ := RlE.bring a1.e s2.f r3 h3
              refine q _ F2 O2 (D :: fd) g' ⟨d2, r4, n2.sub fun a => by rw [List.count_append, List.count_append]; have := c4 a; omega⟩ (s1.trans (s2.less fun a z => ?_)) (Rl.lstO hD2 rl2)
              rcases List.mem_append.mp z with w | w
              · exact List.mem_append_left _ w
              · refine List.mem_append_right _ ?_
                rw [mem_count] at w ⊢
                have := c4 a
                omega
            · have hlt : i < items.length := Nat.lt_of_not_le hl
              rw [List.drop_eq_getElem_cons hlt] at l2
              obtain ⟨go, yl⟩ := y1 _ (List.getElem?_eq_getElem hlt)
              refine .inr ⟨go, fun H' => ∃ env2 F2 O2 f2 acc vsd fd, H' = jn F2 O2 ∧ Dis F2 O2 ∧ RlE K F2 O2 (L2.wipe σ vs) env2 f2 ∧ Rls K F2 O2 vsd acc fd ∧ O2 D = some (.lst vsd) ∧ Nd ((D :: fd) ++ f2) ∧ Stp F1 O1 f1 F2 O2 ((D :: fd) ++ f2) ∧ lcLoop vs g c a (items.drop (i + 1)) acc env2 = some (ts, e2) ∧ (∀ i ∈ vs, ∀ t, env2[i]? ≠ some (some t)), ?_, fun x H' yx => ?_⟩
              · rintro H' ⟨env', F', O', f', acc', vsd', fd', rfl, b⟩
                exact ⟨items.length - (i + 1), by omega, env', F', O', f', acc', vsd', fd', rfl, rfl, b⟩
              · obtain ⟨F3, O3, rfl, d3, s3, r3⟩ := yl x H' yx
                simp only [lcLoop] at l2
                split at l2
                · next e4 h4 =>
                  obtain ⟨f2w, r2w, c2w⟩ := r2.wipe vs
                  rw [wipe_wipe] at r2w
                  have n2w : Nd f2w := n2.right.sub c2w
                  have a3 : At K (L2.wipe σ vs) F3 O3 (wipeE env2 vs) [] f2w := ⟨d3, r2w.mono s3.f fun a z o e => s3.none_k a o e, n2w⟩
                  -- what stands by: the new list and its items
                  have k23 : ∀ a o, O2 a = some o → O3 a = some o := s3.none_k
                  have ap : ∀ a ∈ D :: fd, a ∉ f2w := fun a z w => n2.apart z (by rw [mem_count] at w ⊢; have := c2w a; omega)
                  have nD : Nd ((D :: fd) ++ f2w) := n2.left.of n2w ap
                  have al3 : ∀ a ∈ D :: fd, ∃ o, O3 a = some o := fun a z => (List.mem_cons.mp z).elim (fun e => ⟨_, e ▸ k23 _ _ hD2⟩) fun w => by
                    obtain ⟨o, e⟩ := rl2.alloc a w
                    exact ⟨o, k23 _ _ e⟩
                  have s13 : Stp F1 O1 f1 F3 O3 ((D :: fd) ++ f2w) := by
                    have s4 := s3.frame (hs := (D :: fd) ++ f2)
                    rw [List.append_nil] at s4
                    refine (s2.trans s4).less fun a z => ?_
                    rcases List.mem_append.mp z with w | w
                    · exact List.mem_append_left _ w
                    · refine List.mem_append_right _ ?_
                      rw [mem_count] at w ⊢
                      have := c2w a
                      omega
                  refine hg _ _ _ h4 x _ F3 O3 [] f2w a3 r3 _ fun σ4 F4 O4 f4 a4 s4 p4 => ?_
                  have e24 : L2.wipe σ4 vs = L2.wipe σ vs := by
                    have hl4 : σ4.length = (L2.wipe σ vs).length := p4.l
                    rw [← wipe_wipe (σ := σ)]
                    refine wipe_same hl4 fun j hj => ?_
                    by_cases hjn : j < n
                    · exact p4.s j (hp j hjn hj)
                    · rw [List.getElem?_eq_none (by rw [hl4, wipe_length, hl1]; omega), List.getElem?_eq_none (by rw [wipe_length, hl1]; omega)]
                  refine ⟨e24, ?_⟩
                  have hD3 := k23 _ _ hD2
                  have rl3 : Rls K F3 O3 vsd acc fd := rl2.mono s3.f fun a _ o e => k23 a o e
                  have s4 : Stp F3 O3 f2w F4 O4 f4 := s4
                  split at l2
                  · next e5 h5 =>
                    split at l2
                    · next o6 e6 h6 =>
                      split at l2
                      · next t ht =>
                        split at l2
                        · next hz =>
                          refine hc _ _ _ h5 σ4 F4 O4 f4 a4 _ fun F5 O5 f5 a5 s5 => ?_
                          rw [if_pos rfl]
                          refine ha _ _ _ h6 σ4 F5 O5 f5 a5 _ fun v6 F6 O6 fp6 f6 a6 s6 r6 => ?_
                          have s46 := (s4.trans s5).trans s6
                          have n6 : Nd ((D :: fd) ++ (fp6 ++ f6)) := s46.nd al3 nD a6.nd
                          have hD6 : O6 D = some (.lst vsd) := s46.k _ _ (ap D (List.mem_cons_self ..)) hD3
                          have rl6 : Rls K F6 O6 vsd acc fd := s46.keeps rl3 fun a z => ap a (List.mem_cons_of_mem _ z)
                          have rt := r6.store a6.e ht
                          obtain ⟨f7, r7, c7⟩ := a6.e.wipe vs
                          rw [e24] at r7
                          have np : ∀ {l : List Addr}, l.count D = 0 → ∀ a ∈ l, ∀ o, O6 a = some o → upd O6 D (.lst (vsd ++ [v6])) a = some o := fun z a w o e => by
                            rw [upd_ne fun q => by rw [q, mem_count] at w; omega]
                            exact e
                          have m6 := n6 D
                          simp only [List.count_append, List.count_cons, beq_self_eq_true, if_true] at m6
                          have c7D := c7 D
                          refine ⟨vsd, jn_O hD6, by rw [rl6.len]; exact hz, wipeE e6 vs, F6, upd O6 D (.lst (vsd ++ [v6])), f7, acc ++ [t], vsd ++ [v6], fd ++ (fp6 ++ []), upd_jn, a6.d.updO (a6.d.noF hD6), r7.mono (Same.refl _) (np (by omega)), ?_, upd_same, ?_, ?_, l2, fun i hi t z => (wipeE_at z).2 hi⟩
                          · exact ((rl6.append (.cons rt .nil))).mono (Same.refl _) (np (by simp only [List.count_append, List.count_nil]; omega))
                          · refine n6.sub fun a => ?_
                            have := c7 a
                            simp only [List.count_append, List.count_cons, List.count_nil]
                            omega
                          · have s7 := s13.trans (s46.frame (hs := D :: fd))
                            refine ⟨s7.f, fun a o z e => ?_, fun a z => s7.n a ?_, fun a z => ?_⟩
                            · rw [upd_ne fun q => ?_]
                              · exact s7.k a o z e
                              · rcases s7.n D (List.mem_append_left _ (List.mem_cons_self ..)) with w | w
                                · exact z (q ▸ w)
                                · rw [q] at e; rw [jn_O e] at w; cases w
                            · rw [mem_count] at z ⊢
                              have := c7 a
                              simp only [List.count_append, List.count_cons, List.count_nil] at z ⊢
                              omega
                            · rw [← upd_jn]
                              by_cases w : a = D
                              · rw [w, upd_same]; exact fun z => nomatch z
                              · rw [upd_ne w]; exact s7.g a z
                        · cases l2
                      · cases l2
                    · cases l2
                  · next e5 h5 =>
                    refine hc _ _ _ h5 σ4 F4 O4 f4 a4 _ fun F5 O5 f5 a5 s5 => ?_
                    rw [if_neg Bool.false_ne_true]
                    have s45 := s4.trans s5
                    have n5 : Nd ((D :: fd) ++ f5) := s45.nd al3 nD a5.nd
                    have hD5 : O5 D = some (.lst vsd) := s45.k _ _ (ap D (List.mem_cons_self ..)) hD3
                    have rl5 : Rls K F5 O5 vsd acc fd := s45.keeps rl3 fun a z => ap a (List.mem_cons_of_mem _ z)
                    obtain ⟨f7, r7, c7⟩ := a5.e.wipe vs
                    rw [e24] at r7
                    refine ⟨wipeE e5 vs, F5, O5, f7, acc, vsd, fd, rfl, a5.d, r7, rl5, hD5, n5.sub fun a => ?_, (s13.trans (s45.frame (hs := D :: fd))).less fun a z => ?_, l2, fun i hi t z => (wipeE_at z).2 hi⟩
                    · have := c7 a
                      simp only [List.count_append, List.count_cons]
                      omega
                    · rw [mem_count] at z ⊢
                      have := c7 a
                      simp only [List.count_append, List.count_cons] at z ⊢
                      omega
                  · cases l2
                · cases l2
        · cases h
      · cases h
    · cases h
  · cases h

/-! ### a def's body -/
def outsOf : List Bool → List T → Env → Option (List T)
  | true :: m, _ :: ts, some t :: env => match outsOf m ts env with
    | some us => some (t :: us)
    | none => none
  | false :: m, t :: ts, _ :: env => if t.fz then match outsOf m ts env with
    | some us => some (t :: us)
    | none => none
    else none
  | [], [], _ => some []
  | _, _, _ => none
/-- a def's body as a function on trees: m: which parameters it may change, n: how many slots -/
def runB (m : List Bool) (n : Nat) (b : S) : Fn := fun ts => match b (ts.map some ++ List.replicate (n - ts.length) none) with
  | some (.rt t e) => match outsOf m ts e with
    | some us => some (t, us)
    | none => none
  | some (.nx e) => match outsOf m ts e with
    | some us => some (.non, us)
    | none => none
  | _ => none
def pins : List Bool → Nat → List Nat
  | [], _ => []
  | true :: m, i => i :: pins m (i + 1)
  | false :: m, i => pins m (i + 1)
theorem RlE.start : ∀ {vs : List V} {ts : List T} {f : List Addr} {n : Nat}, Rls K F O vs ts f → RlE K F O (vs.map some ++ List.replicate n none) (ts.map some ++ List.replicate n none) f
  | _, _, _, 0, .nil => .nil
  | _, _, _, n + 1, .nil => .non (RlE.start (n := n) .nil)
  | _, _, _, n, .cons h r => .som h (RlE.start r)
theorem outs_of (s : Same F F') : ∀ {m : List Bool} {ts us : List T} {env : Env} {σ : L2.St} {vs : List V} {f g : List Addr} {k : Nat} {σ0 : L2.St}, RlE K F' O' σ env f → Rls K F O vs ts g → outsOf m ts env = some us →
    (∀ i, i ∈ pins m k → ∃ j, i = k + j ∧ σ[j]? = σ0[i]?) → (∀ j v, vs[j]? = some v → σ0[k + j]? = some (some v)) → ∃ f', Rls K F' O' vs us f' ∧ ∀ a, f'.count a ≤ f.count a
  | [], [], us, env, σ, vs, f, g, k, σ0, e, r, w, hp, hv => by
    cases w
    cases r
    exact ⟨[], .nil, fun a => by rw [List.count_nil]; omega⟩
  | true :: m, t0 :: ts, us, some t :: env, σ, vs, f, g, k, σ0, e, r, w, hp, hv => by
    simp only [outsOf] at w
    split at w
    · next us2 hu =>
      cases w
      cases e with
      | som h e =>
        next v0 f0 σ fs =>
        cases r with
        | cons h0 r =>
          next v g0 vs gs =>
          obtain ⟨j, ej, e1⟩ := hp k (List.mem_cons_self ..)
          have ej : j = 0 := by omega
          subst ej
          have e2 := hv 0 v rfl
          have e3 : v0 = v := by
            rw [Nat.add_zero] at e2
            rw [e2] at e1
            simpa using e1
          subst e3
          have hp' : ∀ i, i ∈ pins m (k + 1) → ∃ j, i = k + 1 + j ∧ σ[j]? = σ0[i]? := fun i hi => by
            obtain ⟨j, rfl, e4⟩ := hp i (List.mem_cons_of_mem _ hi)
            have : j ≠ 0 := fun z => by
              subst z
              have : ∀ {m : List Bool} {i k : Nat}, i ∈ pins m k → k ≤ i := by
                intro m
                induction m with
                | nil => intro i k h; cases h
                | cons b m ih =>
                  intro i k h
                  cases b with
                  | true =>
                    rcases List.mem_cons.mp h with q | q
                    · omega
                    · have := ih q; omega
                  | false => have := ih h; omega
              exact absurd (this hi) (by omega)
            exact ⟨j - 1, by omega, by rw [← e4]; cases j with | zero => exact absurd rfl this | succ j => rfl⟩
          obtain ⟨f', k1, k2⟩ := outs_of s (k := k + 1) (σ0 := σ0) e r hu hp' (fun j v hj => by have := hv (j + 1) v hj; rw [← this, show k + 1 + j = k + (j + 1) by omega])
          exact ⟨f0 ++ f', .cons h k1, fun a => by rw [List.count_append, List.count_append]; have := k2 a; omega⟩
    · cases w
  | false :: m, t0 :: ts, us, x :: env, σ, vs, f, g, k, σ0, e, r, w, hp, hv => by
    simp only [outsOf] at w
    split at w
    · next fz =>
      split at w
      · next us2 hu =>
        cases w
        cases r with
        | cons h0 r =>
          next v g0 vs gs =>
          have tl : ∃ σt ft x0, σ = x0 :: σt ∧ RlE K F' O' σt env ft ∧ ∀ a, ft.count a ≤ f.count a := by
            cases e with
            | non e => exact ⟨_, _, _, rfl, e, fun _ => Nat.le_refl _⟩
            | som h e => exact ⟨_, _, _, rfl, e, fun a => by rw [List.count_append]; omega⟩
          obtain ⟨σt, ft, x0, rfl, e, ce⟩ := tl
          have hp' : ∀ i, i ∈ pins m (k + 1) → ∃ j, i = k + 1 + j ∧ σt[j]? = σ0[i]? := fun i hi => by
            obtain ⟨j, rfl, e4⟩ := hp i hi
            have : j ≠ 0 := fun z => by
              subst z
              have : ∀ {m : List Bool} {i k : Nat}, i ∈ pins m k → k ≤ i := by
                intro m
                induction m with
                | nil => intro i k h; cases h
                | cons b m ih =>
                  intro i k h
                  cases b with
                  | true =>
                    rcases List.mem_cons.mp h with q | q
                    · omega
                    · have := ih q; omega
                  | false => have := ih h; omega
              exact absurd (this hi) (by omega)
            exact ⟨j - 1, by omega, by rw [← e4]; cases j with | zero => exact absurd rfl this | succ j => rfl⟩
          obtain ⟨f', k1, k2⟩ := outs_of s (k := k + 1) (σ0 := σ0) e r hu hp' (fun j v hj => by have := hv (j + 1) v hj; rw [← this, show k + 1 + j = k + (j + 1) by omega])
          exact ⟨[] ++ f', .cons ((h0.own0 fz).mono s fun a z => by cases z) k1, fun a => by rw [List.nil_append]; have := k2 a; have := ce a; omega⟩
      · cases w
    · cases w
  | [], _ :: _, _, _, _, _, _, _, _, _, _, _, w, _, _ => by simp [outsOf] at w
  | true :: _, [], _, _, _, _, _, _, _, _, _, _, w, _, _ => by simp [outsOf] at w
  | false :: _, [], _, _, _, _, _, _, _, _, _, _, w, _, _ => by simp [outsOf] at w
  | true :: _, _ :: _, _, [], _, _, _, _, _, _, _, _, w, _, _ => by simp [outsOf] at w
  | true :: _, _ :: _, _, none :: _, _, _, _, _, _, _, _, _, w, _, _ => by simp [outsOf] at w
  | false :: _, _ :: _, _, [], _, _, _, _, _, _, _, _, w, _, _ => by simp [outsOf] at w
end
section
variable {P : Program} {w : World} {K : PySem.W.Frag} {mg : Str → Option Value} {base : Heap}
/-- a def keeps the promise of its body's function -/
theorem fn_ok {x qual : Str} {st : Stmt} {fa : Addr} {fd : FuncData} {N ps : List Str} {k : Nat} (Fu : Fun K x qual st fa fd) (Sc : FnScope N ps (defScope st)) (m : List Bool) (hm : m.length = ps.length) {b : S}
    (hb : ∀ (cdv : Value) (A : Around) (outer : List PySem.Env) (s : Shared) (H : Hp) (E : XK), Room k (A.deeper (PyProof.Rows.envOfC qual (defScope st) s.heap.objs.size fa cdv)) → ∃ t, SSs K (cxOf CX0 P w K mg base N qual (defScope st) fa cdv A outer s H E).nox (pins m 0) (defBody st) t b) :
    FnOk P w K mg base CX0 (k + 1) fa fd ps (spF K m.length (runB m N.length b)) := by
  refine Fu.ok Sc (fun vs H Q E h => ?_) (fun cdv A outer s H vs Q E hr h => ?_)
  · obtain ⟨_, _, _, _, _, _, hl, _⟩ := h
    rw [hl, hm]
  · obtain ⟨F, O, ts, f, r, outs, hl, rfl, d, rl, nd, hg, q⟩ := h
    obtain ⟨t, hs⟩ := hb cdv A outer s _ E hr
    refine ⟨t, hs.p, ?_⟩
    have e0 := RlE.start (n := N.length - vs.length) rl
    have hlen : N.length - vs.length = N.length - ts.length := by rw [rl.len]
    have hpin : ∀ {σ' : L2.St}, Same2 (pins m 0) (L2.start N vs) σ' → ∀ i, i ∈ pins m 0 → ∃ j, i = 0 + j ∧ σ'[j]? = (L2.start N vs)[i]? := fun p i hi => ⟨i, (Nat.zero_add i).symm, p.s i hi⟩
    have hst : ∀ j v, vs[j]? = some v → (L2.start N vs)[0 + j]? = some (some v) := fun j v e => by
      unfold L2.start
      have hj := (List.getElem?_eq_some_iff.mp e).1
      rw [Nat.zero_add, List.getElem?_append_left (by rw [List.length_map]; exact hj), List.getElem?_map, e]
      rfl
    have fins : ∀ {v : V} {σ' : L2.St} {F' O' : Hp} {fp f' : List Addr} {t : T} {e : Env}, At K σ' F' O' e fp f' → Stp F O f F' O' (fp ++ f') → Rl K F' O' v t fp → Same2 (pins m 0) (L2.start N vs) σ' → t = r → outsOf m ts e = some outs → Q v (jn F' O') := by
      intro v σ' F' O' fp f' t e a1 s1 r1 p1 et eo
      subst et
      obtain ⟨g, k1, k2⟩ := outs_of s1.f (k := 0) (σ0 := L2.start N vs) a1.e rl eo (hpin p1) hst
      refine q v F' O' fp g a1.d (s1.less fun a z => ?_) r1 k1 (a1.nd.sub fun a => by rw [List.count_append, List.count_append]; have := k2 a; omega)
      rcases List.mem_append.mp z with w | w
      · exact List.mem_append_left _ w
      · refine List.mem_append_right _ ?_
        rw [mem_count] at w ⊢
        have := k2 a
        omega
    unfold runB at hg
    rw [← hlen] at hg
    split at hg
    · next t' e hb' =>
      split at hg
      · next us hu =>
        obtain ⟨rfl, rfl⟩ := Prod.mk.inj (Option.some.inj hg)
        exact hs.s _ _ hb' (L2.start N vs) F O f ⟨d, e0, nd⟩ _ fun v σ' F' O' fp f' a1 s1 r1 p1 => fins a1 s1 r1 p1 rfl hu
      · cases hg
    · next e hb' =>
      split at hg
      · next us hu =>
        obtain ⟨rfl, rfl⟩ := Prod.mk.inj (Option.some.inj hg)
        exact hs.s _ _ hb' (L2.start N vs) F O f ⟨d, e0, nd⟩ _ fun σ' F' O' f' a1 s1 p1 => fins (fp := []) (v := .non) a1 s1 .non p1 rfl hu
      · cases hg
    · cases hg
end
end LP
set_option maxRecDepth 100000
/-! LP: the rules, as they are written. -/
namespace LP
open PySem L2
section
variable {K : PySem.W.Frag} {F O F' O' F1 O1 F2 O2 : Hp} {σ : L2.St} {env env' : Env} {f f1 f2 fp fp1 fp2 : List Addr} {pn : List Nat}
/-- what is made on the way is given free -/
def aFz (a : Ea) : Ea := fun env => match a env with
  | some (os, e) => some (ers os, e)
  | none => none
theorem eaFz {ta : TA} {a : Ea} (ha : ASnd K ta a) : ASnd K ta (aFz a) := by
  intro env os env' h σ F O f a0 Q q
  simp only [aFz] at h
  split at h
  · next os1 e h1 =>
    cases h
    refine ha _ _ _ h1 σ F O f a0 _ fun vs F1 O1 fp1 f1 a1 s1 r1 => ?_
    have al := r1.alloc
    have r2 := r1.ers a1.d al fun a z => z
    have sm := a1.d.same_toF al
    have kk : ∀ b ∈ f1, ∀ u, O1 b = some u → offO O1 fp1 b = some u := fun b z u e => by
      unfold offO
      rw [if_neg fun w => a1.nd.apart w z]
      exact e
    have j := jn_toF (F := F1) al
    rw [← j]
    refine q vs _ _ [] f1 ⟨a1.d.toF, a1.e.mono sm kk, a1.nd.right⟩ ⟨s1.f.trans sm, fun b u n e => ?_, fun b z => s1.n b (List.mem_append_right _ z), fun b n => ?_⟩ r2
    · have e1 := s1.k b u n e
      unfold offO
      rw [if_neg fun w => ?_]
      · exact e1
      · rcases s1.n b (List.mem_append_left _ w) with q | q
        · exact n q
        · rw [jn_O e] at q; cases q
    · rw [j]; exact s1.g b n
  · cases h
/-- enumerate(xs), zip(xs, ys): pairs -/
def enumL : Nat → List T → List T
  | _, [] => []
  | k, x :: r => .tup false [.int (k : Int), x] :: enumL (k + 1) r
def zipL : List T → List T → List T
  | x :: r, y :: s => .tup false [x, y] :: zipL r s
  | _, _ => []
theorem enumL_at : ∀ {xs : List T} {k i : Nat} {t : T}, (enumL k xs)[i]? = some t → ∃ x, xs[i]? = some x ∧ t = .tup false [.int ((k + i : Nat) : Int), x]
  | [], _, _, _, h => by simp [enumL] at h
  | x :: r, k, 0, t, h => by
    have : T.tup false [.int (k : Int), x] = t := by simpa [enumL] using h
    exact ⟨x, rfl, this.symm⟩
  | x :: r, k, i + 1, t, h => by
    obtain ⟨y, h1, h2⟩ := enumL_at (xs := r) (k := k + 1) (i := i) (by simpa [enumL] using h)
    exact ⟨y, by simpa using h1, by rw [h2, show k + 1 + i = k + (i + 1) by omega]⟩
theorem enumL_len : ∀ (xs : List T) (k : Nat), (enumL k xs).length = xs.length
  | [], _ => rfl
  | x :: r, k => by rw [enumL, List.length_cons, List.length_cons, enumL_len r]
theorem zipL_at : ∀ {xs ys : List T} {i : Nat} {t : T}, (zipL xs ys)[i]? = some t → ∃ x y, xs[i]? = some x ∧ ys[i]? = some y ∧ t = .tup false [x, y]
  | [], _, _, _, h => by simp [zipL] at h
  | _ :: _, [], _, _, h => by simp [zipL] at h
  | x :: r, y :: s, 0, t, h => by
    have : T.tup false [x, y] = t := by simpa [zipL] using h
    exact ⟨x, y, rfl, rfl, this.symm⟩
  | x :: r, y :: s, i + 1, t, h => by
    obtain ⟨a, b, h1, h2, h3⟩ := zipL_at (xs := r) (ys := s) (i := i) (by simpa [zipL] using h)
    exact ⟨a, b, by simpa using h1, by simpa using h2, h3⟩
theorem zipL_len : ∀ (xs ys : List T), (zipL xs ys).length = min xs.length ys.length
  | [], ys => by simp [zipL]
  | _ :: _, [] => by simp [zipL]
  | x :: r, y :: s => by rw [zipL, List.length_cons, List.length_cons, List.length_cons, zipL_len r s]; omega
def iEn (a : Ea) : It := fun env => match aFz a env with
  | some (os, e) => match vws e os with
    | some [.lst false xs] => some (enumL 0 xs, e)
    | _ => none
  | none => none
def iZp (a : Ea) : It := fun env => match aFz a env with
  | some (os, e) => match vws e os with
    | some [.lst false xs, .lst false ys] => some (zipL xs ys, e)
    | _ => none
  | none => none
theorem newPair {T' : Addr} {a b : V} {x y : T} (d : Dis F' O') (hT : jn F' O' T' = none) (ha : Rl K F' O' a x []) (hb : Rl K F' O' b y []) :
    ∃ F2 O2, upd (jn F' O') T' (.tup [a, b]) = jn F2 O2 ∧ Dis F2 O2 ∧ Stp F' O' [] F2 O2 [] ∧ Rl K F2 O2 (.ref T') (.tup false [x, y]) [] := by
  refine ⟨upd F' T' (.tup [a, b]), O', upd_jnF (jn_none hT).2, d.updF (jn_none hT).2, Stp.newF hT, .tupF (.inl (.inl upd_same)) ?_⟩
  have s := same_new (o := HO.tup [a, b]) (jn_none hT).1
  exact .cons (f := []) (fs := []) (ha.mono s fun a z => by cases z) (.cons (f := []) (fs := []) (hb.mono s fun a z => by cases z) .nil)
theorem wEnum {ta : TA} {a : Ea} (ha : ASnd K ta a) : WSnd K (iEnum K ta) (iEn a) := by
  intro env items env' h σ F O f a0 R q
  simp only [iEn] at h
  split at h
  · next os e h1 =>
    split at h
    · next xs hx =>
      cases h
      refine eaFz ha _ _ _ h1 σ F O f a0 _ fun vs F1 O1 fp1 f1 a1 s1 r1 => ?_
      obtain ⟨g1, w1⟩ := r1.views a1.e hx
      obtain ⟨v, g2, rfl, w2⟩ := w1.one
      clear w1
      cases w2 with
      | lstF hf r =>
        next a vs =>
        refine ⟨_, vs, rfl, .inl (.inl (a1.d.jn_F hf)), q _ F1 O1 f1 a1.only s1.snd ?_⟩
        intro F' O' s d i
        have hq : SqL K (jn F' O') a vs := .inl (.inl (d.jn_F (s _ _ hf)))
        refine ⟨fun t e => ?_, fun hl => ⟨vs, hq, by rw [r.len, ← enumL_len xs 0]; exact hl⟩⟩
        obtain ⟨x, e1, rfl⟩ := enumL_at e
        obtain ⟨v, h1, h2⟩ := r.nth e1
        refine ⟨⟨vs, v, hq, h1⟩, fun z H' y => ?_⟩
        obtain ⟨T', x', rfl, hT, rfl, y⟩ := y
        have e2 : vs[i]? = some x' := y vs hq
        rw [h1] at e2
        cases e2
        rw [Nat.zero_add]
        exact newPair d hT (.int _) (h2.mono s fun a z => by cases z)
    · cases h
  · cases h
theorem wZip {ta : TA} {a : Ea} (ha : ASnd K ta a) : WSnd K (iZip K ta) (iZp a) := by
  intro env items env' h σ F O f a0 R q
  simp only [iZp] at h
  split at h
  · next os e h1 =>
    split at h
    · next xs ys hx =>
      cases h
      refine eaFz ha _ _ _ h1 σ F O f a0 _ fun vs F1 O1 fp1 f1 a1 s1 r1 => ?_
      obtain ⟨g1, w1⟩ := r1.views a1.e hx
      obtain ⟨v, w, g2, g3, rfl, w1, w2⟩ := w1.two
      cases w1 with
      | lstF hf r =>
        next a vs =>
        cases w2 with
        | lstF hf2 r2 =>
          next b ws =>
          refine ⟨_, _, vs, ws, rfl, .inl (.inl (a1.d.jn_F hf)), .inl (.inl (a1.d.jn_F hf2)), q _ F1 O1 f1 a1.only s1.snd ?_⟩
          intro F' O' s d i
          have hq : SqL K (jn F' O') a vs := .inl (.inl (d.jn_F (s _ _ hf)))
          have hq2 : SqL K (jn F' O') b ws := .inl (.inl (d.jn_F (s _ _ hf2)))
          refine ⟨fun t e => ?_, fun hl => ⟨vs, ws, hq, hq2, ?_⟩⟩
          · obtain ⟨x, y, e1, e2, rfl⟩ := zipL_at e
            obtain ⟨v, h1, h2⟩ := r.nth e1
            obtain ⟨u, h3, h4⟩ := r2.nth e2
            refine ⟨⟨vs, ws, v, u, hq, hq2, h1, h3⟩, fun z H' y => ?_⟩
            obtain ⟨T', x', y', rfl, hT, rfl, k1, k2⟩ := y
            have e3 : vs[i]? = some x' := k1 vs hq
            have e4 : ws[i]? = some y' := k2 ws hq2
            rw [h1] at e3
            rw [h3] at e4
            cases e3
            cases e4
            exact newPair d hT (h2.mono s fun a z => by cases z) (h4.mono s fun a z => by cases z)
          · rw [zipL_len] at hl
            rw [r.len, r2.len]
            omega
    · cases h
  · cases h
end
/-! ### the rules over HandS's derivations -/
section
variable {K : PySem.W.Frag} {X : Cx} {a b c e : Expr} {es : List Expr} {ta tb tc te : TE} {tas : TA} {ea eb ec ev : Ev} {eas : Ea} {tt tu : TT} {et eu : Et} {pos p2 : Pos} {pn : List Nat}
theorem xV {i : Nat} {x : Str} (h : PE X (.Name x pos) (tVar i)) (hk : X.K = K := by rfl) : SE K X (.Name x pos) (tVar i) (cV i) := by
  cases hk
  exact ⟨h, eV, rfl⟩
theorem xMv {i : Nat} {x : Str} (h : PE X (.Name x pos) (tVar i)) (hk : X.K = K := by rfl) : SE K X (.Name x pos) (tVar i) (cMv i) := by
  cases hk
  exact ⟨h, eMv, rfl⟩
theorem xFz {i : Nat} {x : Str} (h : PE X (.Name x pos) (tVar i)) (hk : X.K = K := by rfl) : SE K X (.Name x pos) (tVar i) (cFz i) := by
  cases hk
  exact ⟨h, eFz, rfl⟩
theorem xInt {i : Int} {j : Nat} (hk : X.K = K := by rfl) : SE K X (.Constant (.int i) j pos) (tC (.int i)) (cK (.int i)) := by
  cases hk
  exact ⟨pe_int, eK fun _ _ => .int _, rfl⟩
theorem xBl {i : Bool} {j : Nat} (hk : X.K = K := by rfl) : SE K X (.Constant (.bool i) j pos) (tC (.bl i)) (cK (.bl i)) := by
  cases hk
  exact ⟨pe_bl, eK fun _ _ => .bl _, rfl⟩
theorem xNon {j : Nat} (hk : X.K = K := by rfl) : SE K X (.Constant .none j pos) (tC .non) (cK .non) := by
  cases hk
  exact ⟨pe_non, eK fun _ _ => .non, rfl⟩
theorem xStr {s : Str} {j : Nat} (hk : X.K = K := by rfl) : SE K X (.Constant (.str s) j pos) (tC (.str s)) (cK (.str s)) := by
  cases hk
  exact ⟨pe_str, eK fun _ _ => .str _, rfl⟩
/-- a constant of the module: an int, a text -/
theorem xGI {x : Str} {i : Int} {k : Tok} (hg : Gl X x) (hm : X.mg x = some (.int i k)) (hd : (x == ("__debug__" : Str)) = false := by decide) (hk : X.K = K := by rfl) : SE K X (.Name x pos) (tC (.int i)) (cK (.int i)) := by
  cases hk
  exact ⟨pe_glob hg hm ⟨k, rfl⟩ hd, eK fun _ _ => .int _, rfl⟩
theorem xGS {x : Str} {i : Str} {k : Tok} (hg : Gl X x) (hm : X.mg x = some (.str i k)) (hd : (x == ("__debug__" : Str)) = false := by decide) (hk : X.K = K := by rfl) : SE K X (.Name x pos) (tC (.str i)) (cK (.str i)) := by
  cases hk
  exact ⟨pe_glob hg hm ⟨k, rfl⟩ hd, eK fun _ _ => .str _, rfl⟩
theorem xOp {op : Operator} {r : R2} {g : T → T → Option T} (ho : OpR X (binaryOp op) r) (hs : OSnd2 K r g) (ha : SE K X a ta ea) (hb : SE K X b tb eb) : SE K X (.BinOp a op b pos) (tOp r ta tb) (cO2 g ea eb) := by
  cases ha.k
  exact ⟨pe_op ho ha.p hb.p, eO2 ha.s hb.s hs, rfl⟩
theorem xAdd (ha : SE K X a ta ea) (hb : SE K X b tb eb) : SE K X (.BinOp a .Add b pos) (tOp (rAddU K) ta tb) (cO2 addT ea eb) := by
  cases ha.k
  exact xOp op_addU sAdd ha hb
theorem xSub (ha : SE K X a ta ea) (hb : SE K X b tb eb) : SE K X (.BinOp a .Sub b pos) (tOp (rI0 fun i j => .int (i - j)) ta tb) (cO2 subT ea eb) := by
  cases ha.k
  exact xOp op_sub sSub ha hb
theorem xMul (ha : SE K X a ta ea) (hb : SE K X b tb eb) : SE K X (.BinOp a .Mult b pos) (tOp (rI CMul fun i j => .int (i * j)) ta tb) (cO2 mulT ea eb) := by
  cases ha.k
  exact xOp op_mul sMul ha hb
theorem xDiv (ha : SE K X a ta ea) (hb : SE K X b tb eb) : SE K X (.BinOp a .FloorDiv b pos) (tOp (rI CDiv fun i j => .int (i / j)) ta tb) (cO2 divT ea eb) := by
  cases ha.k
  exact xOp op_fdiv sDiv ha hb
theorem xMod (ha : SE K X a ta ea) (hb : SE K X b tb eb) : SE K X (.BinOp a .Mod b pos) (tOp (rI (fun _ j => 0 < j) fun i j => .int (i % j)) ta tb) (cO2 modT ea eb) := by
  cases ha.k
  exact xOp op_mod sMod ha hb
theorem xNeg (ha : SE K X a ta ea) : SE K X (.UnaryOp .USub a pos) (tUn (rU fun i => .int (-i)) ta) (cO1 negT ea) := by
  cases ha.k
  exact ⟨pe_un un_neg ha.p, eO1 ha.s sNeg, rfl⟩
theorem xCmp {op : CmpOp} {r : R2} {g : T → T → Option T} (ho : OpR X (compareOp op) r) (hs : OSnd2 K r g) (ha : SE K X a ta ea) (hb : SE K X b tb eb) (hm : behindInMarks op b = false) : SE K X (.Compare a [op] [b] pos) (tOp r ta tb) (cO2 g ea eb) := by
  cases ha.k
  exact ⟨pe_cmpR ho ha.p hb.p hm, eO2 ha.s hb.s hs, rfl⟩
theorem xLt (ha : SE K X a ta ea) (hb : SE K X b tb eb) : SE K X (.Compare a [.Lt] [b] pos) (tOp (rI0 fun i j => .bl (decide (i < j))) ta tb) (cO2 ltT ea eb) := by
  cases ha.k
  exact xCmp op_lt sCmp ha hb (nomark _)
theorem xLe (ha : SE K X a ta ea) (hb : SE K X b tb eb) : SE K X (.Compare a [.LtE] [b] pos) (tOp (rI0 fun i j => .bl (decide (i ≤ j))) ta tb) (cO2 leT ea eb) := by
  cases ha.k
  exact xCmp op_le sCmp ha hb (nomark _)
theorem xGt (ha : SE K X a ta ea) (hb : SE K X b tb eb) : SE K X (.Compare a [.Gt] [b] pos) (tOp (rI0 fun i j => .bl (decide (j < i))) ta tb) (cO2 gtT ea eb) := by
  cases ha.k
  exact xCmp op_gt sCmp ha hb (nomark _)
theorem xGe (ha : SE K X a ta ea) (hb : SE K X b tb eb) : SE K X (.Compare a [.GtE] [b] pos) (tOp (rI0 fun i j => .bl (decide (j ≤ i))) ta tb) (cO2 geT ea eb) := by
  cases ha.k
  exact xCmp op_ge sCmp ha hb (nomark _)
theorem xEq (hu : X.A.units + 64 < cLine) (ha : SE K X a ta ea) (hb : SE K X b tb eb) : SE K X (.Compare a [.Eq] [b] pos) (tOp (rEqP K fun b => b) ta tb) (cO2 eqT ea eb) := by
  cases ha.k
  exact xCmp (op_eqP hu) sEq ha hb (nomark _)
theorem xNe (hu : X.A.units + 64 < cLine) (ha : SE K X a ta ea) (hb : SE K X b tb eb) : SE K X (.Compare a [.NotEq] [b] pos) (tOp (rEqP K fun b => !b) ta tb) (cO2 neT ea eb) := by
  cases ha.k
  exact xCmp (op_neP hu) sNe ha hb (nomark _)
theorem xIs (ha : SE K X a ta ea) (hb : SE K X b tb eb) : SE K X (.Compare a [.Is] [b] pos) (tOp (fun x y H Q => y = .non ∧ Q (.bl (decide (x = .non))) H) ta tb) (cO2 isT ea eb) := by
  cases ha.k
  exact xCmp op_isN sIs ha hb (nomark _)
theorem xIsNot (ha : SE K X a ta ea) (hb : SE K X b tb eb) : SE K X (.Compare a [.IsNot] [b] pos) (tOp (fun x y H Q => y = .non ∧ Q (.bl (!decide (x = .non))) H) ta tb) (cO2 isNotT ea eb) := by
  cases ha.k
  exact xCmp op_notN sIsNot ha hb (nomark _)
theorem yCmp {op : CmpOp} {r : R2} {g : T → T → Option T} (ho : OpR X (compareOp op) r) (hs : OSnd2 K r g) (ha : SE K X a ta ea) (hb : SE K X b tb eb) (hm : behindInMarks op b = false) : ST K X (.Compare a [op] [b] pos) (tTest (tOp r ta tb)) (cTest (cO2 g ea eb)) := by
  cases ha.k
  exact ⟨pt_cmpR ho ha.p hb.p hm, tTest_ (eO2 ha.s hb.s hs), rfl⟩
theorem yLt (ha : SE K X a ta ea) (hb : SE K X b tb eb) : ST K X (.Compare a [.Lt] [b] pos) (tTest (tOp (rI0 fun i j => .bl (decide (i < j))) ta tb)) (cTest (cO2 ltT ea eb)) := by
  cases ha.k
  exact yCmp op_lt sCmp ha hb (nomark _)
theorem yLe (ha : SE K X a ta ea) (hb : SE K X b tb eb) : ST K X (.Compare a [.LtE] [b] pos) (tTest (tOp (rI0 fun i j => .bl (decide (i ≤ j))) ta tb)) (cTest (cO2 leT ea eb)) := by
  cases ha.k
  exact yCmp op_le sCmp ha hb (nomark _)
theorem yGt (ha : SE K X a ta ea) (hb : SE K X b tb eb) : ST K X (.Compare a [.Gt] [b] pos) (tTest (tOp (rI0 fun i j => .bl (decide (j < i))) ta tb)) (cTest (cO2 gtT ea eb)) := by
  cases ha.k
  exact yCmp op_gt sCmp ha hb (nomark _)
theorem yGe (ha : SE K X a ta ea) (hb : SE K X b tb eb) : ST K X (.Compare a [.GtE] [b] pos) (tTest (tOp (rI0 fun i j => .bl (decide (j ≤ i))) ta tb)) (cTest (cO2 geT ea eb)) := by
  cases ha.k
  exact yCmp op_ge sCmp ha hb (nomark _)
theorem yEq (hu : X.A.units + 64 < cLine) (ha : SE K X a ta ea) (hb : SE K X b tb eb) : ST K X (.Compare a [.Eq] [b] pos) (tTest (tOp (rEqP K fun b => b) ta tb)) (cTest (cO2 eqT ea eb)) := by
  cases ha.k
  exact yCmp (op_eqP hu) sEq ha hb (nomark _)
theorem yNe (hu : X.A.units + 64 < cLine) (ha : SE K X a ta ea) (hb : SE K X b tb eb) : ST K X (.Compare a [.NotEq] [b] pos) (tTest (tOp (rEqP K fun b => !b) ta tb)) (cTest (cO2 neT ea eb)) := by
  cases ha.k
  exact yCmp (op_neP hu) sNe ha hb (nomark _)
theorem yIs (ha : SE K X a ta ea) (hb : SE K X b tb eb) : ST K X (.Compare a [.Is] [b] pos) (tTest (tOp (fun x y H Q => y = .non ∧ Q (.bl (decide (x = .non))) H) ta tb)) (cTest (cO2 isT ea eb)) := by
  cases ha.k
  exact yCmp op_isN sIs ha hb (nomark _)
theorem yIsNot (ha : SE K X a ta ea) (hb : SE K X b tb eb) : ST K X (.Compare a [.IsNot] [b] pos) (tTest (tOp (fun x y H Q => y = .non ∧ Q (.bl (!decide (x = .non))) H) ta tb)) (cTest (cO2 isNotT ea eb)) := by
  cases ha.k
  exact yCmp op_notN sIsNot ha hb (nomark _)
/-- an expression that gives True or False, as a test -/
theorem yVal (h : SE K X e te ev) (he : ∀ whole, isTrue e X.env whole = (do let v ← whole; standAt e.pos; holding [v] (truthy v)) := by intro _; rfl) : ST K X e (tB te) (cTest ev) := by
  cases h.k
  exact ⟨pt_val h.p he, tB_ h.s, rfl⟩
theorem yNot (ha : ST K X a tt et) : ST K X (.UnaryOp .Not a pos) (tNot tt) (cNot et) := by
  cases ha.k
  exact ⟨pt_not ha.p, tNot_ ha.s, rfl⟩
theorem wAnd1 (ha : ST K X a tt et) : SW K X (.BoolOp .And [a] pos) tt et := by
  cases ha.k
  exact ⟨pw_and1 ha.p, ha.s, rfl⟩
theorem wOr1 (ha : ST K X a tt et) : SW K X (.BoolOp .Or [a] pos) tt et := by
  cases ha.k
  exact ⟨pw_or1 ha.p, ha.s, rfl⟩
theorem wAnd (ha : ST K X a tt et) (hb : SW K X (.BoolOp .And (b :: es) pos) tu eu) : SW K X (.BoolOp .And (a :: b :: es) pos) (tAnd tt tu) (cAnd et eu) := by
  cases ha.k
  exact ⟨pw_and ha.p hb.p, tAnd_ ha.s hb.s, rfl⟩
theorem wOr (ha : ST K X a tt et) (hb : SW K X (.BoolOp .Or (b :: es) pos) tu eu) : SW K X (.BoolOp .Or (a :: b :: es) pos) (tOr tt tu) (cOr et eu) := by
  cases ha.k
  exact ⟨pw_or ha.p hb.p, tOr_ ha.s hb.s, rfl⟩
theorem SW.t (h : SW K X e tt et) : ST K X e tt et := by
  cases h.k
  exact ⟨h.p.pt, h.s, rfl⟩
theorem xOne {op : BoolOp} (ha : SE K X a ta ea) : SE K X (.BoolOp op [a] pos) ta ea := by
  cases ha.k
  exact ⟨pe_one ha.p, ha.s, rfl⟩
theorem xAndV (ha : SE K X a ta ea) (hb : SE K X (.BoolOp .And (b :: es) pos) tb eb) : SE K X (.BoolOp .And (a :: b :: es) pos) (tAndV ta tb) (cAndV ea eb) := by
  cases ha.k
  exact ⟨pe_and ha.p hb.p, eAndV ha.s hb.s, rfl⟩
theorem xOrV (ha : SE K X a ta ea) (hb : SE K X (.BoolOp .Or (b :: es) pos) tb eb) : SE K X (.BoolOp .Or (a :: b :: es) pos) (tOrV ta tb) (cOrV ea eb) := by
  cases ha.k
  exact ⟨pe_or ha.p hb.p, eOrV ha.s hb.s, rfl⟩
theorem xNotV (ha : SE K X a ta ea) : SE K X (.UnaryOp .Not a pos) (tNotV ta) (cNotV ea) := by
  cases ha.k
  exact ⟨pe_not ha.p, eNotV ha.s, rfl⟩
theorem xIf (hc : ST K X c tt et) (ha : SE K X a ta ea) (hb : SE K X b tb eb) : SE K X (.IfExp c a b pos) (tIf tt ta tb) (cIf et ea eb) := by
  cases hc.k
  exact ⟨pe_ifExp hc.p ha.p hb.p, eIf hc.s ha.s hb.s, rfl⟩
theorem xIx (ha : SE K X a ta ea) (hb : SE K X b tb eb) (hp : PlainIx b := by exact fun _ _ => rfl) : SE K X (.Subscript a b pos) (tOp (rIx K) ta tb) (cO2 ixT ea eb) := by
  cases ha.k
  exact ⟨pe_ix ix_seq ha.p hb.p hp, eO2 ha.s hb.s sIx, rfl⟩
theorem xP0 (hk : X.K = K := by rfl) : SPo K X none tNoPart p0 := by
  cases hk
  exact ⟨po_none, pP0, rfl⟩
theorem xP1 (ha : SE K X a ta ea) : SPo K X (some a) (tPart ta) (p1 ea) := by
  cases ha.k
  exact ⟨po_some ha.p, pP1 ha.s, rfl⟩
theorem xSl {lo hi : Option Expr} {tl th : TO} {pl ph : Po} (ha : SE K X a ta ea) (hl : SPo K X lo tl pl) (hh : SPo K X hi th ph) : SE K X (.Subscript a (.Slice lo hi none p2) pos) (tSl (rSlU K) ta tl th) (cSl ea pl ph) := by
  cases ha.k
  exact ⟨pe_slice sl_U ha.p hl.p hh.p, eSl ha.s hl.s hh.s, rfl⟩
theorem xA0 (hk : X.K = K := by rfl) : SA K X [] tNil aNil := by
  cases hk
  exact ⟨pa_nil, eaNil, rfl⟩
theorem xA (he : SE K X e te ev) (hr : SA K X es tas eas) (hs : starEach (e :: es) X.env = (false, eval e X.env) :: starEach es X.env := by rfl) : SA K X (e :: es) (tCons te tas) (aCons ev eas) := by
  cases he.k
  exact ⟨pa_cons he.p hr.p hs, eaCons he.s hr.s, rfl⟩
theorem xTup {k : Nat} (h : SA K X es tas eas) : SE K X (.Tuple es k pos) (tTup tas) (cTup eas) := by
  cases h.k
  exact ⟨pe_tup h.p, eTup h.s, rfl⟩
theorem xLst (h : SA K X es tas eas) : SE K X (.List es pos) (tLst tas) (cLst eas) := by
  cases h.k
  exact ⟨pe_lst h.p, eLst h.s, rfl⟩
theorem xB {id : String} {x : Str} {r : List V → Hp → VK → Prop} {g : List T → Option T} (hc : CallR X (.builtin id) r) (hs : OSndN K r g) (hg : Gl X x) (hm : X.mg x = none) (hv : bootBuiltins x = some (.builtin id)) (ha : SA K X (e :: es) tas eas)
    (hn : x ≠ "__name__" := by decide) (hdb : (x == ("__debug__" : Str)) = false := by decide) (hst : starEach (e :: es) X.env = (false, eval e X.env) :: starEach es X.env := by rfl) (hpl : (backTo pos (starEach es X.env)).any (·.1) = false := by rfl) :
    SE K X (.Call (.Name x p2) (e :: es) [] pos) (tCB r tas) (cON g eas) := by
  cases ha.k
  exact ⟨pe_callB hc hg hm hv ha.p hn hdb hst hpl, eON ha.s hs, rfl⟩
theorem xBT {id : String} {x : Str} {r : List V → Hp → VK → Prop} {g : List T → Option T} (hc : CallR X (.type id) r) (hs : OSndN K r g) (hg : Gl X x) (hm : X.mg x = none) (hv : bootBuiltins x = some (.type id)) (ha : SA K X (e :: es) tas eas)
    (hn : x ≠ "__name__" := by decide) (hdb : (x == ("__debug__" : Str)) = false := by decide) (hst : starEach (e :: es) X.env = (false, eval e X.env) :: starEach es X.env := by rfl) (hpl : (backTo pos (starEach es X.env)).any (·.1) = false := by rfl) :
    SE K X (.Call (.Name x p2) (e :: es) [] pos) (tCB r tas) (cON g eas) := by
  cases ha.k
  exact ⟨pe_callTy hc hg hm hv ha.p hn hdb hst hpl, eON ha.s hs, rfl⟩
end
end LP
set_option maxRecDepth 100000
/-! LP: built-ins, calls, statements, as they are written. -/
namespace LP
open PySem L2
section
variable {K : PySem.W.Frag} {X : Cx} {a b c e : Expr} {es : List Expr} {ta tb tc te : TE} {tas : TA} {ea eb ec ev : Ev} {eas : Ea} {tt tu : TT} {et eu : Et} {pos p2 p3 : Pos} {pn : List Nat}
theorem call_lenU : CallR X (.builtin "len") (rLenU X.K) := call_len_seq.or (call_len_str.or call_lenD)
theorem xLen (hg : Gl X "len") (hm : X.mg "len" = none) (ha : SA K X [e] tas eas) (hst : starEach [e] X.env = (false, eval e X.env) :: starEach [] X.env := by rfl) : SE K X (.Call (.Name "len" p2) [e] [] pos) (tCB (rLenU K) tas) (cON lenT eas) := by
  cases ha.k
  exact xB call_lenU sLen hg hm PySem.boot_len ha (hst := hst) (hpl := rfl)
theorem b_max : bootBuiltins "max" = some (.builtin "max") := by decide +kernel
theorem b_min : bootBuiltins "min" = some (.builtin "min") := by decide +kernel
theorem b_sum : bootBuiltins "sum" = some (.builtin "sum") := by decide +kernel
theorem b_isi : bootBuiltins "isinstance" = some (.builtin "isinstance") := by decide +kernel
theorem b_list : bootBuiltins "list" = some (.type "list") := by decide +kernel
theorem b_tuple : bootBuiltins "tuple" = some (.type "tuple") := by decide +kernel
theorem b_int : bootBuiltins "int" = some (.type "int") := by decide +kernel
theorem b_bool : bootBuiltins "bool" = some (.type "bool") := by decide +kernel
theorem b_str : bootBuiltins "str" = some (.type "str") := by decide +kernel
theorem b_dict : bootBuiltins "dict" = some (.type "dict") := by decide +kernel
theorem b_set : bootBuiltins "set" = some (.type "set") := by decide +kernel
theorem b_abs : bootBuiltins "abs" = some (.builtin "abs") := by decide +kernel
theorem b_sorted : bootBuiltins "sorted" = some (.builtin "sorted") := by decide +kernel
theorem xMax2 (hc : X.calm = true) (hg : Gl X "max") (hm : X.mg "max" = none) (ha : SA K X [a, b] tas eas) (hst : starEach [a, b] X.env = (false, eval a X.env) :: starEach [b] X.env := by rfl) (hpl : (backTo pos (starEach [b] X.env)).any (·.1) = false := by rfl) :
    SE K X (.Call (.Name "max" p2) [a, b] [] pos) (tCB (fun xs H Q => ∃ i j, xs = [.int i, .int j] ∧ Q (.int (if j > i then j else i)) H) tas) (cON max2T eas) := by
  cases ha.k
  exact xB (call_max2 hc) sMax2 hg hm b_max ha (hst := hst) (hpl := hpl)
theorem xMin2 (hc : X.calm = true) (hg : Gl X "min") (hm : X.mg "min" = none) (ha : SA K X [a, b] tas eas) (hst : starEach [a, b] X.env = (false, eval a X.env) :: starEach [b] X.env := by rfl) (hpl : (backTo pos (starEach [b] X.env)).any (·.1) = false := by rfl) :
    SE K X (.Call (.Name "min" p2) [a, b] [] pos) (tCB (fun xs H Q => ∃ i j, xs = [.int i, .int j] ∧ Q (.int (if j < i then j else i)) H) tas) (cON min2T eas) := by
  cases ha.k
  exact xB (call_min2 hc) sMin2 hg hm b_min ha (hst := hst) (hpl := hpl)
theorem xMax1 (hc : X.calm = true) (hg : Gl X "max") (hm : X.mg "max" = none) (ha : SA K X [e] tas eas) (hst : starEach [e] X.env = (false, eval e X.env) :: starEach [] X.env := by rfl) : SE K X (.Call (.Name "max" p2) [e] [] pos) (tCB (rMax K) tas) (cON max1T eas) := by
  cases ha.k
  exact xB (cr_max hc) sMax1 hg hm b_max ha (hst := hst) (hpl := rfl)
theorem xMin1 (hc : X.calm = true) (hg : Gl X "min") (hm : X.mg "min" = none) (ha : SA K X [e] tas eas) (hst : starEach [e] X.env = (false, eval e X.env) :: starEach [] X.env := by rfl) : SE K X (.Call (.Name "min" p2) [e] [] pos) (tCB (rMin K) tas) (cON min1T eas) := by
  cases ha.k
  exact xB (cr_min hc) sMin1 hg hm b_min ha (hst := hst) (hpl := rfl)
theorem xSum (hc : X.calm = true) (hg : Gl X "sum") (hm : X.mg "sum" = none) (ha : SA K X [e] tas eas) (hst : starEach [e] X.env = (false, eval e X.env) :: starEach [] X.env := by rfl) : SE K X (.Call (.Name "sum" p2) [e] [] pos) (tCB (rSum K) tas) (cON sumT eas) := by
  cases ha.k
  exact xB (cr_sum hc) sSum hg hm b_sum ha (hst := hst) (hpl := rfl)
theorem xList (hg : Gl X "list") (hm : X.mg "list" = none) (ha : SA K X [e] tas eas) (hst : starEach [e] X.env = (false, eval e X.env) :: starEach [] X.env := by rfl) :
    SE K X (.Call (.Name "list" p2) [e] [] pos) (tCB (fun xs H Q => ∃ p ys, xs = [.ref p] ∧ (SqL K H p ys ∨ SqT K H p ys) ∧ ∀ l, H l = none → Q (.ref l) (upd H l (.lst ys))) tas) (cON listT eas) := by
  cases ha.k
  exact xBT call_list_of sList hg hm b_list ha (hst := hst) (hpl := rfl)
theorem xInt1 (hg : Gl X "int") (hm : X.mg "int" = none) (ha : SA K X [e] tas eas) (hst : starEach [e] X.env = (false, eval e X.env) :: starEach [] X.env := by rfl) :
    SE K X (.Call (.Name "int" p2) [e] [] pos) (tCB (fun xs H Q => (∃ i, xs = [.int i] ∧ Q (.int i) H) ∨ ∃ k, xs = [.bl k] ∧ Q (.int (if k then 1 else 0)) H) tas) (cON intT eas) := by
  cases ha.k
  exact xBT call_int1 sInt hg hm b_int ha (hst := hst) (hpl := rfl)
/-- isinstance(e, T), T a built-in class -/
theorem xIsi {T : Str} {n : String} (hg : Gl X "isinstance") (hm : X.mg "isinstance" = none) (ht : Gl X T) (htm : X.mg T = none) (hv : bootBuiltins T = some (.type n)) (ha : SE K X e te ev)
    (hst : starEach [e, .Name T p3] X.env = (false, eval e X.env) :: starEach [.Name T p3] X.env := by rfl) (hn : T ≠ "__name__" := by decide) (hd : (T == ("__debug__" : Str)) = false := by decide) :
    SE K X (.Call (.Name "isinstance" p2) [e, .Name T p3] [] pos) (tCB (rIsi K) (tCons te (tCons (tC (.ty n)) tNil))) (cIsi n ev) := by
  cases ha.k
  exact ⟨pe_callB call_isi hg hm b_isi (pa_cons ha.p (pa_cons (pe_bltn ht htm hv rfl hn hd) pa_nil rfl) hst) (by decide) (by decide) hst (by rfl), eIsi ha.s, rfl⟩
/-! ### calls of own defs -/
/-- the def x of the module keeps its promise -/
def Cal (P : Program) (w : World) (K : PySem.W.Frag) (mg : Str → Option Value) (base : Heap) (k : Nat) (x : Str) (ps : List Str) (m : List Bool) (g : Fn) : Prop :=
  ∃ f fd, FnOk P w K mg base CX0 k f fd ps (spF K m.length g) ∧ mg x = some (.ref f) ∧ PySem.W.keepIn K (.ref f) = true ∧ Binds K fd ps [] ∧ ∃ oc od osl, K.lookup f = some ⟨oc, od, .func fd, osl⟩
theorem Cal.mono {P : Program} {w : World} {K : PySem.W.Frag} {mg : Str → Option Value} {base : Heap} {j k : Nat} {x : Str} {ps : List Str} {m : List Bool} {g : Fn} (h : Cal P w K mg base j x ps m g) (l : j ≤ k) : Cal P w K mg base k x ps m g := by
  obtain ⟨f, fd, h1, h2⟩ := h
  exact ⟨f, fd, h1.mono l, h2⟩
theorem xCall {k j : Nat} {x : Str} {ps : List Str} {m : List Bool} {g : Fn} (C : Cal X.prog X.w K X.mg X.base j x ps m g) (hr : Room k X.A) (ha : SA K X (e :: es) tas eas) (hg : Gl X x := by rfl) (hj : j ≤ k := by decide)
    (hdb : (x == ("__debug__" : Str)) = false := by decide) (hst : starEach (e :: es) X.env = (false, eval e X.env) :: starEach es X.env := by rfl) (hpl : (backTo pos (starEach es X.env)).any (·.1) = false := by rfl) :
    SE K X (.Call (.Name x p2) (e :: es) [] pos) (tCall (spF K m.length g) [] E0 tas) (cCall g m eas) := by
  cases ha.k
  obtain ⟨f, fd, h1, h2, h3, h4, _⟩ := C
  exact ⟨pe_call h1 (hr.mono hj) hg h2 h3 h4 .nil pass0 ha.p hdb hst hpl, eCall ha.s, rfl⟩
theorem xCall0 {k j : Nat} {x : Str} {ps : List Str} {g : Fn} (C : Cal X.prog X.w K X.mg X.base j x ps [] g) (hr : Room k X.A) (hg : Gl X x := by rfl) (hj : j ≤ k := by decide) (hdb : (x == ("__debug__" : Str)) = false := by decide) (hk : X.K = K := by rfl) :
    SE K X (.Call (.Name x p2) [] [] pos) (tCall (spF K 0 g) [] E0 tNil) (cCall g [] aNil) := by
  cases hk
  obtain ⟨f, fd, h1, h2, h3, h4, _⟩ := C
  exact ⟨pe_call0 h1 (hr.mono hj) hg h2 h3 h4 .nil pass0 hdb, eCall (m := []) eaNil, rfl⟩
theorem xLend (h : SE K X e te ev) : SE K X e te (cLend ev) := by
  cases h.k
  exact ⟨h.p, eLend h.s, rfl⟩
theorem xApp {i : Nat} {x : Str} (h : PE X (.Name x p2) (tVar i)) (ha : SE K X e te ev) (hst : starEach [e] X.env = (false, eval e X.env) :: starEach [] X.env := by rfl)
    (hbase : attributeBase (.Name x p2) "append" X.env (eval (.Name x p2) X.env) = eval (.Name x p2) X.env := by rfl)
    (hfew : ((backTo pos (starEach [e] X.env)).all (fun x => !x.1) && (backToKw pos (keywordEach [] X.env)).all (fun x => x.1.isSome) && decide ([e].length + ([] : List Keyword).length + (if ([] : List Keyword).isEmpty then 0 else 1) < 30)) = true := by rfl)
    (hline : (p3.endLine == pos.line) = true := by rfl) :
    SE K X (.Call (.Attribute (.Name x p2) "append" p3) [e] [] pos) (tBM K "list" rAppend (tVar i) (tCons te tNil)) (cApp i ev) := by
  cases ha.k
  exact ⟨pe_bm PySem.F.plainAttrs_list PySem.F.slot_list_append PySem.F.type_list_append mt_append h (pa_cons ha.p pa_nil hst) hbase hfew hline hst (by rfl), eApp ha.s, rfl⟩
theorem xClr {i : Nat} {x : Str} (h : PE X (.Name x p2) (tVar i)) (hbase : attributeBase (.Name x p2) "clear" X.env (eval (.Name x p2) X.env) = eval (.Name x p2) X.env := by rfl) (hline : (p3.endLine == pos.line) = true := by rfl) (hk : X.K = K := by rfl) :
    SE K X (.Call (.Attribute (.Name x p2) "clear" p3) [] [] pos) (tBM0 K "list" rClear (tVar i)) (cClr i) := by
  cases hk
  exact ⟨pe_bm0 PySem.F.plainAttrs_list PySem.F.slot_list_clear PySem.F.type_list_clear mt_clear h hbase hline, eClr, rfl⟩
/-! ### targets, what is walked -/
variable {tg : Expr} {tgs : List Expr} {gg : TG} {ggs : TGs} {g : Tg} {gs : Tgs} {wi : TI} {it : It}
theorem gName_ {i : Nat} {x : Str} (h : PG X (.Name x pos) (gName i)) (hi : i ∉ pn := by decide) (hk : X.K = K := by rfl) : SG K X pn (.Name x pos) (gName i) (gN i) := by
  cases hk
  exact ⟨h, tgN hi, rfl⟩
theorem gNil_ (hk : X.K = K := by rfl) : SGs K X pn [] gNil gN0 := by
  cases hk
  exact ⟨pgs_nil, tgs0, rfl⟩
theorem gCons_ (h1 : SG K X pn tg gg g) (h2 : SGs K X pn tgs ggs gs) (hs : (assignEach (tg :: tgs) X.env).map (·.2) = assign tg X.env :: (assignEach tgs X.env).map (·.2) := by rfl) : SGs K X pn (tg :: tgs) (gCons gg ggs) (gNc g gs) := by
  cases h1.k
  exact ⟨pgs_cons h1.p h2.p hs, tgsC h1.s h2.s, rfl⟩
theorem gTup_ {k n : Nat} (hc : X.calm = true) (h : SGs K X pn tgs ggs gs) (hn : (assignEach tgs X.env).length = n := by rfl) (hst : (assignEach tgs X.env).findIdx? (·.1) = none := by rfl) : SG K X pn (.Tuple tgs k pos) (gSeq K n ggs) (gUn n gs) := by
  cases h.k
  exact ⟨pg_seq hc h.p hn hst, tgUn h.s, rfl⟩
theorem gIx_ {i : Nat} {x : Str} (h : PE X (.Name x p2) (tVar i)) (hk : SE K X e te ev)
    (ha : ∀ v, assign (.Subscript (.Name x p2) e pos) X.env v = (do
      let ov ← holding [v] (eval (.Name x p2) X.env)
      let iv ← holding [v, ov] (eval e X.env)
      standAt pos
      holding [v, ov, iv] (setItem ov iv v)
      release [v, ov, iv] []) := by intro _; rfl) : SG K X pn (.Subscript (.Name x p2) e pos) (gSub (tVar i) te rSetL) (gIx i ev) := by
  cases hk.k
  exact ⟨pg_sub h hk.p set_list ha, tgIx hk.s, rfl⟩
theorem iList_ (h : SE K X e te ev) : SI K X tg e (iList K te) (iLs ev) := by
  cases h.k
  exact ⟨pi_list h.p, wList h.s, rfl⟩
theorem iTup_ (h : SE K X e te ev) : SI K X tg e (iTup K te) (iTp ev) := by
  cases h.k
  exact ⟨pi_tup h.p, wTup h.s, rfl⟩
theorem iR1_ (hg : Gl X "range") (hm : X.mg "range" = none) (h : SA K X [e] tas eas) (hs : starEach [e] X.env = [(false, eval e X.env)] := by rfl) : SI K X tg (.Call (.Name "range" p2) [e] [] pos) (iRng1 tas) (iR1 eas) := by
  cases h.k
  exact ⟨pi_range1 hg hm h.p hs, wR1 h.s, rfl⟩
theorem iR2_ (hg : Gl X "range") (hm : X.mg "range" = none) (h : SA K X [a, b] tas eas) (hs : starEach [a, b] X.env = [(false, eval a X.env), (false, eval b X.env)] := by rfl) (hs2 : starEach [b] X.env = [(false, eval b X.env)] := by rfl) :
    SI K X tg (.Call (.Name "range" p2) [a, b] [] pos) (iRng2 tas) (iR2 eas) := by
  cases h.k
  exact ⟨pi_range2 hg hm h.p hs hs2, wR2 h.s, rfl⟩
theorem iEnum_ {k : Nat} (hg : Gl X "enumerate") (hm : X.mg "enumerate" = none) (h : SA K X [e] tas eas) (hs : starEach [e] X.env = [(false, eval e X.env)] := by rfl) : SI K X (.Tuple tgs k p3) (.Call (.Name "enumerate" p2) [e] [] pos) (iEnum K tas) (iEn eas) := by
  cases h.k
  exact ⟨pi_enum hg hm h.p hs, wEnum h.s, rfl⟩
theorem iZip_ {k : Nat} (hg : Gl X "zip") (hm : X.mg "zip" = none) (h : SA K X [a, b] tas eas) (hs : starEach [a, b] X.env = (false, eval a X.env) :: starEach [b] X.env := by rfl) (hpl : (backTo pos (starEach [b] X.env)).any (·.1) = false := by rfl) :
    SI K X (.Tuple tgs k p3) (.Call (.Name "zip" p2) [a, b] [] pos) (iZip K tas) (iZp eas) := by
  cases h.k
  exact ⟨pi_zip hg hm h.p hs hpl, wZip h.s, rfl⟩
/-! ### comprehensions -/
structure STs (K : PySem.W.Frag) (X : Cx) (ifs : List Expr) (tt : TT) (et : Et) : Prop where
  p : PTs X ifs tt
  s : TSnd K tt et
  k : X.K = K := by rfl
def cYes : Et := fun env => some (true, env)
theorem cNoIf (hk : X.K = K := by rfl) : STs K X [] tYes cYes := by
  cases hk
  exact ⟨pts_nil, fun env b env' h σ F O f a0 Q q => by cases h; exact q F O f a0 Stp.refl, rfl⟩
theorem cIf1 (h : ST K X e tt et) : STs K X [e] tt et := by
  cases h.k
  exact ⟨pts_one h.p, h.s, rfl⟩
theorem all_pn {n : Nat} {vs : List Nat} (hp : ((List.range n).all fun i => decide (i ∈ vs) || decide (i ∈ pn)) = true) : ∀ i, i < n → i ∉ vs → i ∈ pn := fun i hi hv => by
  rw [List.all_eq_true] at hp
  have := hp i (List.mem_range.mpr hi)
  simp only [Bool.or_eq_true, decide_eq_true_eq] at this
  rcases this with z | z
  · exact absurd z hv
  · exact z
theorem xLc {elt iter : Expr} {ifs : List Expr} {scope : Scope} (own : List (Str × Nat)) {n : Nat} (hc : X.calm = true) (hN : X.N.Nodup) (hi : SI K X tg iter wi it) (ok : BlkOk X.N X.env.scope scope own)
    (hg : ∀ (s : Shared) (H : Hp) (C : Addr) (cl : List (Str × Addr)) (fp : List Addr), SG K (X.blk s H scope (PySem.compEnvC scope cl C X.env) fp) pn tg gg g)
    (ht : ∀ (s : Shared) (H : Hp) (C : Addr) (cl : List (Str × Addr)) (fp : List Addr), STs K (X.blk s H scope (PySem.compEnvC scope cl C X.env) fp) ifs tt et)
    (he : ∀ (s : Shared) (H : Hp) (C : Addr) (cl : List (Str × Addr)) (fp : List Addr), SE K (X.blk s H scope (PySem.compEnvC scope cl C X.env) fp) elt te ev)
    (hp : ((List.range n).all fun i => decide (i ∈ own.map (·.2)) || decide (i ∈ pn)) = true := by decide) (hs : ∀ x, foldedSetIterable iter X.env x = pure x := by intro _; rfl) :
    SE K X (.ListComp elt [⟨tg, iter, ifs, 0⟩] scope pos) (tLc wi gg tt te (own.map (·.2))) (cLc n (own.map (·.2)) it g et ev) := by
  cases hi.k
  exact ⟨pe_lc hc hN hi.p ok (fun s H C cl fp => (hg s H C cl fp).p) (fun s H C cl fp => (ht s H C cl fp).p) (fun s H C cl fp => (he s H C cl fp).p) hs,
    eLc (all_pn hp) hi.s (hg X.s_0 X.H_0 0 [] []).s (ht X.s_0 X.H_0 0 [] []).s (he X.s_0 X.H_0 0 [] []).s, rfl⟩
/-- y = [..] on one line, y a local -/
theorem zSetLc {i : Nat} {y : Str} {py spos : Pos} {elt iter : Expr} {ifs : List Expr} {scope : Scope} (own : List (Str × Nat)) {n : Nat} {pm : List Nat} (hc : X.calm = true) (hN : X.N.Nodup) (hy : X.N[i]? = some y) (hyl : X.env.scope.names.lookup y = some .local)
    (hsw : swapsWith (.ListComp elt [⟨tg, iter, ifs, 0⟩] scope pos) (some (.Name y py)) spos.line X.env = pure true) (hi : SI K X tg iter wi it) (ok : BlkOk X.N X.env.scope scope own)
    (hg : ∀ (s : Shared) (H : Hp) (C : Addr) (cl : List (Str × Addr)) (fp : List Addr), SG K (X.blk s H scope (PySem.compEnvC scope cl C X.env) fp) pm tg gg g)
    (ht : ∀ (s : Shared) (H : Hp) (C : Addr) (cl : List (Str × Addr)) (fp : List Addr), STs K (X.blk s H scope (PySem.compEnvC scope cl C X.env) fp) ifs tt et)
    (he : ∀ (s : Shared) (H : Hp) (C : Addr) (cl : List (Str × Addr)) (fp : List Addr), SE K (X.blk s H scope (PySem.compEnvC scope cl C X.env) fp) elt te ev)
    (hpn : i ∉ pn := by decide) (hp : ((List.range n).all fun i => decide (i ∈ own.map (·.2)) || decide (i ∈ pm)) = true := by decide) (hs : ∀ x, foldedSetIterable iter X.env x = pure x := by intro _; rfl) :
    SS K X pn (.Assign [.Name y py] (.ListComp elt [⟨tg, iter, ifs, 0⟩] scope pos) spos) (tAsg (tLc wi gg tt te (own.map (·.2))) (gName i)) (cAsg (cLc n (own.map (·.2)) it g et ev) (gN i)) := by
  cases hi.k
  exact ⟨ps_setLc hc hN hy hyl hsw hi.p ok (fun s H C cl fp => (hg s H C cl fp).p) (fun s H C cl fp => (ht s H C cl fp).p) (fun s H C cl fp => (he s H C cl fp).p) hs,
    sAsg (eLc (all_pn hp) hi.s (hg X.s_0 X.H_0 0 [] []).s (ht X.s_0 X.H_0 0 [] []).s (he X.s_0 X.H_0 0 [] []).s) (tgN hpn), rfl⟩
/-! ### statements -/
variable {st : Stmt} {sts : List Stmt} {ts us : TS} {s u : S}
theorem zNil (hk : X.K = K := by rfl) : SSs K X pn [] tNext cSkip := by
  cases hk
  exact ⟨pss_nil, sSkip, rfl⟩
theorem zCons (h1 : SS K X pn st ts s) (h2 : SSs K X pn sts us u) : SSs K X pn (st :: sts) (tSeq ts us) (cSeq s u) := by
  cases h1.k
  exact ⟨pss_cons h1.p h2.p, sSeq h1.s h2.s, rfl⟩
theorem zOne (h1 : SS K X pn st ts s) : SSs K X pn [st] ts s := by
  cases h1.k
  exact ⟨pss_one h1.p, h1.s, rfl⟩
theorem zPass (hk : X.K = K := by rfl) : SS K X pn (.Pass pos) tNext cSkip := by
  cases hk
  exact ⟨ps_pass, sSkip, rfl⟩
theorem zBrk (hk : X.K = K := by rfl) : SS K X pn (.Break pos) tBreak cBrk := by
  cases hk
  exact ⟨ps_break, sBrk, rfl⟩
theorem zCnt (hk : X.K = K := by rfl) : SS K X pn (.Continue pos) tCont cCnt := by
  cases hk
  exact ⟨ps_continue, sCnt, rfl⟩
theorem zExpr (he : SE K X e te ev) (hs : swapsWith e none pos.line X.env = pure false := by rfl) : SS K X pn (.Expr e pos) (tDrop te) (cDrop ev) := by
  cases he.k
  exact ⟨ps_expr he.p hs, sDrop he.s, rfl⟩
theorem zRet (he : SE K X e te ev) : SS K X pn (.Return (some e) pos) (tRet te) (cRet ev) := by
  cases he.k
  exact ⟨ps_ret he.p, sRet he.s, rfl⟩
theorem zRetN (hk : X.K = K := by rfl) : SS K X pn (.Return none pos) tRetN cRetN := by
  cases hk
  exact ⟨ps_retN, sRetN, rfl⟩
theorem zIf {sa sb : List Stmt} (hc : ST K X c tt et) (ha : SSs K X pn sa ts s) (hb : SSs K X pn sb us u) : SS K X pn (.If c sa sb pos) (tIfS tt ts us) (cIfS et s u) := by
  cases hc.k
  exact ⟨ps_if hc.p ha.p hb.p, sIf hc.s ha.s hb.s, rfl⟩
theorem zAsg (he : SE K X e te ev) (hg : SG K X pn tg gg g) (hs : swapsWithSole [tg] e pos.line X.env = pure false := by rfl) (hw : swappedStores [tg] e X.env = pure none := by rfl) (h1 : (assignEach [tg] X.env).map (·.2) = [assign tg X.env] := by rfl) :
    SS K X pn (.Assign [tg] e pos) (tAsg te gg) (cAsg ev g) := by
  cases he.k
  exact ⟨ps_asg he.p hg.p hs hw h1, sAsg he.s hg.s, rfl⟩
theorem zFor {iter : Expr} {body : List Stmt} (hp : PassesOwn (model X.prog X.w) X.A X.env X.xe) (hc : X.calm = true) (hi : SI K X tg iter wi it) (hg : SG K X pn tg gg g) (hb : SSs K X pn body ts s) (hs : ∀ x, foldedSetIterable iter X.env x = pure x := by intro _; rfl) :
    SS K X pn (.For tg iter body [] pos) (tFor wi gg ts) (cFor it g s) := by
  cases hi.k
  exact ⟨ps_for hp hc hi.p hg.p hb.p hs, sFor hi.s hg.s hb.s, rfl⟩
theorem zWhl (n : LP.Env → Nat) {body : List Stmt} (hp : PassesOwn (model X.prog X.w) X.A X.env X.xe) (hc : ST K X c tt et) (hb : SSs K X pn body ts s) : SS K X pn (.While c body [] pos) (tWhile tt ts) (cWhl et s n) := by
  cases hc.k
  exact ⟨ps_while hp hc.p hb.p, sWhl hc.s hb.s, rfl⟩
theorem zAug {i : Nat} {x : Str} {op : Operator} {r : R2} {k : T → T → Option T} (hN : X.N.Nodup) (hi : X.N[i]? = some x) (hx : Loc X.env.scope x) (he : SE K X e te ev) (ho : PIp X op r) (hs : OSnd2 K r k) (hpn : i ∉ pn := by decide)
    (hf : X.fn x = true ∨ X.env.scope.names.lookup x = some .local := by first | exact .inl rfl | exact .inr rfl | assumption) : SS K X pn (.AugAssign (.Name x p2) op e pos) (tAug i te r) (cAug i k ev) := by
  cases he.k
  exact ⟨ps_aug hN hi hx he.p ho hf, sAug hpn he.s hs, rfl⟩
theorem zAugIx {i : Nat} {x : Str} {op : Operator} {r : R2} {k : T → T → Option T} (hx : PE X (.Name x p2) (tVar i)) (hk : SE K X a ta ea) (he : SE K X e te ev) (ho : PIp X op r) (hs : OSnd2 K r k)
    (ha : ∀ ov iv new, augStore a ov iv new = (do holding [new, ov, iv] (setItem ov iv new); release [new, ov, iv] []; pure .next) := by intros; rfl) :
    SS K X pn (.AugAssign (.Subscript (.Name x p2) a p3) op e pos) (tAugS (tVar i) ta te (rGetL K) r rSetL) (cAugIx i ea k ev) := by
  cases hk.k
  exact ⟨ps_augS hx hk.p get_list he.p ho set_list ha, sAugIx hk.s he.s hs, rfl⟩
end
end LP
set_option maxRecDepth 100000
/-! LP: more words; the law's end. -/
namespace LP
open PySem L2
section
variable {K : PySem.W.Frag} {F O F' O' F1 O1 F2 O2 : Hp} {σ : L2.St} {env env' : Env} {f f1 f2 fp fp1 fp2 : List Addr} {pn : List Nat}
/-- what was made is given free at once -/
def cFr (a : Ev) : Ev := fun env => match a env with
  | some (.t x, e) => some (.t x.er, e)
  | some (.s i, e) => some (.s i, e)
  | none => none
theorem eFr {ta : TE} {a : Ev} (ha : ESnd K ta a) : ESnd K ta (cFr a) := by
  intro env o env' h σ F O f a0 Q q
  simp only [cFr] at h
  split at h
  · next x e h1 =>
    cases h
    refine ha _ _ _ h1 σ F O f a0 _ fun v F1 O1 fp1 f1 a1 s1 r1 => ?_
    have r1 : Rl K F1 O1 v x fp1 := r1
    have al := r1.alloc
    have r2 := r1.erase a1.d al fun a z => z
    have sm := a1.d.same_toF al
    have kk : ∀ b ∈ f1, ∀ u, O1 b = some u → offO O1 fp1 b = some u := fun b z u e => by
      unfold offO
      rw [if_neg fun w => a1.nd.apart w z]
      exact e
    have j := jn_toF (F := F1) al
    rw [← j]
    refine q v _ _ [] f1 ⟨a1.d.toF, a1.e.mono sm kk, a1.nd.right⟩ ⟨s1.f.trans sm, fun b u n e => ?_, fun b z => s1.n b (List.mem_append_right _ z), fun b n => ?_⟩ r2
    · have e1 := s1.k b u n e
      unfold offO
      rw [if_neg fun w => ?_]
      · exact e1
      · rcases s1.n b (List.mem_append_left _ w) with q | q
        · exact n q
        · rw [jn_O e] at q; cases q
    · rw [j]; exact s1.g b n
  · next i e h1 =>
    cases h
    exact ha _ _ _ h1 σ F O f a0 Q q
  · cases h
/-- i ** j, small -/
def powT := opI fun i j => if 0 ≤ j ∧ j ≤ 1000000 ∧ i.natAbs < 2 ^ 64 then some (i ^ j.toNat) else none
theorem sPow : OSnd2 K (rI CPow fun i j => .int (i ^ j.toNat)) powT := sI fun i j k e => by
  split at e
  · next h => exact ⟨h, Option.some.inj e⟩
  · cases e
end
section
variable {K : PySem.W.Frag} {X : Cx} {a b c e : Expr} {es : List Expr} {ta tb tc te : TE} {tas : TA} {ea eb ec ev : Ev} {eas : Ea} {tt tu : TT} {et eu : Et} {pos p2 p3 : Pos} {pn : List Nat} {tg : Expr} {tgs : List Expr} {gg : TG} {ggs : TGs} {g : Tg} {gs : Tgs} {wi : TI} {it : It}
theorem xFr (h : SE K X e te ev) : SE K X e te (cFr ev) := by
  cases h.k
  exact ⟨h.p, eFr h.s, rfl⟩
theorem xPow (ha : SE K X a ta ea) (hb : SE K X b tb eb) : SE K X (.BinOp a .Pow b pos) (tOp (rI CPow fun i j => .int (i ^ j.toNat)) ta tb) (cO2 powT ea eb) := by
  cases ha.k
  exact xOp op_pow sPow ha hb
theorem zSetLcF {i : Nat} {y : Str} {py spos : Pos} {elt iter : Expr} {ifs : List Expr} {scope : Scope} (own : List (Str × Nat)) {n : Nat} {pm : List Nat} (hc : X.calm = true) (hN : X.N.Nodup) (hy : X.N[i]? = some y) (hyl : X.env.scope.names.lookup y = some .local)
    (hsw : swapsWith (.ListComp elt [⟨tg, iter, ifs, 0⟩] scope pos) (some (.Name y py)) spos.line X.env = pure true) (hi : SI K X tg iter wi it) (ok : BlkOk X.N X.env.scope scope own)
    (hg : ∀ (s : Shared) (H : Hp) (C : Addr) (cl : List (Str × Addr)) (fp : List Addr), SG K (X.blk s H scope (PySem.compEnvC scope cl C X.env) fp) pm tg gg g)
    (ht : ∀ (s : Shared) (H : Hp) (C : Addr) (cl : List (Str × Addr)) (fp : List Addr), STs K (X.blk s H scope (PySem.compEnvC scope cl C X.env) fp) ifs tt et)
    (he : ∀ (s : Shared) (H : Hp) (C : Addr) (cl : List (Str × Addr)) (fp : List Addr), SE K (X.blk s H scope (PySem.compEnvC scope cl C X.env) fp) elt te ev)
    (hpn : i ∉ pn := by decide) (hp : ((List.range n).all fun i => decide (i ∈ own.map (·.2)) || decide (i ∈ pm)) = true := by decide) (hs : ∀ x, foldedSetIterable iter X.env x = pure x := by intro _; rfl) :
    SS K X pn (.Assign [.Name y py] (.ListComp elt [⟨tg, iter, ifs, 0⟩] scope pos) spos) (tAsg (tLc wi gg tt te (own.map (·.2))) (gName i)) (cAsg (cFr (cLc n (own.map (·.2)) it g et ev)) (gN i)) := by
  cases hi.k
  exact ⟨ps_setLc hc hN hy hyl hsw hi.p ok (fun s H C cl fp => (hg s H C cl fp).p) (fun s H C cl fp => (ht s H C cl fp).p) (fun s H C cl fp => (he s H C cl fp).p) hs,
    sAsg (eFr (eLc (all_pn hp) hi.s (hg X.s_0 X.H_0 0 [] []).s (ht X.s_0 X.H_0 0 [] []).s (he X.s_0 X.H_0 0 [] []).s)) (tgN hpn), rfl⟩
end
/-- a def of the module's top -/
def DefOk (K : PySem.W.Frag) (mg : Str → Option Value) (x : Str) (st : Stmt) : Prop := ∃ f fd, Fun K x x st f fd ∧ mg x = some (.ref f)
theorem fun_lk {K : PySem.W.Frag} {x q : Str} {st : Stmt} {f : Addr} {fd : FuncData} (F : Fun K x q st f fd) : ∃ oc od osl, K.lookup f = some ⟨oc, od, .func fd, osl⟩ := by
  obtain ⟨oc, od, _, _, _, _, _, _, osl, _, h, _⟩ := F.ex
  exact ⟨oc, od, osl, h⟩
theorem fn_same {P : Program} {w : World} {K : PySem.W.Frag} {mg : Str → Option Value} {base : Heap} {k : Nat} {f : Addr} {fd fd' : FuncData} {ps : List Str} {sp : Sp} {x q : Str} {st : Stmt} (h : FnOk P w K mg base CX0 k f fd ps sp)
    (l : ∃ oc od osl, K.lookup f = some ⟨oc, od, .func fd, osl⟩) (F : Fun K x q st f fd') : FnOk P w K mg base CX0 k f fd' ps sp := by
  obtain ⟨_, _, _, l⟩ := l
  obtain ⟨_, _, _, l'⟩ := fun_lk F
  rw [l] at l'
  cases l'
  exact h
/-- the law's end -/
theorem law_of {K : PySem.W.Frag} {H : Hp} {a : Addr} {ns : List Int} {g : Fn} (h : g [.scr ns] = some (.bl true, [.scr ns])) (hO : Only H) (hS : SqL K H a (ns.map V.int)) : spF K 1 g [.ref a] H (fun v _ => v = .bl true) fun _ _ _ => False := by
  have j : jn H (fun _ => none) = H := rfl
  refine ⟨H, fun _ => none, [.scr ns], [], .bl true, [.scr ns], rfl, j.symm, fun _ => .inr rfl, .cons (f := []) (fs := []) (.scr ?_) .nil, Nd.nil, h, fun v F' O' fp f' d s r rs n => ?_⟩
  · rcases hS with (h | ⟨o, h⟩) | h
    · rcases hO a with e | ⟨o, xs, e⟩
      · rw [e] at h; cases h
      · rw [e] at h; cases h
    · exact .inl ⟨o, h⟩
    · exact .inr (.inr h)
  · cases r
    rfl
end LP
set_option maxRecDepth 100000
/-! LP: the combinators reckoned. -/
namespace LP
open PySem L2
def sq (o : Option Out) (b : S) : Option Out := match o with
  | some (.nx e) => b e
  | o => o
@[simp] theorem sq_nx (e : Env) (b : S) : sq (some (.nx e)) b = b e := rfl
@[simp] theorem sq_rt (t : T) (e : Env) (b : S) : sq (some (.rt t e)) b = some (.rt t e) := rfl
@[simp] theorem sq_bk (e : Env) (b : S) : sq (some (.bk e)) b = some (.bk e) := rfl
@[simp] theorem sq_ct (e : Env) (b : S) : sq (some (.ct e)) b = some (.ct e) := rfl
@[simp] theorem sq_none (b : S) : sq none b = none := rfl
@[simp] theorem sq_ite (c : Prop) [Decidable c] (x y : Option Out) (b : S) : sq (if c then x else y) b = if c then sq x b else sq y b := by split <;> rfl
@[simp] theorem bind_ite_ {α β : Type} (c : Prop) [Decidable c] (x y : Option α) (k : α → Option β) : (if c then x else y).bind k = if c then x.bind k else y.bind k := by split <;> rfl
@[simp] theorem cSeq_def (a b : S) (env : Env) : cSeq a b env = sq (a env) b := by
  unfold cSeq sq
  cases a env with
  | none => rfl
  | some o => cases o <;> rfl
@[simp] theorem cSkip_def (env : Env) : cSkip env = some (.nx env) := rfl
@[simp] theorem cBrk_def (env : Env) : cBrk env = some (.bk env) := rfl
@[simp] theorem cCnt_def (env : Env) : cCnt env = some (.ct env) := rfl
@[simp] theorem cIfS_def (c : Et) (a b : S) (env : Env) : cIfS c a b env = (c env).bind fun p => if p.1 = true then a p.2 else b p.2 := by
  unfold cIfS
  cases c env with
  | none => rfl
  | some p => obtain ⟨b, e⟩ := p; cases b <;> rfl
@[simp] theorem cDrop_def (a : Ev) (env : Env) : cDrop a env = (a env).bind fun p => some (.nx p.2) := by
  unfold cDrop
  cases a env <;> rfl
@[simp] theorem cRet_def (a : Ev) (env : Env) : cRet a env = (a env).bind fun p => (sto p.2 p.1).bind fun t => some (.rt t p.2) := by
  unfold cRet
  cases a env with
  | none => rfl
  | some p =>
    simp only [Option.bind_some]
    cases sto p.2 p.1 <;> rfl
@[simp] theorem cRetN_def (env : Env) : cRetN env = some (.rt .non env) := rfl
@[simp] theorem cAsg_def (a : Ev) (g : Tg) (env : Env) : cAsg a g env = (a env).bind fun p => (sto p.2 p.1).bind fun t => (g t p.2).bind fun e => some (.nx e) := by
  unfold cAsg
  cases a env with
  | none => rfl
  | some p =>
    simp only [Option.bind_some]
    cases sto p.2 p.1 with
    | none => rfl
    | some t =>
      simp only [Option.bind_some]
      cases g t p.2 <;> rfl
@[simp] theorem gN_def (i : Nat) (x : T) (env : Env) : gN i x env = some (env.set i (some x)) := rfl
@[simp] theorem gN0_def (env : Env) : gN0 [] env = some env := rfl
@[simp] theorem gNc_def (a : Tg) (r : Tgs) (x : T) (xs : List T) (env : Env) : gNc a r (x :: xs) env = (a x env).bind fun e => r xs e := by
  simp only [gNc]
  cases a x env <;> rfl
@[simp] theorem gUn_tup (n : Nat) (r : Tgs) (o : Bool) (xs : List T) (env : Env) : gUn n r (.tup o xs) env = if xs.length = n then r xs env else none := rfl
@[simp] theorem gUn_lst (n : Nat) (r : Tgs) (o : Bool) (xs : List T) (env : Env) : gUn n r (.lst o xs) env = if xs.length = n then r xs env else none := rfl
def atE (env : Env) (i : Nat) : Option T := match env[i]? with
  | some (some t) => some t
  | _ => none
@[simp] theorem atE_zero (t : T) (r : Env) : atE (some t :: r) 0 = some t := rfl
@[simp] theorem atE_zeroN (r : Env) : atE (none :: r) 0 = none := rfl
@[simp] theorem atE_succ (x : Option T) (r : Env) (i : Nat) : atE (x :: r) (i + 1) = atE r i := rfl
@[simp] theorem vw_s (env : Env) (i : Nat) : vw env (.s i) = atE env i := rfl
@[simp] theorem vw_t (env : Env) (t : T) : vw env (.t t) = some t := rfl
@[simp] theorem sto_t (env : Env) (t : T) : sto env (.t t) = some t := rfl
@[simp] theorem sto_s (env : Env) (i : Nat) : sto env (.s i) = (atE env i).bind fun t => if t.fz = true then some t else none := by
  simp only [sto, vw_s]
  cases atE env i <;> rfl
theorem atE_some {env : Env} {i : Nat} {t : T} (h : env[i]? = some (some t)) : atE env i = some t := by unfold atE; rw [h]
@[simp] theorem cV_def (i : Nat) (env : Env) : cV i env = (atE env i).bind fun _ => some (.s i, env) := by
  unfold cV atE
  cases env[i]? with
  | none => rfl
  | some x => cases x <;> rfl
@[simp] theorem cK_def (t : T) (env : Env) : cK t env = some (.t t, env) := rfl
@[simp] theorem cMv_def (i : Nat) (env : Env) : cMv i env = (atE env i).bind fun t => some (.t t, env.set i none) := by
  unfold cMv atE
  cases env[i]? with
  | none => rfl
  | some x => cases x <;> rfl
@[simp] theorem cFz_def (i : Nat) (env : Env) : cFz i env = (atE env i).bind fun t => some (.t t.er, env.set i (some t.er)) := by
  unfold cFz atE
  cases env[i]? with
  | none => rfl
  | some x => cases x <;> rfl
@[simp] theorem cO1_def (g : T → Option T) (a : Ev) (env : Env) : cO1 g a env = (a env).bind fun p => (vw p.2 p.1).bind fun x => (g x).bind fun t => some (.t t, p.2) := by
  unfold cO1
  cases a env with
  | none => rfl
  | some p =>
    simp only [Option.bind_some]
    cases vw p.2 p.1 with
    | none => rfl
    | some x => simp only [Option.bind_some]; cases g x <;> rfl
@[simp] theorem cO2_def (g : T → T → Option T) (a b : Ev) (env : Env) : cO2 g a b env = (a env).bind fun p => (b p.2).bind fun q => (vw q.2 p.1).bind fun x => (vw q.2 q.1).bind fun y => (g x y).bind fun t => some (.t t, q.2) := by
  unfold cO2
  cases a env with
  | none => rfl
  | some p =>
    simp only [Option.bind_some]
    cases b p.2 with
    | none => rfl
    | some q =>
      simp only [Option.bind_some]
      cases vw q.2 p.1 with
      | none => rfl
      | some x =>
        simp only [Option.bind_some]
        cases vw q.2 q.1 with
        | none => rfl
        | some y => simp only [Option.bind_some]; cases g x y <;> rfl
@[simp] theorem cON_def (g : List T → Option T) (a : Ea) (env : Env) : cON g a env = (a env).bind fun p => (vws p.2 p.1).bind fun x => (g x).bind fun t => some (.t t, p.2) := by
  unfold cON
  cases a env with
  | none => rfl
  | some p =>
    simp only [Option.bind_some]
    cases vws p.2 p.1 with
    | none => rfl
    | some x => simp only [Option.bind_some]; cases g x <;> rfl
@[simp] theorem vws_nil (env : Env) : vws env [] = some [] := rfl
@[simp] theorem vws_cons (env : Env) (o : Opd) (os : List Opd) : vws env (o :: os) = (vw env o).bind fun t => (vws env os).bind fun ts => some (t :: ts) := by
  rw [vws]
  cases vw env o with
  | none => rfl
  | some t => simp only [Option.bind_some]; cases vws env os <;> rfl
@[simp] theorem stos_nil (env : Env) : stos env [] = some [] := rfl
@[simp] theorem stos_cons (env : Env) (o : Opd) (os : List Opd) : stos env (o :: os) = (sto env o).bind fun t => (stos env os).bind fun ts => some (t :: ts) := by
  rw [stos]
  cases sto env o with
  | none => rfl
  | some t => simp only [Option.bind_some]; cases stos env os <;> rfl
@[simp] theorem aNil_def (env : Env) : aNil env = some ([], env) := rfl
@[simp] theorem aCons_def (a : Ev) (r : Ea) (env : Env) : aCons a r env = (a env).bind fun p => (r p.2).bind fun q => some (p.1 :: q.1, q.2) := by
  unfold aCons
  cases a env with
  | none => rfl
  | some p => simp only [Option.bind_some]; cases r p.2 <;> rfl
@[simp] theorem cLst_def (a : Ea) (env : Env) : cLst a env = (a env).bind fun p => (stos p.2 p.1).bind fun ts => if ts.length ≤ sizeLine then some (.t (.lst true ts), p.2) else none := by
  unfold cLst
  cases a env with
  | none => rfl
  | some p => simp only [Option.bind_some]; cases stos p.2 p.1 <;> rfl
@[simp] theorem cTup_def (a : Ea) (env : Env) : cTup a env = (a env).bind fun p => (stos p.2 p.1).bind fun ts => if ts.length ≤ sizeLine then some (.t (.tup (!fzL ts) ts), p.2) else none := by
  unfold cTup
  cases a env with
  | none => rfl
  | some p => simp only [Option.bind_some]; cases stos p.2 p.1 <;> rfl
@[simp] theorem cTest_def (a : Ev) (env : Env) : cTest a env = (a env).bind fun p => (vw p.2 p.1).bind fun t => match t with
    | .bl b => some (b, p.2)
    | _ => none := by
  unfold cTest
  cases a env with
  | none => rfl
  | some p =>
    simp only [Option.bind_some]
    cases vw p.2 p.1 with
    | none => rfl
    | some t => cases t <;> rfl
@[simp] theorem cAnd_def (a b : Et) (env : Env) : cAnd a b env = (a env).bind fun p => if p.1 = true then b p.2 else some (false, p.2) := by
  unfold cAnd
  cases a env with
  | none => rfl
  | some p => obtain ⟨c, e⟩ := p; cases c <;> rfl
@[simp] theorem cOr_def (a b : Et) (env : Env) : cOr a b env = (a env).bind fun p => if p.1 = true then some (true, p.2) else b p.2 := by
  unfold cOr
  cases a env with
  | none => rfl
  | some p => obtain ⟨c, e⟩ := p; cases c <;> rfl
@[simp] theorem cNot_def (a : Et) (env : Env) : cNot a env = (a env).bind fun p => some (!p.1, p.2) := by
  unfold cNot
  cases a env <;> rfl
@[simp] theorem cYes_def (env : Env) : cYes env = some (true, env) := rfl
@[simp] theorem cAndV_def (a b : Ev) (env : Env) : cAndV a b env = (a env).bind fun p => (vw p.2 p.1).bind fun t => match t with
    | .bl c => if c = true then b p.2 else some (.t (.bl false), p.2)
    | _ => none := by
  unfold cAndV
  cases a env with
  | none => rfl
  | some p =>
    simp only [Option.bind_some]
    cases vw p.2 p.1 with
    | none => rfl
    | some t => cases t with
      | bl c => cases c <;> rfl
      | _ => rfl
@[simp] theorem cOrV_def (a b : Ev) (env : Env) : cOrV a b env = (a env).bind fun p => (vw p.2 p.1).bind fun t => match t with
    | .bl c => if c = true then some (.t (.bl true), p.2) else b p.2
    | _ => none := by
  unfold cOrV
  cases a env with
  | none => rfl
  | some p =>
    simp only [Option.bind_some]
    cases vw p.2 p.1 with
    | none => rfl
    | some t => cases t with
      | bl c => cases c <;> rfl
      | _ => rfl
@[simp] theorem cNotV_def (a : Ev) (env : Env) : cNotV a env = (a env).bind fun p => (vw p.2 p.1).bind fun t => match t with
    | .bl c => some (.t (.bl (!c)), p.2)
    | _ => none := by
  unfold cNotV
  cases a env with
  | none => rfl
  | some p =>
    simp only [Option.bind_some]
    cases vw p.2 p.1 with
    | none => rfl
    | some t => cases t <;> rfl
@[simp] theorem cIf_def (c : Et) (a b : Ev) (env : Env) : cIf c a b env = (c env).bind fun p => if p.1 = true then a p.2 else b p.2 := by
  unfold cIf
  cases c env with
  | none => rfl
  | some p => obtain ⟨b, e⟩ := p; cases b <;> rfl
@[simp] theorem p0_def (env : Env) : p0 env = some (none, env) := rfl
@[simp] theorem p1_def (a : Ev) (env : Env) : p1 a env = (a env).bind fun p => (vw p.2 p.1).bind fun t => match t with
    | .int i => some (some i, p.2)
    | _ => none := by
  unfold p1
  cases a env with
  | none => rfl
  | some p =>
    simp only [Option.bind_some]
    cases vw p.2 p.1 with
    | none => rfl
    | some t => cases t <;> rfl
@[simp] theorem cSl_def (a : Ev) (lo hi : Po) (env : Env) : cSl a lo hi env = (a env).bind fun p => (lo p.2).bind fun q => (hi q.2).bind fun r => (vw r.2 p.1).bind fun x => (slT x q.1 r.1).bind fun t => some (.t t, r.2) := by
  unfold cSl
  cases a env with
  | none => rfl
  | some p =>
    simp only [Option.bind_some]
    cases lo p.2 with
    | none => rfl
    | some q =>
      simp only [Option.bind_some]
      cases hi q.2 with
      | none => rfl
      | some r =>
        simp only [Option.bind_some]
        cases vw r.2 p.1 with
        | none => rfl
        | some x => simp only [Option.bind_some]; cases slT x q.1 r.1 <;> rfl
@[simp] theorem cFr_def (a : Ev) (env : Env) : cFr a env = (a env).bind fun p => some (match p.1 with
    | .t x => .t x.er
    | .s i => .s i, p.2) := by
  unfold cFr
  cases a env with
  | none => rfl
  | some p => obtain ⟨o, e⟩ := p; cases o <;> rfl
@[simp] theorem ers_nil : ers [] = [] := rfl
@[simp] theorem ers_s (i : Nat) (r : List Opd) : ers (.s i :: r) = .s i :: ers r := rfl
@[simp] theorem ers_t (x : T) (r : List Opd) : ers (.t x :: r) = .t x.er :: ers r := rfl
@[simp] theorem cArgs_nil (env : Env) : cArgs [] [] env = some ([], env) := rfl
@[simp] theorem cArgs_io (m : List Bool) (i : Nat) (os : List Opd) (env : Env) : cArgs (true :: m) (.s i :: os) env = (atE env i).bind fun t => (cArgs m os (env.set i none)).bind fun p => some (t :: p.1, p.2) := by
  simp only [cArgs, atE]
  cases env[i]? with
  | none => rfl
  | some x =>
    cases x with
    | none => rfl
    | some t =>
      simp only [Option.bind_some]
      cases cArgs m os (env.set i none) <;> rfl
@[simp] theorem cArgs_s (m : List Bool) (i : Nat) (os : List Opd) (env : Env) : cArgs (false :: m) (.s i :: os) env = (atE env i).bind fun t => if t.fz = true then (cArgs m os env).bind fun p => some (t :: p.1, p.2) else none := by
  simp only [cArgs, atE]
  cases env[i]? with
  | none => rfl
  | some x =>
    cases x with
    | none => rfl
    | some t =>
      simp only [Option.bind_some]
      cases cArgs m os env <;> rfl
@[simp] theorem cArgs_t (m : List Bool) (x : T) (os : List Opd) (env : Env) : cArgs (false :: m) (.t x :: os) env = if x.fz = true then (cArgs m os env).bind fun p => some (x :: p.1, p.2) else none := by
  simp only [cArgs]
  cases cArgs m os env <;> rfl
@[simp] theorem cBack_nil (ts : List T) (env : Env) : cBack [] [] ts env = env := by cases ts <;> rfl
@[simp] theorem cBack_io (m : List Bool) (i : Nat) (os : List Opd) (t : T) (ts : List T) (env : Env) : cBack (true :: m) (.s i :: os) (t :: ts) env = cBack m os ts (env.set i (some t)) := rfl
@[simp] theorem cBack_f (m : List Bool) (o : Opd) (os : List Opd) (t : T) (ts : List T) (env : Env) : cBack (false :: m) (o :: os) (t :: ts) env = cBack m os ts env := by cases o <;> rfl
@[simp] theorem cCall_def (g : Fn) (m : List Bool) (a : Ea) (env : Env) : cCall g m a env = (a env).bind fun p => (cArgs m (ers p.1) p.2).bind fun q => (g q.1).bind fun r => some (.t r.1, cBack m (ers p.1) r.2 q.2) := by
  unfold cCall
  cases a env with
  | none => rfl
  | some p =>
    simp only [Option.bind_some]
    cases cArgs m (ers p.1) p.2 with
    | none => rfl
    | some q => simp only [Option.bind_some]; cases g q.1 <;> rfl
@[simp] theorem er_er_fz (t : T) : t.er.fz = true := er_fz t
mutual
theorem er_of_fz : ∀ {t : T}, t.fz = true → t.er = t
  | .non, _ => rfl
  | .bl _, _ => rfl
  | .int _, _ => rfl
  | .str _, _ => rfl
  | .scr _, _ => rfl
  | .lst o xs, h => by
    simp only [T.fz, Bool.and_eq_true, Bool.not_eq_true'] at h
    rw [T.er, h.1, erL_of_fz h.2]
  | .tup o xs, h => by
    simp only [T.fz, Bool.and_eq_true, Bool.not_eq_true'] at h
    rw [T.er, h.1, erL_of_fz h.2]
  | .dic o ks xs, h => by
    simp only [T.fz, Bool.and_eq_true, Bool.not_eq_true'] at h
    rw [T.er, h.1, erL_of_fz h.2]
  | .dtu o ks xs, h => by
    simp only [T.fz, Bool.and_eq_true, Bool.not_eq_true'] at h
    rw [T.er, h.1, erL_of_fz h.2]
theorem erL_of_fz : ∀ {ts : List T}, fzL ts = true → erL ts = ts
  | [], _ => rfl
  | x :: r, h => by
    simp only [fzL, Bool.and_eq_true] at h
    rw [erL, er_of_fz h.1, erL_of_fz h.2]
end
@[simp] theorem outs_nil (env : Env) : outsOf [] [] env = some [] := rfl
@[simp] theorem outs_io (m : List Bool) (t u : T) (ts : List T) (env : Env) : outsOf (true :: m) (u :: ts) (some t :: env) = (outsOf m ts env).bind fun us => some (t :: us) := by
  simp only [outsOf]
  cases outsOf m ts env <;> rfl
@[simp] theorem outs_f (m : List Bool) (x : Option T) (t : T) (ts : List T) (env : Env) : outsOf (false :: m) (t :: ts) (x :: env) = if t.fz = true then (outsOf m ts env).bind fun us => some (t :: us) else none := by
  simp only [outsOf]
  cases outsOf m ts env <;> rfl
def finB (m : List Bool) (ts : List T) : Option Out → Option (T × List T)
  | some (.rt t e) => (outsOf m ts e).bind fun us => some (t, us)
  | some (.nx e) => (outsOf m ts e).bind fun us => some (.non, us)
  | _ => none
@[simp] theorem finB_rt (m : List Bool) (ts : List T) (t : T) (e : Env) : finB m ts (some (.rt t e)) = (outsOf m ts e).bind fun us => some (t, us) := rfl
@[simp] theorem finB_nx (m : List Bool) (ts : List T) (e : Env) : finB m ts (some (.nx e)) = (outsOf m ts e).bind fun us => some (.non, us) := rfl
@[simp] theorem finB_none (m : List Bool) (ts : List T) : finB m ts none = none := rfl
@[simp] theorem finB_ite (m : List Bool) (ts : List T) (c : Prop) [Decidable c] (x y : Option Out) : finB m ts (if c then x else y) = if c then finB m ts x else finB m ts y := by split <;> rfl
@[simp] theorem runB_def (m : List Bool) (n : Nat) (b : S) (ts : List T) : runB m n b ts = finB m ts (b (ts.map some ++ List.replicate (n - ts.length) none)) := by
  unfold runB
  generalize b (ts.map some ++ List.replicate (n - ts.length) none) = o
  cases o with
  | none => rfl
  | some o =>
    cases o with
    | rt t e => simp only [finB]; cases outsOf m ts e <;> rfl
    | nx e => simp only [finB]; cases outsOf m ts e <;> rfl
    | bk e => rfl
    | ct e => rfl
/-- the list that a slot owns -/
def ownL (env : Env) (i : Nat) : Option (List T) := match atE env i with
  | some (.lst true xs) => some xs
  | _ => none
@[simp] theorem ownL_zero (xs : List T) (r : Env) : ownL (some (.lst true xs) :: r) 0 = some xs := rfl
@[simp] theorem ownL_succ (x : Option T) (r : Env) (i : Nat) : ownL (x :: r) (i + 1) = ownL r i := rfl
theorem at_ownL {env : Env} {i : Nat} {xs : List T} (h : env[i]? = some (some (.lst true xs))) : ownL env i = some xs := by unfold ownL atE; rw [h]
theorem at_nownL {env : Env} {i : Nat} (h : ∀ xs, env[i]? = some (some (.lst true xs)) → False) : ownL env i = none := by
  unfold ownL atE
  cases e : env[i]? with
  | none => rfl
  | some x =>
    cases x with
    | none => rfl
    | some t =>
      cases t with
      | lst o xs =>
        cases o with
        | true => exact (h xs e).elim
        | false => rfl
      | _ => rfl
@[simp] theorem cApp_def (i : Nat) (a : Ev) (env : Env) : cApp i a env = (ownL env i).bind fun _ => (a env).bind fun p => (ownL p.2 i).bind fun xs => (sto p.2 p.1).bind fun t => if xs.length < sizeLine then some (.t .non, p.2.set i (some (.lst true (xs ++ [t])))) else none := by
  unfold cApp
  split
  · next xs h =>
    rw [at_ownL h]
    cases a env with
    | none => rfl
    | some p =>
      simp only [Option.bind_some]
      split
      · next ys h2 =>
        rw [at_ownL h2]
        simp only [Option.bind_some]
        cases sto p.2 p.1 <;> rfl
      · next h2 => rw [at_nownL h2]; rfl
  · next h => rw [at_nownL h]; rfl
@[simp] theorem gIx_def (i : Nat) (k : Ev) (x : T) (env : Env) : gIx i k x env = (atE env i).bind fun _ => (k env).bind fun p => (vw p.2 p.1).bind fun t => match t with
    | .int n => (ownL p.2 i).bind fun xs => (ixN xs.length n).bind fun j => some (p.2.set i (some (.lst true (xs.set j x))))
    | _ => none := by
  unfold gIx
  split
  · next t h =>
    rw [atE_some h]
    cases k env with
    | none => rfl
    | some p =>
      simp only [Option.bind_some]
      cases vw p.2 p.1 with
      | none => rfl
      | some t => cases t with
        | int n =>
          simp only [Option.bind_some]
          split
          · next xs h2 =>
            rw [at_ownL h2]
            simp only [Option.bind_some]
            cases ixN xs.length n <;> rfl
          · next h2 => rw [at_nownL h2]; rfl
        | _ => rfl
  · next h =>
    have : atE env i = none := by
      unfold atE
      split
      · next t e => exact (h t e).elim
      · rfl
    rw [this]
    rfl
theorem atE_none {env : Env} {i : Nat} (h : ∀ t, env[i]? = some (some t) → False) : atE env i = none := by
  unfold atE
  split
  · next t e => exact (h t e).elim
  · rfl
@[simp] theorem cAug_def (i : Nat) (g : T → T → Option T) (a : Ev) (env : Env) : cAug i g a env = (atE env i).bind fun _ => (a env).bind fun p => (atE p.2 i).bind fun x => (vw p.2 p.1).bind fun y => (g x y).bind fun t => some (.nx (p.2.set i (some t))) := by
  unfold cAug
  split
  · next t h =>
    rw [atE_some h]
    simp only [Option.bind_some]
    cases a env with
    | none => rfl
    | some p =>
      simp only [Option.bind_some]
      split
      · next x h2 =>
        rw [atE_some h2]
        simp only [Option.bind_some]
        cases vw p.2 p.1 with
        | none => rfl
        | some y => simp only [Option.bind_some]; cases g x y <;> rfl
      · next h2 => rw [atE_none h2]; rfl
  · next h => rw [atE_none h]; rfl
@[simp] theorem opI_ints (g : Int → Int → Option Int) (i j : Int) : opI g (.int i) (.int j) = (g i j).bind fun k => some (.int k) := by
  simp only [opI]
  cases g i j <;> rfl
@[simp] theorem addT_ints (i j : Int) : addT (.int i) (.int j) = some (.int (i + j)) := rfl
@[simp] theorem addI_ints (i j : Int) : addI (.int i) (.int j) = some (.int (i + j)) := rfl
@[simp] theorem subI_ints (i j : Int) : subI (.int i) (.int j) = some (.int (i - j)) := rfl
@[simp] theorem subT_ints (i j : Int) : subT (.int i) (.int j) = some (.int (i - j)) := rfl
@[simp] theorem mulT_ints (i j : Int) : mulT (.int i) (.int j) = if okMul i j = true then some (.int (i * j)) else none := by
  unfold mulT
  rw [opI_ints]
  split <;> rfl
@[simp] theorem divT_ints (i j : Int) : divT (.int i) (.int j) = if 0 < j ∧ j < 1073741824 then some (.int (i / j)) else none := by
  unfold divT
  rw [opI_ints]
  split <;> rfl
@[simp] theorem modT_ints (i j : Int) : modT (.int i) (.int j) = if 0 < j then some (.int (i % j)) else none := by
  unfold modT
  rw [opI_ints]
  split <;> rfl
@[simp] theorem negT_int (i : Int) : negT (.int i) = some (.int (-i)) := rfl
@[simp] theorem ltT_ints (i j : Int) : ltT (.int i) (.int j) = some (.bl (decide (i < j))) := rfl
@[simp] theorem leT_ints (i j : Int) : leT (.int i) (.int j) = some (.bl (decide (i ≤ j))) := rfl
@[simp] theorem gtT_ints (i j : Int) : gtT (.int i) (.int j) = some (.bl (decide (j < i))) := rfl
@[simp] theorem geT_ints (i j : Int) : geT (.int i) (.int j) = some (.bl (decide (j ≤ i))) := rfl
@[simp] theorem eqT_ints (i j : Int) : eqT (.int i) (.int j) = some (.bl (decide (i = j))) := by
  simp only [eqT, T.dle, Bool.and_self, if_true, T.py, PyData.eqv]
  rfl
@[simp] theorem neT_ints (i j : Int) : neT (.int i) (.int j) = some (.bl (!decide (i = j))) := by
  simp only [neT, T.dle, Bool.and_self, if_true, T.py, PyData.eqv]
  rfl
@[simp] theorem isT_non (a : T) : isT a .non = some (.bl (isN a)) := rfl
@[simp] theorem isNotT_non (a : T) : isNotT a .non = some (.bl (!isN a)) := rfl
@[simp] theorem max2T_ints (i j : Int) : max2T [.int i, .int j] = some (.int (if j > i then j else i)) := rfl
@[simp] theorem min2T_ints (i j : Int) : min2T [.int i, .int j] = some (.int (if j < i then j else i)) := rfl
@[simp] theorem lenT_lst (o : Bool) (xs : List T) : lenT [.lst o xs] = some (.int xs.length) := rfl
@[simp] theorem lenT_tup (o : Bool) (xs : List T) : lenT [.tup o xs] = some (.int xs.length) := rfl
@[simp] theorem lenT_scr (ns : List Int) : lenT [.scr ns] = some (.int ns.length) := rfl
@[simp] theorem intT_int (i : Int) : intT [.int i] = some (.int i) := rfl
@[simp] theorem intT_bl (b : Bool) : intT [.bl b] = some (.int (if b then 1 else 0)) := rfl
@[simp] theorem listT_lst (o : Bool) (xs : List T) : listT [.lst o xs] = if fzL xs = true then some (.lst true xs) else none := rfl
@[simp] theorem listT_tup (o : Bool) (xs : List T) : listT [.tup o xs] = if fzL xs = true then some (.lst true xs) else none := rfl
@[simp] theorem ixT_lst (o : Bool) (xs : List T) (i : Int) : ixT (.lst o xs) (.int i) = (atI xs i).bind fun t => if t.fz = true then some t else none := by
  simp only [ixT]
  cases atI xs i <;> rfl
@[simp] theorem ixT_tup (o : Bool) (xs : List T) (i : Int) : ixT (.tup o xs) (.int i) = (atI xs i).bind fun t => if t.fz = true then some t else none := by
  simp only [ixT]
  cases atI xs i <;> rfl
@[simp] theorem ixT_scr (ns : List Int) (i : Int) : ixT (.scr ns) (.int i) = (atI ns i).bind fun n => some (.int n) := by
  simp only [ixT]
  cases atI ns i <;> rfl
@[simp] theorem atI_0 {α : Type} (x : α) (r : List α) : atI (x :: r) 0 = some x := atI_nat (j := 0) rfl
@[simp] theorem atI_1 {α : Type} (x y : α) (r : List α) : atI (x :: y :: r) 1 = some y := atI_nat (j := 1) rfl
@[simp] theorem atI_2 {α : Type} (x y z : α) (r : List α) : atI (x :: y :: z :: r) 2 = some z := atI_nat (j := 2) rfl
@[simp] theorem atI_3 {α : Type} (x y z u : α) (r : List α) : atI (x :: y :: z :: u :: r) 3 = some u := atI_nat (j := 3) rfl
@[simp] theorem atI_4 {α : Type} (x y z u v : α) (r : List α) : atI (x :: y :: z :: u :: v :: r) 4 = some v := atI_nat (j := 4) rfl
@[simp] theorem atI_5 {α : Type} (x y z u v w : α) (r : List α) : atI (x :: y :: z :: u :: v :: w :: r) 5 = some w := atI_nat (j := 5) rfl
theorem atI_of {α : Type} {xs : List α} {i : Int} {v : α} (h0 : 0 ≤ i) (h : xs[i.toNat]? = some v) : atI xs i = some v := by
  have := atI_nat h
  rw [Int.toNat_of_nonneg h0] at this
  exact this
@[simp] theorem ixN_0 (n : Nat) : ixN (n + 1) 0 = some 0 := by unfold ixN; rw [if_pos (by omega), if_pos (by omega)]; rfl
@[simp] theorem ixN_1 (n : Nat) : ixN (n + 2) 1 = some 1 := by unfold ixN; rw [if_pos (by omega), if_pos (by omega)]; rfl
@[simp] theorem fz_lst (o : Bool) (xs : List T) : (T.lst o xs).fz = (!o && fzL xs) := by rw [T.fz]
@[simp] theorem fz_tup (o : Bool) (xs : List T) : (T.tup o xs).fz = (!o && fzL xs) := by rw [T.fz]
@[simp] theorem fz_int (i : Int) : (T.int i).fz = true := rfl
@[simp] theorem fz_bl (i : Bool) : (T.bl i).fz = true := rfl
@[simp] theorem fz_str (i : Str) : (T.str i).fz = true := rfl
@[simp] theorem fz_non : T.non.fz = true := rfl
@[simp] theorem fz_scr (ns : List Int) : (T.scr ns).fz = true := rfl
@[simp] theorem fzL_nil : fzL [] = true := rfl
@[simp] theorem fzL_cons (x : T) (r : List T) : fzL (x :: r) = (x.fz && fzL r) := by rw [fzL]
@[simp] theorem er_lst (o : Bool) (xs : List T) : (T.lst o xs).er = .lst false (erL xs) := by rw [T.er]
@[simp] theorem er_tup (o : Bool) (xs : List T) : (T.tup o xs).er = .tup false (erL xs) := by rw [T.er]
@[simp] theorem er_int (i : Int) : (T.int i).er = .int i := rfl
@[simp] theorem er_bl (i : Bool) : (T.bl i).er = .bl i := rfl
@[simp] theorem er_str (i : Str) : (T.str i).er = .str i := rfl
@[simp] theorem er_non : T.non.er = .non := rfl
@[simp] theorem er_scr (ns : List Int) : (T.scr ns).er = .scr ns := rfl
@[simp] theorem erL_nil : erL [] = [] := rfl
@[simp] theorem erL_cons (x : T) (r : List T) : erL (x :: r) = x.er :: erL r := by rw [erL]
@[simp] theorem fzL_append (xs ys : List T) : fzL (xs ++ ys) = (fzL xs && fzL ys) := by
  induction xs with
  | nil => simp
  | cons x r ih => simp [ih, Bool.and_assoc]
@[simp] theorem fzL_ints (ns : List Int) : fzL (ns.map T.int) = true := by
  induction ns with
  | nil => rfl
  | cons n r ih => simp [ih]
@[simp] theorem sizeLine_1 : (1 : Nat) ≤ sizeLine := by decide
@[simp] theorem cIsi_def (c : String) (a : Ev) (env : Env) : cIsi c a env = cO1 (isiT c) a env := rfl
def lpK (o : Option Out) (k : Env → Option Out) : Option Out := match o with
  | some (.nx e) => k e
  | some (.ct e) => k e
  | some (.bk e) => some (.nx e)
  | some (.rt t e) => some (.rt t e)
  | none => none
@[simp] theorem lpK_nx (e : Env) (k : Env → Option Out) : lpK (some (.nx e)) k = k e := rfl
@[simp] theorem lpK_ct (e : Env) (k : Env → Option Out) : lpK (some (.ct e)) k = k e := rfl
@[simp] theorem lpK_bk (e : Env) (k : Env → Option Out) : lpK (some (.bk e)) k = some (.nx e) := rfl
@[simp] theorem lpK_rt (t : T) (e : Env) (k : Env → Option Out) : lpK (some (.rt t e)) k = some (.rt t e) := rfl
@[simp] theorem lpK_none (k : Env → Option Out) : lpK none k = none := rfl
@[simp] theorem lpK_ite (c : Prop) [Decidable c] (x y : Option Out) (k : Env → Option Out) : lpK (if c then x else y) k = if c then lpK x k else lpK y k := by split <;> rfl
@[simp] theorem loop_nil (g : Tg) (b : S) (env : Env) : loop g b [] env = some (.nx env) := rfl
@[simp] theorem loop_cons (g : Tg) (b : S) (x : T) (r : List T) (env : Env) : loop g b (x :: r) env = (g x env).bind fun e => lpK (b e) (loop g b r) := by
  rw [loop]
  cases g x env with
  | none => rfl
  | some e =>
    simp only [Option.bind_some]
    cases b e with
    | none => rfl
    | some o => cases o <;> rfl
@[simp] theorem cFor_def (it : It) (g : Tg) (b : S) (env : Env) : cFor it g b env = (it env).bind fun p => loop g b p.1 p.2 := by
  unfold cFor
  cases it env <;> rfl
/-- a loop that goes through, by what holds ahead of each turn -/
theorem loop_inv {g : Tg} {b : S} (P : Nat → Env → Prop) : ∀ (items : List T) (k : Nat) (env : Env), P k env →
    (∀ i x e, items[i]? = some x → P (k + i) e → ∃ e2, (g x e).bind b = some (.nx e2) ∧ P (k + i + 1) e2) → ∃ e', loop g b items env = some (.nx e') ∧ P (k + items.length) e'
  | [], k, env, h0, _ => ⟨env, rfl, h0⟩
  | x :: r, k, env, h0, hs => by
    obtain ⟨e2, h1, h2⟩ := hs 0 x env rfl h0
    obtain ⟨e', h3, h4⟩ := loop_inv P r (k + 1) e2 h2 fun i y e hi hp => by
      obtain ⟨e3, h5, h6⟩ := hs (i + 1) y e (by simpa using hi) (by rw [show k + (i + 1) = k + 1 + i by omega]; exact hp)
      exact ⟨e3, h5, by rw [show k + 1 + i + 1 = k + (i + 1) + 1 by omega]; exact h6⟩
    refine ⟨e', ?_, by rw [List.length_cons, show k + (r.length + 1) = k + 1 + r.length by omega]; exact h4⟩
    rw [loop_cons]
    cases q : g x env with
    | none => rw [q] at h1; cases h1
    | some e1 =>
      rw [q] at h1
      simp only [Option.bind_some] at h1 ⊢
      rw [h1, lpK_nx, h3]
theorem loop_rng {g : Tg} {b : S} (P : Nat → Env → Prop) {lo : Int} {n : Nat} {env : Env} (h0 : P 0 env) (hs : ∀ i e, i < n → P i e → ∃ e2, (g (.int (lo + (i : Int))) e).bind b = some (.nx e2) ∧ P (i + 1) e2) : ∃ e', loop g b (rngI lo n) env = some (.nx e') ∧ P n e' := by
  obtain ⟨e', h1, h2⟩ := loop_inv P (rngI lo n) 0 env h0 fun i x e hi hp => by
    obtain ⟨h3, rfl⟩ := rngI_at hi
    rw [Nat.zero_add] at hp ⊢
    exact hs i e h3 hp
  rw [rngI_len, Nat.zero_add] at h2
  exact ⟨e', h1, h2⟩
theorem loop_map {α : Type} {g : Tg} {b : S} (P : Nat → Env → Prop) {f : α → T} {xs : List α} {env : Env} (h0 : P 0 env) (hs : ∀ i e (h : i < xs.length), P i e → ∃ e2, (g (f xs[i]) e).bind b = some (.nx e2) ∧ P (i + 1) e2) : ∃ e', loop g b (xs.map f) env = some (.nx e') ∧ P xs.length e' := by
  obtain ⟨e', h1, h2⟩ := loop_inv P (xs.map f) 0 env h0 fun i x e hi hp => by
    have hl : i < xs.length := by
      have := (List.getElem?_eq_some_iff.mp hi).1
      rwa [List.length_map] at this
    rw [List.getElem?_map, List.getElem?_eq_getElem hl] at hi
    have hx : f xs[i] = x := Option.some.inj hi
    rw [Nat.zero_add] at hp ⊢
    rw [← hx]
    exact hs i e hl hp
  rw [List.length_map, Nat.zero_add] at h2
  exact ⟨e', h1, h2⟩
@[simp] theorem iLs_def (a : Ev) (env : Env) : iLs a env = (a env).bind fun p => match vw p.2 p.1 with
    | some (.lst false xs) => some (xs, p.2)
    | some (.lst true xs) => (match p.1 with
      | .t _ => if fzL xs = true then some (xs, p.2) else none
      | .s _ => none)
    | _ => none := by
  unfold iLs
  cases a env with
  | none => rfl
  | some p => rfl
@[simp] theorem iTp_def (a : Ev) (env : Env) : iTp a env = (a env).bind fun p => match vw p.2 p.1 with
    | some (.tup false xs) => some (xs, p.2)
    | _ => none := by
  unfold iTp
  cases a env with
  | none => rfl
  | some p => rfl
@[simp] theorem iR1_def (a : Ea) (env : Env) : iR1 a env = (a env).bind fun p => match vws p.2 p.1 with
    | some [.int j] => if inR j = true then some (rngI 0 j.toNat, p.2) else none
    | _ => none := by
  unfold iR1
  cases a env with
  | none => rfl
  | some p => rfl
@[simp] theorem iR2_def (a : Ea) (env : Env) : iR2 a env = (a env).bind fun p => match vws p.2 p.1 with
    | some [.int i, .int j] => if (inR i && inR j) = true then some (rngI i (j - i).toNat, p.2) else none
    | _ => none := by
  unfold iR2
  cases a env with
  | none => rfl
  | some p => rfl
theorem inR_of {i : Int} (h1 : -1000000000000000000 ≤ i) (h2 : i ≤ 1000000000000000000) : inR i = true := by
  simp only [inR_eq, Bool.and_eq_true, decide_eq_true_eq]
  omega
theorem okMul_l {i j : Int} (h1 : -1000000000000000000 ≤ i) (h2 : i ≤ 1000000000000000000) : okMul i j = true := by
  simp only [okMul_eq, Bool.or_eq_true, Bool.and_eq_true, decide_eq_true_eq]
  omega
theorem okMul_r {i j : Int} (h1 : -1000000000000000000 ≤ j) (h2 : j ≤ 1000000000000000000) : okMul i j = true := by
  simp only [okMul_eq, Bool.or_eq_true, Bool.and_eq_true, decide_eq_true_eq]
  omega
theorem sz {n : Nat} (h : n ≤ 100000) : n ≤ sizeLine := Nat.le_trans h (by decide)
theorem szl {n : Nat} (h : n ≤ 100000) : n < sizeLine := Nat.lt_of_le_of_lt h (by decide)
@[simp] theorem slT_lst (o : Bool) (xs : List T) (lo hi : Option Int) : slT (.lst o xs) lo hi = if fzL (cutL xs lo hi) = true then some (.lst true (cutL xs lo hi)) else none := rfl
@[simp] theorem slT_tup (xs : List T) (lo hi : Option Int) : slT (.tup false xs) lo hi = some (.tup false (cutL xs lo hi)) := rfl
theorem cutL_nat {α : Type} (xs : List α) (i j : Nat) (hij : i ≤ j) (hj : j ≤ xs.length) : cutL xs (some (i : Int)) (some (j : Int)) = (xs.drop i).take (j - i) := by
  unfold cutL
  rw [HT.sIx_nat, HT.sIx_nat, Nat.min_eq_left (Nat.le_trans hij hj), Nat.min_eq_left hj]
theorem fzL_take (n : Nat) : ∀ {xs : List T}, fzL xs = true → fzL (xs.take n) = true := by
  induction n with
  | zero => intro xs h; rfl
  | succ n ih =>
    intro xs h
    cases xs with
    | nil => rfl
    | cons x r =>
      simp only [fzL_cons, Bool.and_eq_true] at h
      simp [h.1, ih h.2]
theorem fzL_drop (n : Nat) : ∀ {xs : List T}, fzL xs = true → fzL (xs.drop n) = true := by
  induction n with
  | zero => intro xs h; exact h
  | succ n ih =>
    intro xs h
    cases xs with
    | nil => rfl
    | cons x r =>
      simp only [fzL_cons, Bool.and_eq_true] at h
      simp [ih h.2]
theorem fzL_map {α : Type} (g : α → T) (h : ∀ x, (g x).fz = true) : ∀ xs : List α, fzL (xs.map g) = true
  | [] => rfl
  | x :: r => by simp [h x, fzL_map g h r]
@[simp] theorem wipeE_nil (env : Env) : wipeE env [] = env := rfl
@[simp] theorem wipeE_cons (env : Env) (v : Nat) (vs : List Nat) : wipeE env (v :: vs) = (wipeE env vs).set v none := rfl
@[simp] theorem bring_nil (e0 e : Env) : bring e0 [] e = some e := rfl
@[simp] theorem bring_cons (e0 e : Env) (v : Nat) (vs : List Nat) : bring e0 (v :: vs) e = (bring e0 vs e).bind fun e1 => match atE e0 v with
    | some t => if t.fz = true then some (e1.set v (some t)) else none
    | none => some e1 := by
  rw [bring]
  cases bring e0 vs e with
  | none => rfl
  | some e1 =>
    simp only [Option.bind_some, atE]
    cases e0[v]? with
    | none => rfl
    | some x => cases x <;> rfl
@[simp] theorem cLc_def (n : Nat) (vs : List Nat) (it : It) (g : Tg) (c : Et) (a : Ev) (env : Env) : cLc n vs it g c a env = (it env).bind fun p => if p.2.length ≤ n then (lcLoop vs g c a p.1 [] (wipeE p.2 vs)).bind fun q => (bring p.2 vs q.2).bind fun e3 => some (.t (.lst true q.1), e3) else none := by
  unfold cLc
  cases it env with
  | none => rfl
  | some p =>
    simp only [Option.bind_some]
    split
    · cases lcLoop vs g c a p.1 [] (wipeE p.2 vs) with
      | none => rfl
      | some q =>
        simp only [Option.bind_some]
        cases bring p.2 vs q.2 <;> rfl
    · rfl
/-- a comprehension's turn -/
def lcTurn (vs : List Nat) (g : Tg) (c : Et) (a : Ev) (x : T) (acc : List T) (env : Env) : Option (List T × Env) :=
  (g x (wipeE env vs)).bind fun e1 => (c e1).bind fun p => if p.1 = true then (a p.2).bind fun q => (sto q.2 q.1).bind fun t => if acc.length < sizeLine then some (acc ++ [t], wipeE q.2 vs) else none else some (acc, wipeE p.2 vs)
@[simp] theorem lcLoop_nil (vs : List Nat) (g : Tg) (c : Et) (a : Ev) (acc : List T) (env : Env) : lcLoop vs g c a [] acc env = some (acc, env) := rfl
theorem lcLoop_cons (vs : List Nat) (g : Tg) (c : Et) (a : Ev) (x : T) (r acc : List T) (env : Env) : lcLoop vs g c a (x :: r) acc env = (lcTurn vs g c a x acc env).bind fun p => lcLoop vs g c a r p.1 p.2 := by
  rw [lcLoop]
  unfold lcTurn
  cases g x (wipeE env vs) with
  | none => rfl
  | some e1 =>
    simp only [Option.bind_some]
    cases c e1 with
    | none => rfl
    | some p =>
      obtain ⟨b, e2⟩ := p
      cases b with
      | false => rfl
      | true =>
        simp only [Option.bind_some, if_true]
        cases a e2 with
        | none => rfl
        | some q =>
          simp only [Option.bind_some]
          cases sto q.2 q.1 with
          | none => rfl
          | some t =>
            simp only [Option.bind_some]
            split <;> rfl
theorem lc_inv {vs : List Nat} {g : Tg} {c : Et} {a : Ev} (P : Nat → List T → Env → Prop) : ∀ (items : List T) (k : Nat) (acc : List T) (env : Env), P k acc env →
    (∀ i x acc e, items[i]? = some x → P (k + i) acc e → ∃ acc' e', lcTurn vs g c a x acc e = some (acc', e') ∧ P (k + i + 1) acc' e') → ∃ acc' e', lcLoop vs g c a items acc env = some (acc', e') ∧ P (k + items.length) acc' e'
  | [], k, acc, env, h0, _ => ⟨acc, env, rfl, h0⟩
  | x :: r, k, acc, env, h0, hs => by
    obtain ⟨a1, e1, h1, h2⟩ := hs 0 x acc env rfl h0
    obtain ⟨a2, e2, h3, h4⟩ := lc_inv P r (k + 1) a1 e1 h2 fun i y ac e hi hp => by
      obtain ⟨a3, e3, h5, h6⟩ := hs (i + 1) y ac e (by simpa using hi) (by rw [show k + (i + 1) = k + 1 + i by omega]; exact hp)
      exact ⟨a3, e3, h5, by rw [show k + 1 + i + 1 = k + (i + 1) + 1 by omega]; exact h6⟩
    refine ⟨a2, e2, ?_, by rw [List.length_cons, show k + (r.length + 1) = k + 1 + r.length by omega]; exact h4⟩
    rw [lcLoop_cons, h1, Option.bind_some, h3]
theorem lc_rng {vs : List Nat} {g : Tg} {c : Et} {a : Ev} (P : Nat → List T → Env → Prop) {lo : Int} {n : Nat} {env : Env} (h0 : P 0 [] env) (hs : ∀ i acc e, i < n → P i acc e → ∃ acc' e', lcTurn vs g c a (.int (lo + (i : Int))) acc e = some (acc', e') ∧ P (i + 1) acc' e') :
    ∃ acc' e', lcLoop vs g c a (rngI lo n) [] env = some (acc', e') ∧ P n acc' e' := by
  obtain ⟨a', e', h1, h2⟩ := lc_inv P (rngI lo n) 0 [] env h0 fun i x acc e hi hp => by
    obtain ⟨h3, rfl⟩ := rngI_at hi
    rw [Nat.zero_add] at hp ⊢
    exact hs i acc e h3 hp
  rw [rngI_len, Nat.zero_add] at h2
  exact ⟨a', e', h1, h2⟩
/-- each item kept by p as h says, the slots as they were -/
theorem lc_pure {α : Type} {vs : List Nat} {g : Tg} {c : Et} {a : Ev} {f : α → T} (p : α → Bool) (h : α → T) {env : Env} (ht : ∀ x acc, acc.length < sizeLine → lcTurn vs g c a (f x) acc env = some (if p x = true then acc ++ [h x] else acc, env)) :
    ∀ (xs : List α) (acc : List T), acc.length + xs.length ≤ sizeLine → lcLoop vs g c a (xs.map f) acc env = some (acc ++ (xs.filter p).map h, env)
  | [], acc, _ => by simp
  | x :: r, acc, hz => by
    rw [List.length_cons] at hz
    rw [List.map_cons, lcLoop_cons, ht x acc (by omega), Option.bind_some, lc_pure p h ht r _ (by split <;> simp <;> omega)]
    cases hp : p x <;> simp [hp]
theorem eqT_self {t : T} (h : t.dle 16 = true) : eqT t t = some (.bl true) := by
  unfold eqT
  rw [h]
  simp only [Bool.and_self, if_true]
  rw [SeqAt.eqv_refl_plain _ (dle_py _ _ h).1]
theorem neT_self {t : T} (h : t.dle 16 = true) : neT t t = some (.bl false) := by
  unfold neT
  rw [h]
  simp only [Bool.and_self, if_true]
  rw [SeqAt.eqv_refl_plain _ (dle_py _ _ h).1]
  rfl
theorem dleL_map {α : Type} (n : Nat) (f : α → T) (h : ∀ x, (f x).dle n = true) : ∀ xs : List α, dleL n (xs.map f) = true
  | [] => rfl
  | x :: r => by rw [List.map_cons, dleL, h x, dleL_map n f h r]; rfl
@[simp] theorem dle_lst (n : Nat) (o : Bool) (xs : List T) : (T.lst o xs).dle (n + 1) = dleL n xs := by rw [T.dle]
@[simp] theorem dle_tup (n : Nat) (o : Bool) (xs : List T) : (T.tup o xs).dle (n + 1) = dleL n xs := by rw [T.dle]
@[simp] theorem dle_int (n : Nat) (i : Int) : (T.int i).dle (n + 1) = true := by rw [T.dle]
@[simp] theorem dle_bl (n : Nat) (i : Bool) : (T.bl i).dle (n + 1) = true := by rw [T.dle]
@[simp] theorem dle_str (n : Nat) (i : Str) : (T.str i).dle (n + 1) = true := by rw [T.dle]
@[simp] theorem dle_non (n : Nat) : T.non.dle (n + 1) = true := by rw [T.dle]
@[simp] theorem dleL_nil (n : Nat) : dleL n [] = true := by rw [dleL]
@[simp] theorem dleL_cons (n : Nat) (x : T) (r : List T) : dleL n (x :: r) = (x.dle n && dleL n r) := by rw [dleL]
theorem kb_NoneType_int : kitB "NoneType" "int" = some false := by decide +kernel
@[simp] theorem isi_NoneType_int : isiT "int" .non = some (.bl false) := by simp only [isiT, tyN, kb_NoneType_int]
theorem kb_bool_int : kitB "bool" "int" = some true := by decide +kernel
@[simp] theorem isi_bool_int (b : Bool) : isiT "int" (.bl b) = some (.bl true) := by simp only [isiT, tyN, kb_bool_int]
theorem kb_int_int : kitB "int" "int" = some true := by decide +kernel
@[simp] theorem isi_int_int (i : Int) : isiT "int" (.int i) = some (.bl true) := by simp only [isiT, tyN, kb_int_int]
theorem kb_str_int : kitB "str" "int" = some false := by decide +kernel
@[simp] theorem isi_str_int (x : Str) : isiT "int" (.str x) = some (.bl false) := by simp only [isiT, tyN, kb_str_int]
theorem kb_list_int : kitB "list" "int" = some false := by decide +kernel
@[simp] theorem isi_list_int (o : Bool) (xs : List T) : isiT "int" (.lst o xs) = some (.bl false) := by simp only [isiT, tyN, kb_list_int]
theorem kb_tuple_int : kitB "tuple" "int" = some false := by decide +kernel
@[simp] theorem isi_tuple_int (o : Bool) (xs : List T) : isiT "int" (.tup o xs) = some (.bl false) := by simp only [isiT, tyN, kb_tuple_int]
theorem kb_NoneType_bool : kitB "NoneType" "bool" = some false := by decide +kernel
@[simp] theorem isi_NoneType_bool : isiT "bool" .non = some (.bl false) := by simp only [isiT, tyN, kb_NoneType_bool]
theorem kb_bool_bool : kitB "bool" "bool" = some true := by decide +kernel
@[simp] theorem isi_bool_bool (b : Bool) : isiT "bool" (.bl b) = some (.bl true) := by simp only [isiT, tyN, kb_bool_bool]
theorem kb_int_bool : kitB "int" "bool" = some false := by decide +kernel
@[simp] theorem isi_int_bool (i : Int) : isiT "bool" (.int i) = some (.bl false) := by simp only [isiT, tyN, kb_int_bool]
theorem kb_str_bool : kitB "str" "bool" = some false := by decide +kernel
@[simp] theorem isi_str_bool (x : Str) : isiT "bool" (.str x) = some (.bl false) := by simp only [isiT, tyN, kb_str_bool]
theorem kb_list_bool : kitB "list" "bool" = some false := by decide +kernel
@[simp] theorem isi_list_bool (o : Bool) (xs : List T) : isiT "bool" (.lst o xs) = some (.bl false) := by simp only [isiT, tyN, kb_list_bool]
theorem kb_tuple_bool : kitB "tuple" "bool" = some false := by decide +kernel
@[simp] theorem isi_tuple_bool (o : Bool) (xs : List T) : isiT "bool" (.tup o xs) = some (.bl false) := by simp only [isiT, tyN, kb_tuple_bool]
theorem kb_NoneType_str : kitB "NoneType" "str" = some false := by decide +kernel
@[simp] theorem isi_NoneType_str : isiT "str" .non = some (.bl false) := by simp only [isiT, tyN, kb_NoneType_str]
theorem kb_bool_str : kitB "bool" "str" = some false := by decide +kernel
@[simp] theorem isi_bool_str (b : Bool) : isiT "str" (.bl b) = some (.bl false) := by simp only [isiT, tyN, kb_bool_str]
theorem kb_int_str : kitB "int" "str" = some false := by decide +kernel
@[simp] theorem isi_int_str (i : Int) : isiT "str" (.int i) = some (.bl false) := by simp only [isiT, tyN, kb_int_str]
theorem kb_str_str : kitB "str" "str" = some true := by decide +kernel
@[simp] theorem isi_str_str (x : Str) : isiT "str" (.str x) = some (.bl true) := by simp only [isiT, tyN, kb_str_str]
theorem kb_list_str : kitB "list" "str" = some false := by decide +kernel
@[simp] theorem isi_list_str (o : Bool) (xs : List T) : isiT "str" (.lst o xs) = some (.bl false) := by simp only [isiT, tyN, kb_list_str]
theorem kb_tuple_str : kitB "tuple" "str" = some false := by decide +kernel
@[simp] theorem isi_tuple_str (o : Bool) (xs : List T) : isiT "str" (.tup o xs) = some (.bl false) := by simp only [isiT, tyN, kb_tuple_str]
theorem kb_NoneType_list : kitB "NoneType" "list" = some false := by decide +kernel
@[simp] theorem isi_NoneType_list : isiT "list" .non = some (.bl false) := by simp only [isiT, tyN, kb_NoneType_list]
theorem kb_bool_list : kitB "bool" "list" = some false := by decide +kernel
@[simp] theorem isi_bool_list (b : Bool) : isiT "list" (.bl b) = some (.bl false) := by simp only [isiT, tyN, kb_bool_list]
theorem kb_int_list : kitB "int" "list" = some false := by decide +kernel
@[simp] theorem isi_int_list (i : Int) : isiT "list" (.int i) = some (.bl false) := by simp only [isiT, tyN, kb_int_list]
theorem kb_str_list : kitB "str" "list" = some false := by decide +kernel
@[simp] theorem isi_str_list (x : Str) : isiT "list" (.str x) = some (.bl false) := by simp only [isiT, tyN, kb_str_list]
theorem kb_list_list : kitB "list" "list" = some true := by decide +kernel
@[simp] theorem isi_list_list (o : Bool) (xs : List T) : isiT "list" (.lst o xs) = some (.bl true) := by simp only [isiT, tyN, kb_list_list]
theorem kb_tuple_list : kitB "tuple" "list" = some false := by decide +kernel
@[simp] theorem isi_tuple_list (o : Bool) (xs : List T) : isiT "list" (.tup o xs) = some (.bl false) := by simp only [isiT, tyN, kb_tuple_list]
theorem kb_NoneType_tuple : kitB "NoneType" "tuple" = some false := by decide +kernel
@[simp] theorem isi_NoneType_tuple : isiT "tuple" .non = some (.bl false) := by simp only [isiT, tyN, kb_NoneType_tuple]
theorem kb_bool_tuple : kitB "bool" "tuple" = some false := by decide +kernel
@[simp] theorem isi_bool_tuple (b : Bool) : isiT "tuple" (.bl b) = some (.bl false) := by simp only [isiT, tyN, kb_bool_tuple]
theorem kb_int_tuple : kitB "int" "tuple" = some false := by decide +kernel
@[simp] theorem isi_int_tuple (i : Int) : isiT "tuple" (.int i) = some (.bl false) := by simp only [isiT, tyN, kb_int_tuple]
theorem kb_str_tuple : kitB "str" "tuple" = some false := by decide +kernel
@[simp] theorem isi_str_tuple (x : Str) : isiT "tuple" (.str x) = some (.bl false) := by simp only [isiT, tyN, kb_str_tuple]
theorem kb_list_tuple : kitB "list" "tuple" = some false := by decide +kernel
@[simp] theorem isi_list_tuple (o : Bool) (xs : List T) : isiT "tuple" (.lst o xs) = some (.bl false) := by simp only [isiT, tyN, kb_list_tuple]
theorem kb_tuple_tuple : kitB "tuple" "tuple" = some true := by decide +kernel
@[simp] theorem isi_tuple_tuple (o : Bool) (xs : List T) : isiT "tuple" (.tup o xs) = some (.bl true) := by simp only [isiT, tyN, kb_tuple_tuple]
theorem kb_NoneType_dict : kitB "NoneType" "dict" = some false := by decide +kernel
@[simp] theorem isi_NoneType_dict : isiT "dict" .non = some (.bl false) := by simp only [isiT, tyN, kb_NoneType_dict]
theorem kb_bool_dict : kitB "bool" "dict" = some false := by decide +kernel
@[simp] theorem isi_bool_dict (b : Bool) : isiT "dict" (.bl b) = some (.bl false) := by simp only [isiT, tyN, kb_bool_dict]
theorem kb_int_dict : kitB "int" "dict" = some false := by decide +kernel
@[simp] theorem isi_int_dict (i : Int) : isiT "dict" (.int i) = some (.bl false) := by simp only [isiT, tyN, kb_int_dict]
theorem kb_str_dict : kitB "str" "dict" = some false := by decide +kernel
@[simp] theorem isi_str_dict (x : Str) : isiT "dict" (.str x) = some (.bl false) := by simp only [isiT, tyN, kb_str_dict]
theorem kb_list_dict : kitB "list" "dict" = some false := by decide +kernel
@[simp] theorem isi_list_dict (o : Bool) (xs : List T) : isiT "dict" (.lst o xs) = some (.bl false) := by simp only [isiT, tyN, kb_list_dict]
theorem kb_tuple_dict : kitB "tuple" "dict" = some false := by decide +kernel
@[simp] theorem isi_tuple_dict (o : Bool) (xs : List T) : isiT "dict" (.tup o xs) = some (.bl false) := by simp only [isiT, tyN, kb_tuple_dict]
end LP
set_option maxRecDepth 100000
/-! LP: more operations. -/
namespace LP
open PySem L2
section
variable {K : PySem.W.Frag} {X : Cx} {a b : Expr} {ta tb : TE} {ea eb : Ev} {pos : Pos}
theorem okRep_ex : ∃ f : Nat → Int → Bool, ∀ n k, f n k = (decide (-1000000000 < k) && decide (k < 1000000000) && decide (n * k.toNat ≤ sizeLine)) := ⟨_, fun _ _ => rfl⟩
/-- few enough (not to be reckoned by the kernel) -/
noncomputable def okRep : Nat → Int → Bool := Classical.choose okRep_ex
theorem okRep_eq (n : Nat) (k : Int) : okRep n k = (decide (-1000000000 < k) && decide (k < 1000000000) && decide (n * k.toNat ≤ sizeLine)) := Classical.choose_spec okRep_ex n k
theorem okRep_of {n : Nat} {k : Int} (h1 : n ≤ 100) (h2 : -1000 ≤ k) (h3 : k ≤ 1000) : okRep n k = true := by
  have : n * k.toNat ≤ 100 * 1000 := Nat.mul_le_mul h1 (by omega)
  have : n * k.toNat ≤ sizeLine := Nat.le_trans this (by decide)
  simp only [okRep_eq, Bool.and_eq_true, decide_eq_true_eq]
  exact ⟨⟨by omega, by omega⟩, this⟩
/-- a list times an int -/
noncomputable def repT : T → T → Option T := fun a b => match a, b with
  | .lst _ xs, .int k => if fzL xs && okRep xs.length k then some (.lst true (List.replicate k.toNat xs).flatten) else none
  | _, _ => none
theorem Rls.rep {F O : Hp} {vs : List V} {ts : List T} (r : Rls K F O vs ts []) : ∀ n : Nat, Rls K F O (List.replicate n vs).flatten (List.replicate n ts).flatten []
  | 0 => .nil
  | n + 1 => by
    rw [List.replicate_succ, List.replicate_succ, List.flatten_cons, List.flatten_cons]
    exact r.append (Rls.rep r n)
theorem sRep : OSnd2 K rRep repT := by
  intro F O x y a b fa fb t d ha hb e Q q
  unfold repT at e
  split at e
  · split at e
    · next h =>
      cases e
      simp only [okRep_eq, Bool.and_eq_true, decide_eq_true_eq] at h
      obtain ⟨h1, ⟨h2, h3⟩, h4⟩ := h
      obtain ⟨p, vs, fs, rfl, h5, r1⟩ := ha.lstv d
      cases hb
      refine ⟨_, _, _, rfl, rfl, h5, ?_, ?_, ?_, ?_⟩
      · exact Int.le_trans (by decide) (Int.le_of_lt h2)
      · exact Int.lt_trans h3 (by decide)
      · rw [r1.len]; exact h4
      · exact q.newL d (Rls.rep (r1.own0 h1) _)
    · cases e
  · cases e
theorem xRep (ha : SE K X a ta ea) (hb : SE K X b tb eb) : SE K X (.BinOp a .Mult b pos) (tOp rRep ta tb) (cO2 repT ea eb) := by
  cases ha.k
  exact xOp op_rep sRep ha hb
end
@[simp] theorem repT_def (o : Bool) (xs : List T) (k : Int) : repT (.lst o xs) (.int k) = if (fzL xs && okRep xs.length k) = true then some (.lst true (List.replicate k.toNat xs).flatten) else none := rfl
@[simp] theorem aFz_def (a : Ea) (env : Env) : aFz a env = (a env).bind fun p => some (ers p.1, p.2) := by
  unfold aFz
  cases a env <;> rfl
@[simp] theorem iZp_def (a : Ea) (env : Env) : iZp a env = (aFz a env).bind fun p => (vws p.2 p.1).bind fun q => match q with
    | [.lst false xs, .lst false ys] => some (zipL xs ys, p.2)
    | _ => none := by
  unfold iZp
  cases aFz a env with
  | none => rfl
  | some p =>
    obtain ⟨os, e⟩ := p
    simp only [Option.bind_some]
    cases vws e os with
    | none => rfl
    | some q =>
      simp only [Option.bind_some]
      split
      · next h => cases h; rfl
      · next h =>
        split
        · next h2 => exact (h _ _ rfl).elim
        · rfl
@[simp] theorem iEn_def (a : Ea) (env : Env) : iEn a env = (aFz a env).bind fun p => (vws p.2 p.1).bind fun q => match q with
    | [.lst false xs] => some (enumL 0 xs, p.2)
    | _ => none := by
  unfold iEn
  cases aFz a env with
  | none => rfl
  | some p =>
    obtain ⟨os, e⟩ := p
    simp only [Option.bind_some]
    cases vws e os with
    | none => rfl
    | some q =>
      simp only [Option.bind_some]
      split
      · next h => cases h; rfl
      · next h =>
        split
        · next h2 => exact (h _ rfl).elim
        · rfl
@[simp] theorem cClr_def (i : Nat) (env : Env) : cClr i env = (ownL env i).bind fun _ => some (.t .non, env.set i (some (.lst true []))) := by
  unfold cClr
  split
  · next xs h => rw [at_ownL h]; rfl
  · next h => rw [at_nownL h]; rfl
@[simp] theorem cLend_def (a : Ev) (env : Env) : cLend a env = if ntE env = true then (a (erE env)).bind fun p => match p.1 with
    | .t r => if r.nl = true then some (.t r, env) else none
    | _ => none else none := by
  unfold cLend
  split
  · cases a (erE env) with
    | none => rfl
    | some p =>
      obtain ⟨o, e⟩ := p
      cases o <;> rfl
  · rfl
@[simp] theorem nt_lst (o : Bool) (xs : List T) : (T.lst o xs).nt = ntL xs := by rw [T.nt]
@[simp] theorem nt_tup (o : Bool) (xs : List T) : (T.tup o xs).nt = (!o && ntL xs) := by rw [T.nt]
@[simp] theorem nt_int (i : Int) : (T.int i).nt = true := rfl
@[simp] theorem nt_bl (i : Bool) : (T.bl i).nt = true := rfl
@[simp] theorem nt_str (i : Str) : (T.str i).nt = true := rfl
@[simp] theorem nt_non : T.non.nt = true := rfl
@[simp] theorem nt_scr (ns : List Int) : (T.scr ns).nt = true := rfl
@[simp] theorem ntL_nil : ntL [] = true := rfl
@[simp] theorem ntL_cons (x : T) (r : List T) : ntL (x :: r) = (x.nt && ntL r) := by rw [ntL]
theorem ntL_map {α : Type} (g : α → T) (h : ∀ x, (g x).nt = true) : ∀ xs : List α, ntL (xs.map g) = true
  | [] => rfl
  | x :: r => by simp [h x, ntL_map g h r]
@[simp] theorem ntL_ints (ns : List Int) : ntL (ns.map T.int) = true := ntL_map _ (fun _ => rfl) ns
@[simp] theorem erL_ints (ns : List Int) : erL (ns.map T.int) = ns.map T.int := erL_of_fz (fzL_ints ns)
@[simp] theorem nl_int (i : Int) : (T.int i).nl = true := rfl
@[simp] theorem nl_bl (i : Bool) : (T.bl i).nl = true := rfl
@[simp] theorem nl_str (i : Str) : (T.str i).nl = true := rfl
@[simp] theorem nl_non : T.non.nl = true := rfl
@[simp] theorem ntE_nil : ntE [] = true := rfl
@[simp] theorem ntE_none (r : Env) : ntE (none :: r) = ntE r := rfl
@[simp] theorem ntE_some (t : T) (r : Env) : ntE (some t :: r) = (t.nt && ntE r) := rfl
@[simp] theorem erE_nil : erE [] = [] := rfl
@[simp] theorem erE_none (r : Env) : erE (none :: r) = none :: erE r := rfl
@[simp] theorem erE_some (t : T) (r : Env) : erE (some t :: r) = some t.er :: erE r := rfl
@[simp] theorem addT_lst (o p : Bool) (xs ys : List T) : addT (.lst o xs) (.lst p ys) = if (fzL xs && fzL ys && decide (xs.length + ys.length ≤ sizeLine)) = true then some (.lst true (xs ++ ys)) else none := rfl
@[simp] theorem erL_append (xs ys : List T) : erL (xs ++ ys) = erL xs ++ erL ys := by
  induction xs with
  | nil => simp
  | cons x r ih => simp [ih]
end LP
set_option maxRecDepth 100000
/-! LP: dicts with plain keys; chains; sorted. -/
namespace LP
open PySem L2
section
variable {K : PySem.W.Frag} {X : Cx} {F O F' O' F1 O1 F2 O2 : Hp} {σ : L2.St} {env env' : Env} {f f1 f2 fp fp1 fp2 : List Addr} {pn : List Nat}
theorem Back.newD {ks : List Key} {vs : List V} {ts : List T} {Q : VK} (b : Back K F O (.dic true ks ts) Q) (d : Dis F O) (n : ks.length = vs.length) (h : Rls K F O vs ts []) : ∀ p, jn F O p = none → Q (.ref p) (upd (jn F O) p (.dK (ks.zip vs))) := fun p hp => by
  rw [upd_jn]
  refine b (.ref p) F _ [p] (d.updO (jn_none hp).1) (Stp.newO hp fun a z => List.mem_singleton.mp z) ?_ fun a => ?_
  · exact .dicO (fs := []) upd_same n (h.mono (Same.refl F) fun a z => by cases z)
  · exact Nat.le_trans (List.count_le_length ..) (Nat.le_refl _)
/-- {} -/
def cDct : Ev := fun env => some (.t (.dic true [] []), env)
theorem eDct : ESnd K tDNewK cDct := by
  intro env o env' h σ F O f a0 Q q
  cases h
  exact fun p hp => Back.newD (ks := []) (vs := []) (ts := []) (fin a0 Stp.refl q) a0.d rfl .nil p hp
/-- a dict that a slot owns is written -/
theorem wrD {i : Nat} {ks : List Key} {xs : List T} (a1 : At K σ F O env fp f) (al : ∀ a ∈ fp, ∃ o, O a = some o) (e : env[i]? = some (some (.dic true ks xs))) :
    ∃ p vs fs, σ[i]? = some (some (.ref p)) ∧ O p = some (.dK (ks.zip vs)) ∧ ks.length = vs.length ∧ Rls K F O vs xs fs ∧ ∀ (ks' : List Key) (vs' : List V) (ts' : List T) (fs' : List Addr), ks'.length = vs'.length → Rls K F O vs' ts' fs' → (∀ a, fs'.count a ≤ fs.count a + fp.count a) →
      ∃ f', At K σ F (upd O p (.dK (ks'.zip vs'))) (env.set i (some (.dic true ks' ts'))) [] f' ∧ Stp F O (fp ++ f) F (upd O p (.dK (ks'.zip vs'))) f' ∧ f'.count p = 1 := by
  obtain ⟨v, _, h1, h2, _⟩ := a1.e.get e
  obtain ⟨fq, f0, h3, h4, h5⟩ := a1.e.upd h1 e
  cases h3 with
  | dicO ho n0 r =>
    next p vs fs =>
    refine ⟨p, vs, fs, h1, ho, n0, r, fun ks' vs' ts' fs' n1 r' c => ?_⟩
    have n : ∀ a, fp.count a + ((if p = a then 1 else 0) + fs.count a + f0.count a) ≤ 1 := fun a => by
      have n1 := a1.nd a
      have n2 := h4 a
      rw [List.count_append] at n1
      rw [List.count_cons] at n2
      by_cases z : p = a
      · rw [if_pos z]
        rw [z, beq_self_eq_true, if_pos rfl] at n2
        omega
      · rw [if_neg z]
        rw [if_neg (by simpa using z)] at n2
        omega
    have np : ∀ {l : List Addr}, l.count p = 0 → ∀ a ∈ l, ∀ o, O a = some o → upd O p (.dK (ks'.zip vs')) a = some o := fun z a w o e => by
      rw [upd_ne fun q => by rw [q, mem_count] at w; omega]
      exact e
    have z1 := n p
    rw [if_pos rfl] at z1
    have c1 := c p
    obtain ⟨f', h6, h7⟩ := h5 F (upd O p (.dK (ks'.zip vs'))) (.dic true ks' ts') (p :: fs') (Same.refl F) (np (by omega)) (.dicO upd_same n1 (r'.mono (Same.refl F) (np (by omega))))
    have h8 : ∀ a, f'.count a = (if p = a then 1 else 0) + fs'.count a + f0.count a := fun a => by
      have := h7 a
      rw [List.count_cons] at this
      by_cases z : p = a
      · rw [if_pos z]
        rw [z, beq_self_eq_true, if_pos rfl] at this
        omega
      · rw [if_neg z]
        rw [if_neg (by simpa using z)] at this
        omega
    refine ⟨f', ⟨a1.d.updO (a1.d.noF ho), h6, fun a => ?_⟩, ⟨Same.refl F, fun a o z e => ?_, fun a z => .inl ?_, fun a z => ?_⟩, ?_⟩
    · rw [List.nil_append]
      have := h8 a
      have := n a
      have := c a
      omega
    · rw [upd_ne fun q => z ?_]
      · exact e
      · rw [q, mem_count, List.count_append]
        have := h4 p
        rw [List.count_cons, beq_self_eq_true, if_pos rfl] at this
        omega
    · rw [mem_count] at z ⊢
      rw [List.count_append]
      have e1 := h8 a
      have e2 := h4 a
      have e3 := c a
      rw [List.count_cons] at e2
      by_cases w : p = a
      · rw [w, beq_self_eq_true, if_pos rfl] at e2
        omega
      · rw [if_neg w] at e1
        rw [if_neg (by simpa using w)] at e2
        omega
    · rw [← upd_jn]
      by_cases w : a = p
      · rw [w, upd_same]; exact fun z => nomatch z
      · rw [upd_ne w]; exact z
    · have := h8 p
      rw [if_pos rfl] at this
      omega
/-! putting -/
def putKs {κ : Type} [DecidableEq κ] (ks : List κ) (k : κ) : List κ := if ks.any (fun k' => decide (k' = k)) = true then ks else ks ++ [k]
def putXs {κ : Type} [DecidableEq κ] {α : Type} (ks : List κ) (xs : List α) (k : κ) (x : α) : List α := if ks.any (fun k' => decide (k' = k)) = true then List.zipWith (fun k' y => if k' = k then x else y) ks xs else xs ++ [x]
theorem any_zip {κ : Type} [DecidableEq κ] {α : Type} (k : κ) : ∀ (ks : List κ) (vs : List α), ks.length = vs.length → ((ks.zip vs).any fun kv => decide (kv.1 = k)) = ks.any fun k' => decide (k' = k)
  | [], [], _ => rfl
  | [], _ :: _, h => by cases h
  | _ :: _, [], h => by cases h
  | k' :: ks, v :: vs, h => by
    rw [List.zip_cons_cons, List.any_cons, List.any_cons, any_zip k ks vs (by simpa using h)]
theorem map_zip {κ : Type} [DecidableEq κ] {α : Type} (k : κ) (x : α) : ∀ (ks : List κ) (vs : List α), ks.length = vs.length → ((ks.zip vs).map fun kv => if kv.1 = k then (kv.1, x) else kv) = ks.zip (List.zipWith (fun k' y => if k' = k then x else y) ks vs)
  | [], [], _ => rfl
  | [], _ :: _, h => by cases h
  | _ :: _, [], h => by cases h
  | k' :: ks, v :: vs, h => by
    rw [List.zip_cons_cons, List.map_cons, List.zipWith_cons_cons, List.zip_cons_cons, map_zip k x ks vs (by simpa using h)]
    split <;> rfl
theorem put_zip {κ : Type} [DecidableEq κ] (ks : List κ) (vs : List V) (n : ks.length = vs.length) (k : κ) (v : V) : putK (ks.zip vs) k v = (putKs ks k).zip (putXs ks vs k v) ∧ (putKs ks k).length = (putXs ks vs k v).length := by
  unfold putK putKs putXs
  rw [any_zip k ks vs n]
  split
  · exact ⟨map_zip k v ks vs n, by rw [List.length_zipWith, n]; omega⟩
  · refine ⟨?_, by rw [List.length_append, List.length_append, n]; rfl⟩
    rw [List.zip_append n]
    rfl
theorem Rls.zipPut {κ : Type} [DecidableEq κ] {v : V} {t : T} (h : Rl K F O v t []) (k : κ) : ∀ {ks : List κ} {vs : List V} {ts : List T} {g : List Addr}, Rls K F O vs ts g → ks.length = vs.length → ∃ g2, Rls K F O (List.zipWith (fun k' y => if k' = k then v else y) ks vs) (List.zipWith (fun k' y => if k' = k then t else y) ks ts) g2 ∧ ∀ a, g2.count a ≤ g.count a
  | [], _, _, _, .nil, _ => ⟨[], .nil, fun a => Nat.le_refl _⟩
  | [], _, _, _, .cons .., n => by cases n
  | _ :: _, _, _, _, .nil, n => by cases n
  | k' :: ks, _, _, _, .cons hv r, n => by
    obtain ⟨g2, h2, h3⟩ := Rls.zipPut h k (ks := ks) r (by simpa using n)
    rw [List.zipWith_cons_cons, List.zipWith_cons_cons]
    by_cases e : k' = k
    · rw [if_pos e, if_pos e]
      exact ⟨_, .cons h h2, fun a => by rw [List.count_append, List.count_append, List.count_nil]; have := h3 a; omega⟩
    · rw [if_neg e, if_neg e]
      exact ⟨_, .cons hv h2, fun a => by rw [List.count_append, List.count_append]; have := h3 a; omega⟩
theorem Rls.put {κ : Type} [DecidableEq κ] {v : V} {t : T} (h : Rl K F O v t []) (k : κ) {ks : List κ} {vs : List V} {ts : List T} {g : List Addr} (r : Rls K F O vs ts g) (n : ks.length = vs.length) : ∃ g2, Rls K F O (putXs ks vs k v) (putXs ks ts k t) g2 ∧ ∀ a, g2.count a ≤ g.count a := by
  unfold putXs
  split
  · exact Rls.zipPut h k r n
  · exact ⟨_, r.append (.cons h .nil), fun a => by simp only [List.append_nil]; exact Nat.le_refl _⟩
def keyT : T → Option Key
  | .int i => some (.inl i)
  | .str s => some (.inr s)
  | _ => none
theorem Rl.key {v : V} {t : T} {fp : List Addr} {k : Key} (h : Rl K F O v t fp) (e : keyT t = some k) : v = kV k ∧ fp = [] := by
  cases h <;> first | (cases e; exact ⟨rfl, rfl⟩) | cases e
/-- d[k] = .. (a target) -/
def gDx (i : Nat) (k : Ev) : Tg := fun x env => match env[i]? with
  | some (some _) => match k env with
    | some (o, e) => match vw e o with
      | some y => match keyT y with
        | some n => match e[i]? with
          | some (some (.dic true ks xs)) => if x.fz && decide (ks.length < 100000) then some (e.set i (some (.dic true (putKs ks n) (putXs ks xs n x)))) else none
          | _ => none
        | none => none
      | _ => none
    | none => none
  | _ => none
theorem tgDx {i : Nat} {tk : TE} {k : Ev} (hk : ESnd K tk k) : GSnd K pn (gSub (tVar i) tk rSetD) (gDx i k) := by
  intro x env env' h v σ F O fp f a0 r Q q
  simp only [gDx] at h
  split at h
  · next t0 h0 =>
    split at h
    · next o1 e1 h1 =>
      split at h
      · next y hn =>
        split at h
        · next n hk2 =>
          split at h
          · next ks xs hx =>
            split at h
            · next hj =>
              cases h
              simp only [Bool.and_eq_true, decide_eq_true_eq] at hj
              obtain ⟨v0, _, g0, _, _⟩ := a0.e.get h0
              refine ⟨v0, g0, ?_⟩
              refine hk _ _ _ h1 σ F O f a0.only _ fun vk F1 O1 fp1 f1 a1 s1 r1 => ?_
              obtain ⟨gk, wk, _⟩ := r1.view a1.e hn
              obtain ⟨rfl, _⟩ := wk.key hk2
              have r' := s1.snd.keep r fun a z => a0.nd.apart z
              have n1 : Nd (fp ++ f1) := s1.snd.nd r.alloc a0.nd a1.nd.right
              obtain ⟨p, vs, fs, g1, k1, n2, r2, w⟩ := wrD (⟨a1.d, a1.e, n1⟩ : At K σ F1 O1 e1 fp f1) r'.alloc hx
              rw [g0] at g1
              cases g1
              obtain ⟨g2, r3, c3⟩ := r2.put (r'.own0 hj.1) n n2
              obtain ⟨pz, pl⟩ := put_zip ks vs n2 n v
              obtain ⟨f', a2, s2, _⟩ := w (putKs ks n) _ _ g2 pl r3 fun a => Nat.le_trans (c3 a) (Nat.le_add_right _ _)
              show ∃ a H', V.ref p = .ref a ∧ DPut (jn F1 O1) a (kV n) v H' ∧ Q σ H'
              refine ⟨p, _, rfl, Or.inl ⟨ks.zip vs, n, jn_O k1, rfl, ?_, rfl⟩, ?_⟩
              · rw [List.length_zip, ← n2, Nat.min_self]
                exact Nat.lt_of_lt_of_le hj.2 (by decide)
              · rw [pz, upd_jn]
                exact q σ _ _ f' a2 ((s1.snd.frame (hs := fp)).trans s2) Same2.refl
            · cases h
          · cases h
        · cases h
      · cases h
    · cases h
  · cases h
/-- a op1 b op2 c, of ints -/
def cChn (g g' : T → T → Option T) (a b c : Ev) : Ev := fun env => match a env with
  | some (o1, e1) => match b e1 with
    | some (o2, e2) => match vw e2 o1, vw e2 o2 with
      | some (.int i), some (.int j) => match g (.int i) (.int j) with
        | some (.bl true) => match c e2 with
          | some (o3, e3) => match vw e3 o3 with
            | some z => match g' (.int j) z with
              | some t => some (.t t, e3)
              | none => none
            | none => none
          | none => none
        | some (.bl false) => some (.t (.bl false), e2)
        | _ => none
      | _, _ => none
    | none => none
  | none => none
theorem eChn {ta tb tc : TE} {ea eb ec : Ev} {r r' : R2} {g g' : T → T → Option T} (ha : ESnd K ta ea) (hb : ESnd K tb eb) (hc : ESnd K tc ec) (hr : ∀ F O i j b, g (.int i) (.int j) = some (.bl b) → ∀ Q : VK, Q (.bl b) (jn F O) → r (.int i) (.int j) (jn F O) Q)
    (hr' : OSnd2 K r' g') : ESnd K (tChain r r' ta tb tc) (cChn g g' ea eb ec) := by
  intro env o env' h σ F O f a0 Q q
  simp only [cChn] at h
  split at h
  · next o1 e1 h1 =>
    split at h
    · next o2 e2 h2 =>
      split at h
      · next i j hx hy =>
        split at h
        · next hg =>
          split at h
          · next o3 e3 h3 =>
            split at h
            · next z hz =>
              split at h
              · next t ht =>
                cases h
                refine ha _ _ _ h1 σ F O f a0 _ fun v F1 O1 fp1 f1 a1 s1 r1 => ?_
                refine hb _ _ _ h2 σ F1 O1 f1 a1.only _ fun v2 F2 O2 fp2 f2 a2 s2 r2 => ?_
                obtain ⟨g1, w1, _⟩ := (s2.keepO r1 fun a z => a1.nd.apart z).view a2.e hx
                obtain ⟨g2, w2, _⟩ := r2.view a2.e hy
                cases w1
                cases w2
                refine hr F2 O2 i j true hg _ ⟨true, rfl, ?_⟩
                show tc σ _ _
                refine hc _ _ _ h3 σ F2 O2 f2 a2.only _ fun v3 F3 O3 fp3 f3 a3 s3 r3 => ?_
                obtain ⟨g3, w3, _⟩ := r3.view a3.e hz
                exact hr' F3 O3 _ _ _ _ _ _ _ a3.d (.int j) w3 ht Q (fin a3 ((s1.snd.trans s2.snd).trans s3.snd) q)
              · cases h
            · cases h
          · cases h
        · next hg =>
          cases h
          refine ha _ _ _ h1 σ F O f a0 _ fun v F1 O1 fp1 f1 a1 s1 r1 => ?_
          refine hb _ _ _ h2 σ F1 O1 f1 a1.only _ fun v2 F2 O2 fp2 f2 a2 s2 r2 => ?_
          obtain ⟨g1, w1, _⟩ := (s2.keepO r1 fun a z => a1.nd.apart z).view a2.e hx
          obtain ⟨g2, w2, _⟩ := r2.view a2.e hy
          cases w1
          cases w2
          refine hr F2 O2 i j false hg _ ⟨false, rfl, ?_⟩
          show Q (.bl false) _
          exact Back.sc (t := .bl false) (fin a2 (s1.snd.trans s2.snd) q) a2.d (.bl false)
        · cases h
      · cases h
    · cases h
  · cases h
theorem cmp_int {c : Int → Int → Bool} : ∀ (F O : Hp) (i j : Int) (b : Bool), cmpT c (.int i) (.int j) = some (.bl b) → ∀ Q : VK, Q (.bl b) (jn F O) → (rI0 fun i j => V.bl (c i j)) (.int i) (.int j) (jn F O) Q := by
  intro F O i j b h Q q
  cases h
  exact ⟨i, j, rfl, rfl, q⟩
/-! sorted of a dict -/
def insI (n : Int) : List Int → List Int
  | [] => [n]
  | m :: r => if n ≤ m then n :: m :: r else m :: insI n r
def sortI : List Int → List Int
  | [] => []
  | n :: r => insI n (sortI r)
theorem insI_perm (n : Int) : ∀ xs : List Int, (insI n xs).Perm (n :: xs)
  | [] => .refl _
  | m :: r => by
    rw [insI]
    split
    · exact .refl _
    · exact ((insI_perm n r).cons m).trans (.swap n m r)
theorem sortI_perm : ∀ xs : List Int, (sortI xs).Perm xs
  | [] => .refl _
  | n :: r => (insI_perm n _).trans ((sortI_perm r).cons n)
theorem insI_srt (n : Int) : ∀ xs : List Int, xs.Pairwise (· ≤ ·) → (insI n xs).Pairwise (· ≤ ·)
  | [], _ => by simp [insI]
  | m :: r, h => by
    rw [List.pairwise_cons] at h
    rw [insI]
    split
    · next e =>
      refine List.pairwise_cons.mpr ⟨fun y hy => ?_, List.pairwise_cons.mpr h⟩
      rcases List.mem_cons.mp hy with e1 | e1
      · subst e1; exact e
      · exact Int.le_trans e (h.1 y e1)
    · next e =>
      refine List.pairwise_cons.mpr ⟨fun y hy => ?_, insI_srt n r h.2⟩
      rcases List.mem_cons.mp ((insI_perm n r).mem_iff.mp hy) with e1 | e1
      · subst e1; omega
      · exact h.1 y e1
theorem sortI_srt : ∀ xs : List Int, (sortI xs).Pairwise (· ≤ ·)
  | [] => .nil
  | n :: r => insI_srt n _ (sortI_srt r)
theorem srt_uniq : ∀ {l m : List Int}, l.Pairwise (· ≤ ·) → m.Pairwise (· ≤ ·) → l.Perm m → l = m
  | [], m, _, _, h => by rw [List.Perm.eq_nil (List.Perm.symm h)]
  | x :: r, [], _, _, h => by have := List.Perm.eq_nil h; cases this
  | x :: r, y :: s, h1, h2, h => by
    have h1' := List.pairwise_cons.mp h1
    have h2' := List.pairwise_cons.mp h2
    have e : x = y := by
      have a : x ∈ y :: s := h.mem_iff.mp (List.mem_cons_self ..)
      have b : y ∈ x :: r := h.mem_iff.mpr (List.mem_cons_self ..)
      rcases List.mem_cons.mp a with e | a
      · exact e
      · rcases List.mem_cons.mp b with e | b
        · exact e.symm
        · exact Int.le_antisymm (h1'.1 y b) (h2'.1 x a)
    subst e
    rw [srt_uniq h1'.2 h2'.2 (List.Perm.cons_inv h)]
def intKs : List Key → Option (List Int)
  | [] => some []
  | .inl i :: r => match intKs r with
    | some ns => some (i :: ns)
    | none => none
  | .inr _ :: _ => none
theorem intKs_eq : ∀ {ks : List Key} {ns : List Int}, intKs ks = some ns → ks = ns.map Sum.inl
  | [], _, h => by cases h; rfl
  | .inl i :: r, ns, h => by
    rw [intKs] at h
    split at h
    · next ms e => cases h; rw [intKs_eq e]; rfl
    · cases h
  | .inr _ :: _, _, h => by cases h
@[simp] theorem intKs_map : ∀ ns : List Int, intKs (ns.map Sum.inl) = some ns
  | [] => rfl
  | n :: r => by rw [List.map_cons, intKs, intKs_map r]
def sortDT : List T → Option T
  | [.dic _ ks _] => match intKs ks with
    | some ns => if ns.length < 64 then some (.lst true ((sortI ns).map T.int)) else none
    | none => none
  | _ => none
theorem zip_fst {α : Type} : ∀ (ks : List Key) (vs : List α), ks.length = vs.length → (ks.zip vs).map (·.1) = ks
  | [], [], _ => rfl
  | [], _ :: _, h => by cases h
  | _ :: _, [], h => by cases h
  | k' :: ks, v :: vs, h => by rw [List.zip_cons_cons, List.map_cons, zip_fst ks vs (by simpa using h)]
def rSortD : List V → Hp → VK → Prop := fun xs H Q => ∃ (a : Addr) (kvs : List (Key × V)) (ks : List Int), xs = [.ref a] ∧ Rd H a (.dK kvs) ∧ kvs.map (·.1) = ks.map Sum.inl ∧ ks.length < 64 ∧
    ∀ (ys : List Int) (p : Addr), ys.Perm ks → ys.Pairwise (· ≤ ·) → H p = none → Q (.ref p) (upd H p (.lst (ys.map V.int)))
theorem sSortD : OSndN K rSortD sortDT := by
  intro F O xs as fa t d ha e Q q
  unfold sortDT at e
  split at e
  · split at e
    · next ns hn =>
      split at e
      · next hl =>
        cases e
        obtain ⟨v, g, rfl, h⟩ := ha.one
        have key : ∃ a vs, v = .ref a ∧ Rd (jn F O) a (.dK ((ns.map Sum.inl).zip vs)) ∧ (ns.map Sum.inl : List Key).length = vs.length := by
          have hk := intKs_eq hn
          subst hk
          cases h with
          | dicF h n r => exact ⟨_, _, rfl, .inl (d.jn_F h), n⟩
          | dicO h n r => exact ⟨_, _, rfl, .inl (jn_O h), n⟩
        obtain ⟨a, vs, rfl, h1, h2⟩ := key
        refine ⟨a, _, ns, rfl, h1, zip_fst _ _ h2, hl, fun ys p hp hs hn => ?_⟩
        rw [srt_uniq hs (sortI_srt ns) (hp.trans (sortI_perm ns).symm)]
        exact q.newL d (Rls.mkInts _) p hn
      · cases e
    · cases e
  · cases e
end
section
variable {K : PySem.W.Frag} {X : Cx} {a b c e : Expr} {es : List Expr} {ta tb tc te : TE} {ea eb ec ev : Ev} {tas : TA} {eas : Ea} {pos p2 : Pos} {pn : List Nat}
theorem xDct (hk : X.K = K := by rfl) : SE K X (.Dict [] [] pos) tDNewK cDct := by
  cases hk
  exact ⟨pe_dnewK, eDct, rfl⟩
theorem xSortD (hcalm : X.calm = true) (hg : Gl X "sorted") (hm : X.mg "sorted" = none) (ha : SA K X [e] tas eas) (hst : starEach [e] X.env = (false, eval e X.env) :: starEach [] X.env := by rfl) : SE K X (.Call (.Name "sorted" p2) [e] [] pos) (tCB rSortD tas) (cON sortDT eas) := by
  cases ha.k
  exact xB (call_sortedDI hcalm) sSortD hg hm b_sorted ha (hst := hst) (hpl := rfl)
theorem xChn {op op' : CmpOp} {r r' : R2} {g g' : T → T → Option T} (ho : OpR X (compareOp op) r) (hr : ∀ F O i j b, g (.int i) (.int j) = some (.bl b) → ∀ Q : VK, Q (.bl b) (jn F O) → r (.int i) (.int j) (jn F O) Q) (ho' : OpR X (compareOp op') r') (hs : OSnd2 K r' g')
    (ha : SE K X a ta ea) (hb : SE K X b tb eb) (hc : SE K X c tc ec) (hm : lastMarks [op, op'] [b, c] = false := by with_unfolding_all rfl) : SE K X (.Compare a [op, op'] [b, c] pos) (tChain r r' ta tb tc) (cChn g g' ea eb ec) := by
  cases ha.k
  exact ⟨pe_chain ho ho' ha.p hb.p hc.p hm, eChn ha.s hb.s hc.s hr hs, rfl⟩
theorem yChn {op op' : CmpOp} {r r' : R2} {g g' : T → T → Option T} (ho : OpR X (compareOp op) r) (hr : ∀ F O i j b, g (.int i) (.int j) = some (.bl b) → ∀ Q : VK, Q (.bl b) (jn F O) → r (.int i) (.int j) (jn F O) Q) (ho' : OpR X (compareOp op') r') (hs : OSnd2 K r' g')
    (ha : SE K X a ta ea) (hb : SE K X b tb eb) (hc : SE K X c tc ec) (hm : lastMarks [op, op'] [b, c] = false := by with_unfolding_all rfl) : ST K X (.Compare a [op, op'] [b, c] pos) (tTest (tChain r r' ta tb tc)) (cTest (cChn g g' ea eb ec)) := by
  cases ha.k
  exact ⟨pt_chain ho ho' ha.p hb.p hc.p hm, tTest_ (eChn ha.s hb.s hc.s hr hs), rfl⟩
theorem gDx_ (hu : X.A.units + 64 < cLine) {i : Nat} {x : Str} (h : PE X (.Name x p2) (tVar i)) (hk : SE K X e te ev)
    (ha : ∀ v, assign (.Subscript (.Name x p2) e pos) X.env v = (do
      let ov ← holding [v] (eval (.Name x p2) X.env)
      let iv ← holding [v, ov] (eval e X.env)
      standAt pos
      holding [v, ov, iv] (setItem ov iv v)
      release [v, ov, iv] []) := by intro _; rfl) : SG K X pn (.Subscript (.Name x p2) e pos) (gSub (tVar i) te rSetD) (gDx i ev) := by
  cases hk.k
  exact ⟨pg_sub h hk.p (set_dict (by omega)) ha, tgDx hk.s, rfl⟩
/-- a call that is handed new things, to be changed -/
def cCallT (g : Fn) (m : List Bool) (a : Ea) : Ev := fun env => match a env with
  | some (os, e) => match stos e os with
    | some ts => if ts.length = m.length then match g ts with
      | some (r, outs) => some (.t r, e)
      | none => none
      else none
    | none => none
  | none => none
theorem eCallT {ta : TA} {a : Ea} {g : Fn} {m : List Bool} {E : XK} (ha : ASnd K ta a) : ESnd K (tCall (spF K m.length g) [] E ta) (cCallT g m a) := by
  intro env o env' h σ F O f a0 Q q
  simp only [cCallT] at h
  split at h
  · next os e h1 =>
    split at h
    · next ts h2 =>
      split at h
      · next hl =>
        split at h
        · next r outs h3 =>
          cases h
          refine ha _ _ _ h1 σ F O f a0 _ fun vs F1 O1 fp1 f1 a1 s1 r1 => ?_
          have r2 := RlOs.stores a1.e r1 h2
          rw [List.append_nil]
          refine ⟨_, _, ts, fp1, r, outs, ?_, rfl, a1.d, r2, a1.nd.left, h3, fun v F3 O3 fp3 g3 d3 s3 r3 ro n3 => ?_⟩
          · rw [r2.len, hl]
          · have e3 : RlE K F3 O3 σ _ f1 := a1.e.mono s3.f fun a z o e => s3.k a o (fun w => a1.nd.apart w z) e
            have big : Nd ((fp3 ++ g3) ++ f1) := n3.of a1.nd.right fun a z w => by
              rcases s3.n a z with q | q
              · exact a1.nd.apart q w
              · obtain ⟨o, e⟩ := a1.e.alloc a w
                rw [jn_O e] at q
                cases q
            have s4 : Stp F1 O1 (fp1 ++ f1) F3 O3 (fp3 ++ f1) := ⟨s3.f, fun a o z e => s3.k a o (fun w => z (List.mem_append_left _ w)) e, fun a z => by
              rcases List.mem_append.mp z with w | w
              · rcases s3.n a (List.mem_append_left _ w) with q | q
                · exact .inl (List.mem_append_left _ q)
                · exact .inr q
              · exact .inl (List.mem_append_right _ w), s3.g⟩
            exact q v F3 O3 fp3 f1 ⟨d3, e3, big.sub fun a => by simp only [List.count_append]; omega⟩ (s1.trans s4) r3
        · cases h
      · cases h
    · cases h
  · cases h
@[simp] theorem cCallT_def (g : Fn) (m : List Bool) (a : Ea) (env : Env) : cCallT g m a env = (a env).bind fun p => (stos p.2 p.1).bind fun ts => if ts.length = m.length then (g ts).bind fun r => some (.t r.1, p.2) else none := by
  unfold cCallT
  cases a env with
  | none => rfl
  | some p =>
    simp only [Option.bind_some]
    cases stos p.2 p.1 with
    | none => rfl
    | some q =>
      simp only [Option.bind_some]
      split
      · cases g q <;> rfl
      · rfl
@[simp] theorem cDct_def (env : Env) : cDct env = some (.t (.dic true [] []), env) := rfl
theorem xCallT {k j : Nat} {x : Str} {ps : List Str} {m : List Bool} {g : Fn} (C : Cal X.prog X.w K X.mg X.base j x ps m g) (hr : Room k X.A) (ha : SA K X (e :: es) tas eas) (hg : Gl X x := by rfl) (hj : j ≤ k := by decide)
    (hdb : (x == ("__debug__" : Str)) = false := by decide) (hst : starEach (e :: es) X.env = (false, eval e X.env) :: starEach es X.env := by rfl) (hpl : (backTo pos (starEach es X.env)).any (·.1) = false := by rfl) :
    SE K X (.Call (.Name x p2) (e :: es) [] pos) (tCall (spF K m.length g) [] E0 tas) (cCallT g m eas) := by
  cases ha.k
  obtain ⟨f, fd, h1, h2, h3, h4, _⟩ := C
  exact ⟨pe_call h1 (hr.mono hj) hg h2 h3 h4 .nil pass0 ha.p hdb hst hpl, eCallT ha.s, rfl⟩
end
def chnK (g g' : T → T → Option T) (x y : T) (env : Env) (c : Option (Opd × Env)) : Option (Opd × Env) := match x, y with
  | .int i, .int j => match g (.int i) (.int j) with
    | some (.bl true) => c.bind fun p => (vw p.2 p.1).bind fun z => (g' (.int j) z).bind fun t => some (.t t, p.2)
    | some (.bl false) => some (.t (.bl false), env)
    | _ => none
  | _, _ => none
theorem chn_le (i j : Int) (g' : T → T → Option T) (env : Env) (c : Option (Opd × Env)) : chnK leT g' (.int i) (.int j) env c = if i ≤ j then c.bind fun p => (vw p.2 p.1).bind fun z => (g' (.int j) z).bind fun t => some (.t t, p.2) else some (.t (.bl false), env) := by
  unfold chnK
  simp only [leT_ints]
  by_cases h : i ≤ j
  · simp only [decide_eq_true h, if_pos h]
  · simp only [decide_eq_false h, if_neg h]
@[simp] theorem cChn_def (g g' : T → T → Option T) (a b c : Ev) (env : Env) : cChn g g' a b c env = (a env).bind fun p => (b p.2).bind fun q => (vw q.2 p.1).bind fun x => (vw q.2 q.1).bind fun y => chnK g g' x y q.2 (c q.2) := by
  unfold cChn
  cases a env with
  | none => rfl
  | some p =>
    obtain ⟨o1, e1⟩ := p
    simp only [Option.bind_some]
    cases b e1 with
    | none => rfl
    | some q =>
      obtain ⟨o2, e2⟩ := q
      simp only [Option.bind_some]
      cases vw e2 o1 with
      | none => rfl
      | some x =>
        cases vw e2 o2 with
        | none => cases x <;> rfl
        | some y =>
          simp only [Option.bind_some, chnK]
          cases x <;> cases y <;> try rfl
          simp only []
          split
          · cases c e2 with
            | none => rfl
            | some r =>
              obtain ⟨o3, e3⟩ := r
              simp only [Option.bind_some]
              cases vw e3 o3 with
              | none => rfl
              | some z => simp only [Option.bind_some]; split <;> simp_all
          · rfl
          · rfl
def ownD (env : Env) (i : Nat) : Option (List Key × List T) := match atE env i with
  | some (.dic true ks xs) => some (ks, xs)
  | _ => none
@[simp] theorem ownD_zero (ks : List Key) (xs : List T) (r : Env) : ownD (some (.dic true ks xs) :: r) 0 = some (ks, xs) := rfl
@[simp] theorem ownD_succ (x : Option T) (r : Env) (i : Nat) : ownD (x :: r) (i + 1) = ownD r i := rfl
@[simp] theorem keyT_int (i : Int) : keyT (.int i) = some (.inl i) := rfl
theorem gDx_some {i : Nat} {k : Ev} {x : T} {env e : Env} {o : Opd} {y : T} {n : Key} {ks : List Key} {xs : List T} {t0 : T} (h0 : atE env i = some t0) (h1 : k env = some (o, e)) (h2 : vw e o = some y) (h3 : keyT y = some n) (h4 : ownD e i = some (ks, xs)) (h5 : x.fz = true) (h6 : ks.length < 100000) :
    gDx i k x env = some (e.set i (some (.dic true (putKs ks n) (putXs ks xs n x)))) := by
  have a0 : env[i]? = some (some t0) := by
    unfold atE at h0
    split at h0
    · next t e => rw [e, Option.some.inj h0]
    · cases h0
  have a1 : e[i]? = some (some (.dic true ks xs)) := by
    unfold ownD atE at h4
    cases e2 : e[i]? with
    | none => rw [e2] at h4; cases h4
    | some u =>
      rw [e2] at h4
      cases u with
      | none => cases h4
      | some v =>
        cases v with
        | dic b ks' xs' => cases b <;> cases h4; rfl
        | _ => cases h4
  unfold gDx
  rw [a0]
  simp only []
  rw [h1]
  simp only []
  rw [h2]
  simp only []
  rw [h3]
  simp only []
  rw [a1]
  simp only []
  rw [h5, decide_eq_true h6]
  rfl
theorem neT_lst_self (o p : Bool) (xs : List T) (h : dleL 15 xs = true) : neT (.lst o xs) (.lst p xs) = some (.bl false) := by
  have e : ∀ o, (T.lst o xs).dle 16 = true := fun o => by rw [dle_lst]; exact h
  unfold neT
  rw [e, e]
  simp only [Bool.and_self, if_true]
  have : (T.lst o xs).py = (T.lst p xs).py := rfl
  rw [this, SeqAt.eqv_refl_plain _ (dle_py _ _ (e p)).1]
  rfl
theorem eqT_lst_self (o p : Bool) (xs : List T) (h : dleL 15 xs = true) : eqT (.lst o xs) (.lst p xs) = some (.bl true) := by
  have e : ∀ o, (T.lst o xs).dle 16 = true := fun o => by rw [dle_lst]; exact h
  unfold eqT
  rw [e, e]
  simp only [Bool.and_self, if_true]
  have : (T.lst o xs).py = (T.lst p xs).py := rfl
  rw [this, SeqAt.eqv_refl_plain _ (dle_py _ _ (e p)).1]
theorem neT_lst_nil (o p : Bool) (xs : List T) (h : dleL 15 xs = true) : neT (.lst o xs) (.lst p []) = some (.bl (!xs.isEmpty)) := by
  have e : (T.lst o xs).dle 16 = true := by rw [dle_lst]; exact h
  have e2 : (T.lst p []).dle 16 = true := by rw [dle_lst]; rfl
  unfold neT
  rw [e, e2]
  simp only [Bool.and_self, if_true]
  cases xs <;> simp [T.py, pyL, PyData.eqv, PyData.eqvAll]
theorem dleL_ints (n : Nat) (ns : List Int) : dleL (n + 1) (ns.map T.int) = true := dleL_map _ _ (fun i => by simp) ns
/-- keys without twins -/
def putI (ks : List Int) (n : Int) : List Int := if n ∈ ks then ks else ks ++ [n]
theorem putKs_int (ks : List Int) (n : Int) : putKs (ks.map Sum.inl : List Key) (.inl n : Key) = ((putI ks n).map Sum.inl : List Key) := by
  unfold putKs putI
  have : (ks.map Sum.inl).any (fun k' : Key => decide (k' = .inl n)) = decide (n ∈ ks) := by
    rw [List.any_map]
    induction ks with
    | nil => rfl
    | cons x r ih =>
      rw [List.any_cons, ih]
      by_cases h : x = n
      · subst h; simp
      · have h' : ¬ n = x := fun z => h z.symm
        simp [h, h']
  rw [this]
  by_cases h : n ∈ ks
  · simp [h]
  · simp [h]
theorem putI_nodup {ks : List Int} {n : Int} (h : ks.Nodup) : (putI ks n).Nodup := by
  unfold putI
  split
  · exact h
  · next z =>
    rw [List.nodup_append]
    exact ⟨h, by simp, fun a ha b hb e => z (by rw [List.mem_singleton] at hb; rw [← hb, ← e]; exact ha)⟩
theorem putI_mem {ks : List Int} {n m : Int} : m ∈ putI ks n ↔ m ∈ ks ∨ m = n := by
  unfold putI
  split
  · next z => exact ⟨.inl, fun h => h.elim id fun e => e ▸ z⟩
  · simp
theorem putI_len {ks : List Int} {n : Int} : (putI ks n).length ≤ ks.length + 1 := by
  unfold putI
  split
  · omega
  · simp
end LP
set_option maxRecDepth 100000
/-! LP: dicts with tuples of plain keys. -/
namespace LP
open PySem L2
section
variable {K : PySem.W.Frag} {X : Cx} {F O F' O' F1 O1 F2 O2 : Hp} {σ : L2.St} {env env' : Env} {f f1 f2 fp fp1 fp2 : List Addr} {pn : List Nat}
theorem wrDT {i : Nat} {ks : List (List Key)} {xs : List T} (a1 : At K σ F O env fp f) (al : ∀ a ∈ fp, ∃ o, O a = some o) (e : env[i]? = some (some (.dtu true ks xs))) :
    ∃ p vs fs, σ[i]? = some (some (.ref p)) ∧ O p = some (.dT (ks.zip vs)) ∧ ks.length = vs.length ∧ Rls K F O vs xs fs ∧ ∀ (ks' : List (List Key)) (vs' : List V) (ts' : List T) (fs' : List Addr), ks'.length = vs'.length → Rls K F O vs' ts' fs' → (∀ a, fs'.count a ≤ fs.count a + fp.count a) →
      ∃ f', At K σ F (upd O p (.dT (ks'.zip vs'))) (env.set i (some (.dtu true ks' ts'))) [] f' ∧ Stp F O (fp ++ f) F (upd O p (.dT (ks'.zip vs'))) f' ∧ f'.count p = 1 := by
  obtain ⟨v, _, h1, h2, _⟩ := a1.e.get e
  obtain ⟨fq, f0, h3, h4, h5⟩ := a1.e.upd h1 e
  cases h3 with
  | dtuO ho n0 r =>
    next p vs fs =>
    refine ⟨p, vs, fs, h1, ho, n0, r, fun ks' vs' ts' fs' n1 r' c => ?_⟩
    have n : ∀ a, fp.count a + ((if p = a then 1 else 0) + fs.count a + f0.count a) ≤ 1 := fun a => by
      have n1 := a1.nd a
      have n2 := h4 a
      rw [List.count_append] at n1
      rw [List.count_cons] at n2
      by_cases z : p = a
      · rw [if_pos z]
        rw [z, beq_self_eq_true, if_pos rfl] at n2
        omega
      · rw [if_neg z]
        rw [if_neg (by simpa using z)] at n2
        omega
    have np : ∀ {l : List Addr}, l.count p = 0 → ∀ a ∈ l, ∀ o, O a = some o → upd O p (.dT (ks'.zip vs')) a = some o := fun z a w o e => by
      rw [upd_ne fun q => by rw [q, mem_count] at w; omega]
      exact e
    have z1 := n p
    rw [if_pos rfl] at z1
    have c1 := c p
    obtain ⟨f', h6, h7⟩ := h5 F (upd O p (.dT (ks'.zip vs'))) (.dtu true ks' ts') (p :: fs') (Same.refl F) (np (by omega)) (.dtuO upd_same n1 (r'.mono (Same.refl F) (np (by omega))))
    have h8 : ∀ a, f'.count a = (if p = a then 1 else 0) + fs'.count a + f0.count a := fun a => by
      have := h7 a
      rw [List.count_cons] at this
      by_cases z : p = a
      · rw [if_pos z]
        rw [z, beq_self_eq_true, if_pos rfl] at this
        omega
      · rw [if_neg z]
        rw [if_neg (by simpa using z)] at this
        omega
    refine ⟨f', ⟨a1.d.updO (a1.d.noF ho), h6, fun a => ?_⟩, ⟨Same.refl F, fun a o z e => ?_, fun a z => .inl ?_, fun a z => ?_⟩, ?_⟩
    · rw [List.nil_append]
      have := h8 a
      have := n a
      have := c a
      omega
    · rw [upd_ne fun q => z ?_]
      · exact e
      · rw [q, mem_count, List.count_append]
        have := h4 p
        rw [List.count_cons, beq_self_eq_true, if_pos rfl] at this
        omega
    · rw [mem_count] at z ⊢
      rw [List.count_append]
      have e1 := h8 a
      have e2 := h4 a
      have e3 := c a
      rw [List.count_cons] at e2
      by_cases w : p = a
      · rw [w, beq_self_eq_true, if_pos rfl] at e2
        omega
      · rw [if_neg w] at e1
        rw [if_neg (by simpa using w)] at e2
        omega
    · rw [← upd_jn]
      by_cases w : a = p
      · rw [w, upd_same]; exact fun z => nomatch z
      · rw [upd_ne w]; exact z
    · have := h8 p
      rw [if_pos rfl] at this
      omega

theorem Back.newDT {ks : List (List Key)} {vs : List V} {ts : List T} {Q : VK} (b : Back K F O (.dtu true ks ts) Q) (d : Dis F O) (n : ks.length = vs.length) (h : Rls K F O vs ts []) : ∀ p, jn F O p = none → Q (.ref p) (upd (jn F O) p (.dT (ks.zip vs))) := fun p hp => by
  rw [upd_jn]
  refine b (.ref p) F _ [p] (d.updO (jn_none hp).1) (Stp.newO hp fun a z => List.mem_singleton.mp z) ?_ fun a => ?_
  · exact .dtuO (fs := []) upd_same n (h.mono (Same.refl F) fun a z => by cases z)
  · exact Nat.le_trans (List.count_le_length ..) (Nat.le_refl _)
/-- {} -/
def cDctT : Ev := fun env => some (.t (.dtu true [] []), env)
theorem eDctT : ESnd K tDNewT cDctT := by
  intro env o env' h σ F O f a0 Q q
  cases h
  exact fun p hp => Back.newDT (ks := []) (vs := []) (ts := []) (fin a0 Stp.refl q) a0.d rfl .nil p hp
def keysT : List T → Option (List Key)
  | [] => some []
  | t :: r => match keyT t, keysT r with
    | some k, some ks => some (k :: ks)
    | _, _ => none
theorem Rls.keys : ∀ {vs : List V} {ts : List T} {fp : List Addr} {ks : List Key}, Rls K F O vs ts fp → keysT ts = some ks → vs = ks.map kV ∧ fp = []
  | _, _, _, _, .nil, e => by cases e; exact ⟨rfl, rfl⟩
  | _, _, _, _, .cons h r, e => by
    simp only [keysT] at e
    split at e
    · next k ks h1 h2 =>
      cases e
      obtain ⟨rfl, rfl⟩ := h.key h1
      obtain ⟨rfl, rfl⟩ := Rls.keys r h2
      exact ⟨rfl, rfl⟩
    · cases e
theorem valV_zip {κ : Type} [DecidableEq κ] (k : κ) : ∀ (ks : List κ) (vs : List V), ks.length = vs.length → (valV (ks.zip vs) k).isSome = (ks.any fun k' => decide (k' = k))
  | [], [], _ => rfl
  | [], _ :: _, h => by cases h
  | _ :: _, [], h => by cases h
  | k' :: ks, v :: vs, h => by
    rw [List.zip_cons_cons]
    by_cases e : k' = k
    · rw [valV_pos e, e]
      simp
    · rw [valV_neg e, valV_zip k ks vs (by simpa using h)]
      simp [e]
/-- (a, ..) in d -/
def cInT (a : Ea) (d : Ev) : Ev := fun env => match a env with
  | some (os, e) => match stos e os with
    | some ts => match keysT ts with
      | some k => if k.length < 100 then match d e with
        | some (o2, e2) => match vw e2 o2 with
          | some (.dtu _ ks _) => some (.t (.bl (ks.any fun k' => decide (k' = k))), e2)
          | _ => none
        | none => none
        else none
      | none => none
    | none => none
  | none => none
/-- a new tuple of keys -/
theorem At.tup {vs : List V} {p : Addr} (a : At K σ F O env fp f) (hp : jn F O p = none) : At K σ (upd F p (.tup vs)) O env [] f := ⟨a.d.updF (jn_none hp).2, a.e.mono (same_new (jn_none hp).1) fun _ _ _ e => e, a.nd.right⟩
theorem stp_new {p : Addr} {o : HO} {fs : List Addr} (hp : jn F O p = none) : Stp F O fs (upd F p o) O fs := by
  have z := (Stp.newF (o := o) hp).frame (hs := fs)
  simpa only [List.append_nil] using z
theorem eInT {ta : TA} {td : TE} {ea : Ea} {ed : Ev} (ha : ASnd K ta ea) (hd : ESnd K td ed) : ESnd K (tDIn (tTup ta) td) (cInT ea ed) := by
  intro env o env' h σ F O f a0 Q q
  simp only [cInT] at h
  split at h
  · next os e1 h1 =>
    split at h
    · next ts h2 =>
      split at h
      · next k hk =>
        split at h
        · next hl =>
          split at h
          · next o2 e2 h3 =>
            split at h
            · next ow ks xs hx =>
              cases h
              refine ha _ _ _ h1 σ F O f a0 _ fun vs F1 O1 fp1 f1 a1 s1 r1 => ?_
              have r2 := r1.stores a1.e h2
              obtain ⟨rfl, rfl⟩ := r2.keys hk
              refine ⟨by rw [List.length_map]; exact Nat.le_of_lt (Nat.lt_of_lt_of_le hl (by decide)), fun p hp => ?_⟩
              rw [upd_jnF (jn_none hp).2]
              refine hd _ _ _ h3 σ _ O1 f1 (At.tup a1 hp) _ fun v2 F2 O2 fp2 f2 a2 s2 r3 => ?_
              obtain ⟨g2, w2, _⟩ := r3.view a2.e hx
              have hb : jn F2 O2 p = some (.tup (k.map kV)) := a2.d.jn_F (s2.f _ _ upd_same)
              have z0 : Stp F1 O1 f1 (upd F1 p (.tup (k.map kV))) O1 f1 := stp_new hp
              have s3 : Stp F O f F2 O2 f2 := (s1.snd.trans z0).trans s2.snd
              have bk : Back K F2 O2 (.bl (ks.any fun k' => decide (k' = k))) Q := fin a2 s3 q
              cases w2 with
              | dtuF h n r => exact ⟨_, valV (ks.zip _) k, rfl, .inr ⟨_, k, p, .inl (a2.d.jn_F h), rfl, hb, rfl⟩, by rw [valV_zip k ks _ n]; exact bk.sc a2.d (.bl _)⟩
              | dtuO h n r => exact ⟨_, valV (ks.zip _) k, rfl, .inr ⟨_, k, p, .inl (jn_O h), rfl, hb, rfl⟩, by rw [valV_zip k ks _ n]; exact bk.sc a2.d (.bl _)⟩
            · cases h
          · cases h
        · cases h
      · cases h
    · cases h
  · cases h
/-- d[a, ..] = .. (a target) -/
def gDxT (i : Nat) (k : Ea) : Tg := fun x env => match env[i]? with
  | some (some _) => match k env with
    | some (o, e) => match stos e o with
      | some y => match keysT y with
        | some n => match e[i]? with
          | some (some (.dtu true ks xs)) => if x.fz && decide (ks.length < 100000) && decide (n.length < 100) then some (e.set i (some (.dtu true (putKs ks n) (putXs ks xs n x)))) else none
          | _ => none
        | none => none
      | _ => none
    | none => none
  | _ => none
theorem tgDxT {i : Nat} {tk : TA} {k : Ea} (hk : ASnd K tk k) : GSnd K pn (gSub (tVar i) (tTup tk) rSetD) (gDxT i k) := by
  intro x env env' h v σ F O fp f a0 r Q q
  simp only [gDxT] at h
  split at h
  · next t0 h0 =>
    split at h
    · next o1 e1 h1 =>
      split at h
      · next y hn =>
        split at h
        · next n hk2 =>
          split at h
          · next ks xs hx =>
            split at h
            · next hj =>
              cases h
              simp only [Bool.and_eq_true, decide_eq_true_eq] at hj
              obtain ⟨v0, _, g0, _, _⟩ := a0.e.get h0
              refine ⟨v0, g0, ?_⟩
              refine hk _ _ _ h1 σ F O f a0.only _ fun vk F1 O1 fp1 f1 a1 s1 r1 => ?_
              have wk := r1.stores a1.e hn
              obtain ⟨rfl, rfl⟩ := wk.keys hk2
              refine ⟨by rw [List.length_map]; exact Nat.le_of_lt (Nat.lt_of_lt_of_le hj.2 (by decide)), fun b hb => ?_⟩
              rw [upd_jnF (jn_none hb).2]
              have a2 := At.tup (vs := n.map kV) a1 hb
              have st : Stp F O f (upd F1 b (.tup (n.map kV))) O1 f1 := s1.snd.trans (stp_new hb)
              have r' := st.keep r fun a z => a0.nd.apart z
              have n1 : Nd (fp ++ f1) := st.nd r.alloc a0.nd a2.nd.right
              obtain ⟨p, vs, fs, g1, k1, n2, r2, w⟩ := wrDT (⟨a2.d, a2.e, n1⟩ : At K σ (upd F1 b (.tup (n.map kV))) O1 e1 fp f1) r'.alloc hx
              rw [g0] at g1
              cases g1
              obtain ⟨g2, r3, c3⟩ := r2.put (r'.own0 hj.1.1) n n2
              obtain ⟨pz, pl⟩ := put_zip ks vs n2 n v
              obtain ⟨f', a3, s3, _⟩ := w (putKs ks n) _ _ g2 pl r3 fun a => Nat.le_trans (c3 a) (Nat.le_add_right _ _)
              show ∃ a H', V.ref p = .ref a ∧ DPut (jn (upd F1 b (.tup (n.map kV))) O1) a (.ref b) v H' ∧ Q σ H'
              refine ⟨p, _, rfl, Or.inr ⟨ks.zip vs, n, b, jn_O k1, rfl, a2.d.jn_F upd_same, ?_, rfl⟩, ?_⟩
              · rw [List.length_zip, ← n2, Nat.min_self]
                exact Nat.lt_of_lt_of_le hj.1.2 (by decide)
              · rw [pz, upd_jn]
                exact q σ _ _ f' a3 ((st.frame (hs := fp)).trans s3) Same2.refl
            · cases h
          · cases h
        · cases h
      · cases h
    · cases h
  · cases h
end
section
variable {K : PySem.W.Frag} {X : Cx} {a b c e d : Expr} {es : List Expr} {ta tb tc te td : TE} {ea eb ec ev ed : Ev} {tas : TA} {eas : Ea} {pos p2 p3 : Pos} {pn : List Nat}
theorem xDctT (hk : X.K = K := by rfl) : SE K X (.Dict [] [] pos) tDNewT cDctT := by
  cases hk
  exact ⟨pe_dnewT, eDctT, rfl⟩
theorem xInT (hu : X.A.units + 64 < cLine) {k : Nat} (ha : SA K X es tas eas) (hd : SE K X d td ed) (h1 : behindInMarks .In d = false := by first | exact nobehind _ (by decide) (by decide) | rfl) : SE K X (.Compare (.Tuple es k p3) [.In] [d] pos) (tDIn (tTup tas) td) (cInT eas ed) := by
  cases ha.k
  exact ⟨pe_cmp (pc_din (by omega) (pe_tup ha.p) hd.p) h1, eInT ha.s hd.s, rfl⟩
theorem yInT (hu : X.A.units + 64 < cLine) {k : Nat} (ha : SA K X es tas eas) (hd : SE K X d td ed) (h1 : behindInMarks .In d = false := by first | exact nobehind _ (by decide) (by decide) | rfl) : ST K X (.Compare (.Tuple es k p3) [.In] [d] pos) (tB (tDIn (tTup tas) td)) (cTest (cInT eas ed)) := by
  cases ha.k
  exact ⟨pt_cmp (pc_din (by omega) (pe_tup ha.p) hd.p) h1, tB_ (eInT ha.s hd.s), rfl⟩
theorem gDxT_ (hu : X.A.units + 64 < cLine) {i k : Nat} {x : Str} (h : PE X (.Name x p2) (tVar i)) (hk : SA K X es tas eas)
    (ha : ∀ v, assign (.Subscript (.Name x p2) (.Tuple es k p3) pos) X.env v = (do
      let ov ← holding [v] (eval (.Name x p2) X.env)
      let iv ← holding [v, ov] (eval (.Tuple es k p3) X.env)
      standAt pos
      holding [v, ov, iv] (setItem ov iv v)
      release [v, ov, iv] []) := by intro _; rfl) : SG K X pn (.Subscript (.Name x p2) (.Tuple es k p3) pos) (gSub (tVar i) (tTup tas) rSetD) (gDxT i eas) := by
  cases hk.k
  exact ⟨pg_sub h (pe_tup hk.p) (set_dict (by omega)) ha, tgDxT hk.s, rfl⟩
end
end LP
set_option maxRecDepth 100000
/-! LP: written dicts, displays of dicts, d[k], x in xs. -/
namespace LP
open PySem L2
section
variable {K : PySem.W.Frag} {X : Cx} {F O F' O' F1 O1 F2 O2 : Hp} {σ : L2.St} {env env' : Env} {f f1 f2 fp fp1 fp2 : List Addr} {pn : List Nat}
/-- C[k] of a written dict with text keys and int values -/
theorem eGD {te : TE} {ev : Ev} {w : World} {a : Addr} {d : T → Option T} (he : ESnd K te ev) (hd : ∀ x t, d x = some t → ∃ z i, x = .str z ∧ t = .int i ∧ KDct K w a z (.int i)) : ESnd K (tOp (rIxD K w) (tC (.ref a)) te) (cO1 d ev) := by
  intro env o env' h σ F O f a0 Q q
  simp only [cO1] at h
  split at h
  · next o1 e1 h1 =>
    split at h
    · next x hx =>
      split at h
      · next t ht =>
        cases h
        obtain ⟨z, i, rfl, rfl, hk⟩ := hd _ _ ht
        refine he _ _ _ h1 σ F O f a0 _ fun v F1 O1 fp1 f1 a1 s1 r1 => ?_
        obtain ⟨g1, w1, _⟩ := r1.view a1.e hx
        cases w1
        exact ⟨a, z, .int i, rfl, rfl, hk, Back.sc (t := .int i) (fin a1 s1.snd q) a1.d (.int i)⟩
      · cases h
    · cases h
  · cases h
/-- d[k] -/
def getT {κ : Type} [DecidableEq κ] : List κ → List T → κ → Option T
  | k' :: ks, t :: ts, k => if k' = k then some t else getT ks ts k
  | _, _, _ => none
theorem Rls.getT {κ : Type} [DecidableEq κ] {k : κ} {t : T} : ∀ {ks : List κ} {vs : List V} {ts : List T} {g : List Addr}, Rls K F O vs ts g → ks.length = vs.length → LP.getT ks ts k = some t → ∃ v g2, valV (ks.zip vs) k = some v ∧ Rl K F O v t g2
  | [], _, _, _, .nil, _, h => by cases h
  | [], _, _, _, .cons .., n, _ => by cases n
  | _ :: _, _, _, _, .nil, n, _ => by cases n
  | k' :: ks, v :: vs, _, _, .cons hv r, n, h => by
    rw [LP.getT] at h
    rw [List.zip_cons_cons]
    by_cases e : k' = k
    · rw [if_pos e] at h
      cases h
      exact ⟨v, _, valV_pos e, hv⟩
    · rw [if_neg e] at h
      obtain ⟨v2, g2, h1, h2⟩ := Rls.getT r (by simpa using n) h
      exact ⟨v2, g2, by rw [valV_neg e]; exact h1, h2⟩
def dgetT : T → T → Option T := fun d y => match d, keyT y with
  | .dic _ ks xs, some k => match getT ks xs k with
    | some t => if t.fz then some t else none
    | none => none
  | _, _ => none
def rDGet : R2 := fun x y H Q => ∃ a v, x = .ref a ∧ DGet H a y (some v) ∧ Q v H
theorem sDGet : OSnd2 K rDGet dgetT := by
  intro F O x y a b fa fb t d ha hb e Q q
  unfold dgetT at e
  split at e
  · next k hk =>
    split at e
    · next t0 h0 =>
      split at e
      · next hz =>
        cases e
        obtain ⟨rfl, _⟩ := hb.key hk
        cases ha with
        | dicF h n r =>
          obtain ⟨v, g2, h1, h2⟩ := r.getT n h0
          exact ⟨_, v, rfl, .inl ⟨_, k, .inl (d.jn_F h), rfl, h1.symm⟩, q.sc d (h2.own0 hz)⟩
        | dicO h n r =>
          obtain ⟨v, g2, h1, h2⟩ := r.getT n h0
          exact ⟨_, v, rfl, .inl ⟨_, k, .inl (jn_O h), rfl, h1.symm⟩, q.sc d (h2.own0 hz)⟩
      · cases e
    · cases e
  · cases e
/-- x in xs, ints in a list of ints -/
def inIT (neg : Bool) : T → T → Option T := fun a b => match a, b with
  | .int i, .lst _ xs => match intsL xs with
    | some ns => some (.bl (if neg then !decide (i ∈ ns) else decide (i ∈ ns)))
    | none => none
  | _, _ => none
theorem inV_ints (i : Int) : ∀ ns : List Int, inV (.int i) (ns.map V.int) = decide (i ∈ ns)
  | [] => rfl
  | n :: r => by
    have ih := inV_ints i r
    unfold inV at ih ⊢
    rw [List.map_cons, List.any_cons, ih]
    have e : eqV (V.int n) (V.int i) = decide (n = i) := by
      by_cases h : n = i
      · subst h; simp [eqV]
      · simp [eqV, h]
    rw [e]
    by_cases h : n = i
    · subst h; simp
    · have h' : ¬ i = n := fun z => h z.symm
      simp [h, h']
theorem flat_ints : ∀ ns : List Int, (ns.map V.int).all flatV = true
  | [] => rfl
  | n :: r => by rw [List.map_cons, List.all_cons, flat_ints r]; rfl
theorem sInI {neg : Bool} : OSnd2 K (rIn K neg) (inIT neg) := by
  intro F O x y a b fa fb t d ha hb e Q q
  unfold inIT at e
  split at e
  · split at e
    · next i o xs ns hn =>
      cases e
      cases ha
      obtain ⟨p, rfl, h1⟩ := hb.intsv d hn
      refine ⟨p, ns.map V.int, rfl, .inl (.inl (.inl h1)), rfl, flat_ints ns, ?_⟩
      rw [inV_ints]
      exact q.sc d (.bl _)
    · cases e
  · cases e
/-- a display of a dict: texts and ints, all written -/
inductive PP (X : Cx) (pos : Pos) : List (Option Expr) → List Expr → List (TE × TE) → List (Str × Int) → Prop
  | nil : PP X pos [] [] [] []
  | cons {z : Str} {i : Int} {ks : List (Option Expr)} {vs : List Expr} {trs : List (TE × TE)} {kvs : List (Str × Int)} {p1 p2 : Pos} {j1 j2 : Nat} (r : PP X pos ks vs trs kvs) : PP X pos (some (.Constant (.str z) j1 p1) :: ks) (.Constant (.int i) j2 p2 :: vs) ((tC (.str z), tC (.int i)) :: trs) ((z, i) :: kvs)
theorem PP.pps {pos : Pos} {ks : List (Option Expr)} {vs : List Expr} {trs : List (TE × TE)} {kvs : List (Str × Int)} (h : PP X pos ks vs trs kvs) : PPs X pos ks vs trs := by
  induction h with
  | nil => exact pps_nil
  | cons r ih => exact pps_cons pe_str pe_int ih
theorem PP.sem {pos : Pos} {ks : List (Option Expr)} {vs : List Expr} {trs : List (TE × TE)} {kvs : List (Str × Int)} (h : PP X pos ks vs trs kvs) (σ : L2.St) (H : Hp) : ∀ Q : List (V × V) → Hp → Prop, Q (kvs.map fun p => (V.str p.1, V.int p.2)) H → tPairs trs σ H Q := by
  induction h with
  | nil => exact fun Q q => q
  | cons r ih => exact fun Q q => ih _ q
theorem PP.len {pos : Pos} {ks : List (Option Expr)} {vs : List Expr} {trs : List (TE × TE)} {kvs : List (Str × Int)} (h : PP X pos ks vs trs kvs) : ks.length = kvs.length ∧ vs.length = kvs.length ∧ ks.all (·.isSome) = true := by
  induction h with
  | nil => exact ⟨rfl, rfl, rfl⟩
  | cons r ih => exact ⟨congrArg (· + 1) ih.1, congrArg (· + 1) ih.2.1, ih.2.2⟩
def cDsp (kvs : List (Str × Int)) : Ev := fun env => some (.t (.dic true (kvs.map fun p => .inr p.1) (kvs.map fun p => .int p.2)), env)
theorem zip_kvs : ∀ kvs : List (Str × Int), (kvs.map fun p => (Sum.inr p.1 : Key)).zip (kvs.map fun p => V.int p.2) = kvs.map fun p => (Sum.inr p.1, V.int p.2)
  | [] => rfl
  | p :: r => by rw [List.map_cons, List.map_cons, List.zip_cons_cons, zip_kvs r, List.map_cons]
theorem rls_kvs : ∀ kvs : List (Str × Int), Rls K F O (kvs.map fun p => V.int p.2) (kvs.map fun p => T.int p.2) []
  | [] => .nil
  | p :: r => .cons (f := []) (fs := []) (.int _) (rls_kvs r)
theorem upd_upd {H : Hp} {p : Addr} {a b : HO} : upd (upd H p a) p b = upd H p b := by
  funext q
  by_cases e : q = p
  · subst e; rw [upd_same, upd_same]
  · rw [upd_ne e, upd_ne e, upd_ne e]
theorem eDsp {pos : Pos} {ks : List (Option Expr)} {vs : List Expr} {trs : List (TE × TE)} {kvs : List (Str × Int)} (h : PP X pos ks vs trs kvs) (hm : mergeK [] (kvs.map fun p => ((Sum.inr p.1 : Key), V.int p.2)) = kvs.map fun p => ((Sum.inr p.1 : Key), V.int p.2)) (h15 : kvs.length ≤ 15) : ESnd K (tDisp trs) (cDsp kvs) := by
  intro env o env' hh σ F O f a0 Q q
  cases hh
  intro p hp
  refine h.sem σ _ _ ⟨upd_same, kvs.map fun p => ((Sum.inr p.1 : Key), V.int p.2), by rw [List.map_map]; rfl, by rw [List.length_map]; exact h15, ?_⟩
  rw [hm, upd_upd, ← zip_kvs]
  exact Back.newD (fin a0 Stp.refl q) a0.d (by rw [List.length_map, List.length_map]) (rls_kvs kvs) p hp
end
section
variable {K : PySem.W.Frag} {X : Cx} {a b c e d : Expr} {es : List Expr} {ta tb tc te td : TE} {ea eb ec ev ed : Ev} {tas : TA} {eas : Ea} {pos p2 p3 : Pos} {pn : List Nat}
theorem xDsp {ks : List (Option Expr)} {vs : List Expr} {trs : List (TE × TE)} {kvs : List (Str × Int)} (h : PP X pos ks vs trs kvs) (h0 : ks ≠ []) (hm : mergeK [] (kvs.map fun p => ((Sum.inr p.1 : Key), V.int p.2)) = kvs.map fun p => ((Sum.inr p.1 : Key), V.int p.2)) (h15 : kvs.length ≤ 15) (hk : X.K = K := by rfl) : SE K X (.Dict ks vs pos) (tDisp trs) (cDsp kvs) := by
  cases hk
  obtain ⟨l1, l2, l3⟩ := h.len
  exact ⟨pe_disp h.pps l3 (l1.trans l2.symm) h0 (by rw [l1]; exact h15), eDsp h hm h15, rfl⟩
theorem xDGet (hu : X.A.units + 64 < cLine) (ha : SE K X a ta ea) (hb : SE K X b tb eb) (hs : NoSl b := by exact fun _ _ => rfl) : SE K X (.Subscript a b pos) (tOp rDGet ta tb) (cO2 dgetT ea eb) := by
  cases ha.k
  exact ⟨pe_dget (by omega) ha.p hb.p hs, eO2 ha.s hb.s sDGet, rfl⟩
theorem xInI (ha : SE K X a ta ea) (hb : SE K X b tb eb) (hm : behindInMarks .In b = false) : SE K X (.Compare a [.In] [b] pos) (tOp (rIn K false) ta tb) (cO2 (inIT false) ea eb) := by
  cases ha.k
  exact xCmp op_in_seq sInI ha hb hm
theorem xNotInI (ha : SE K X a ta ea) (hb : SE K X b tb eb) (hm : behindInMarks .NotIn b = false) : SE K X (.Compare a [.NotIn] [b] pos) (tOp (rIn K true) ta tb) (cO2 (inIT true) ea eb) := by
  cases ha.k
  exact xCmp op_notIn_seq sInI ha hb hm
theorem yInI (ha : SE K X a ta ea) (hb : SE K X b tb eb) (hm : behindInMarks .In b = false) : ST K X (.Compare a [.In] [b] pos) (tTest (tOp (rIn K false) ta tb)) (cTest (cO2 (inIT false) ea eb)) := by
  cases ha.k
  exact yCmp op_in_seq sInI ha hb hm
theorem yNotInI (ha : SE K X a ta ea) (hb : SE K X b tb eb) (hm : behindInMarks .NotIn b = false) : ST K X (.Compare a [.NotIn] [b] pos) (tTest (tOp (rIn K true) ta tb)) (cTest (cO2 (inIT true) ea eb)) := by
  cases ha.k
  exact yCmp op_notIn_seq sInI ha hb hm
theorem xGD {x : Str} {w : Addr} {w0 : World} {g : T → Option T} (hg : Gl X x) (hm : X.mg x = some (.ref w)) (hd : ∀ y t, g y = some t → ∃ z i, y = .str z ∧ t = .int i ∧ KDct K w0 w z (.int i)) (hb : SE K X b tb eb) (hw : X.w = w0 := by rfl) (hs : PlainIx b := by exact fun _ _ => rfl) (hdb : (x == ("__debug__" : Str)) = false := by decide) :
    SE K X (.Subscript (.Name x p2) b pos) (tOp (rIxD K w0) (tC (.ref w)) tb) (cO1 g eb) := by
  cases hb.k
  cases hw
  exact ⟨pe_ix ix_kdict (pe_glob hg hm rfl hdb) hb.p hs, eGD hb.s hd, rfl⟩
/-- list(range(n)) -/
def cLrg (a : Ev) : Ev := fun env => match a env with
  | some (o, e) => match vw e o with
    | some (.int n) => if n.toNat ≤ 1000 ∧ n ≤ 1000 ∧ 0 ≤ n then some (.t (.lst true (rngI 0 n.toNat)), e) else none
    | _ => none
  | none => none
theorem eLrg {a : Ev} (ha : ESnd K ta a) : ESnd K (tLstRg (tRg1 ta)) (cLrg a) := by
  intro env o env' h σ F O f a0 Q q
  simp only [cLrg] at h
  split at h
  · next o1 e1 h1 =>
    split at h
    · next n hx =>
      split at h
      · next hn =>
        cases h
        refine ha _ _ _ h1 σ F O f a0 _ fun v F1 O1 fp1 f1 a1 s1 r1 => ?_
        obtain ⟨g1, w1, _⟩ := r1.view a1.e hx
        cases w1
        refine ⟨n, rfl, .of_le (by omega) (by omega) (by omega) (by omega), fun p hp => ?_⟩
        have e1 : rgV 0 n = ((List.range n.toNat).map fun i : Nat => (0 : Int) + (i : Int)).map V.int := by
          unfold rgV
          rw [Int.sub_zero, List.map_map]
          rfl
        have e2 : rngI 0 n.toNat = ((List.range n.toNat).map fun i : Nat => (0 : Int) + (i : Int)).map T.int := by
          unfold rngI
          rw [List.map_map]
          rfl
        have b : Back K F1 O1 (.lst true (rngI 0 n.toNat)) Q := fin a1 s1.snd q
        rw [e2] at b
        rw [e1]
        exact b.newL a1.d (Rls.mkInts _) p hp
      · cases h
    · cases h
  · cases h
theorem xLrg (hc : X.calm = true) (hg : Gl X "list") (hm : X.mg "list" = none) (hg2 : Gl X "range") (hm2 : X.mg "range" = none) (ha : SE K X a ta ea) (na : starEach [.Call (.Name "range" p2) [a] [] p3] X.env = (false, eval (.Call (.Name "range" p2) [a] [] p3) X.env) :: starEach [] X.env := by rfl) {p4 : Pos}
    (na2 : starEach [a] X.env = (false, eval a X.env) :: starEach [] X.env := by rfl) : SE K X (.Call (.Name "list" p4) [.Call (.Name "range" p2) [a] [] p3] [] pos) (tLstRg (tRg1 ta)) (cLrg ea) := by
  cases ha.k
  exact ⟨pe_listRg hc hg hm (prg_1 hg2 hm2 ha.p na2) na, eLrg ha.s, rfl⟩
end
end LP
set_option maxRecDepth 100000
/-! LP: reversed(range(n)), xs.insert(0, y), xs.extend(ys). -/
namespace LP
open PySem L2
section
variable {K : PySem.W.Frag} {X : Cx} {F O F' O' F1 O1 F2 O2 : Hp} {σ : L2.St} {env env' : Env} {f f1 f2 fp fp1 fp2 : List Addr} {pn : List Nat}
def rIns : V → List V → Hp → VK → Prop := fun x vs H Q => ∃ (l : Addr) (xs : List V) (i : Int) (y : V), x = .ref l ∧ vs = [.int i, y] ∧ H l = some (.lst xs) ∧ xs.length < sizeLine ∧ 0 ≤ i ∧ i < 2 ^ 63 ∧
    Q .non (upd H l (.lst (xs.take i.toNat ++ [y] ++ xs.drop i.toNat)))
/-- x.insert(0, e) -/
def cIns0 (i : Nat) (a : Ev) : Ev := fun env => match env[i]? with
  | some (some (.lst true _)) => match a env with
    | some (o, e) => match e[i]? with
      | some (some (.lst true xs)) => match sto e o with
        | some t => if xs.length < sizeLine then some (.t .non, e.set i (some (.lst true (t :: xs)))) else none
        | none => none
      | _ => none
    | none => none
  | _ => none
theorem eIns0 {i : Nat} {ta : TE} {a : Ev} (ha : ESnd K ta a) : ESnd K (tBM K "list" rIns (tVar i) (tCons (tC (.int 0)) (tCons ta tNil))) (cIns0 i a) := by
  intro env o env' h σ F O f a0 Q q
  simp only [cIns0] at h
  split at h
  · next xs0 h0 =>
    split at h
    · next o1 e1 h1 =>
      split at h
      · next xs hx =>
        split at h
        · next t ht =>
          split at h
          · next hz =>
            cases h
            obtain ⟨p0, vs0, fs0, g0, k0, _, _⟩ := wr a0 (fun a z => by cases z) h0
            refine ⟨.ref p0, g0, .inl ⟨rfl, vs0, .inl (.inl (jn_O k0))⟩, ?_⟩
            refine ha _ _ _ h1 σ F O f a0 _ fun v F1 O1 fp1 f1 a1 s1 r1 => ?_
            obtain ⟨p, vs, fs, g1, k1, r2, w⟩ := wr a1 r1.alloc hx
            rw [g0] at g1
            cases g1
            refine ⟨p0, vs, 0, v, rfl, rfl, jn_O k1, by rw [r2.len]; exact hz, Int.le_refl _, by decide, ?_⟩
            rw [upd_jn]
            obtain ⟨f', a2, s2, _⟩ := w (v :: vs) (t :: xs) (fp1 ++ fs) (.cons (r1.store a1.e ht) r2) fun a => by simp only [List.count_append]; omega
            exact q .non _ _ [] f' a2 (s1.trans s2) .non
          · cases h
        · cases h
      · cases h
    · cases h
  · cases h
/-- x.extend(e) -/
def cExt (i : Nat) (a : Ev) : Ev := fun env => match env[i]? with
  | some (some (.lst true _)) => match a env with
    | some (o, e) => match e[i]? with
      | some (some (.lst true xs)) => match vw e o with
        | some (.lst _ zs) => if fzL zs = true ∧ xs.length + zs.length ≤ sizeLine then some (.t .non, e.set i (some (.lst true (xs ++ zs)))) else none
        | _ => none
      | _ => none
    | none => none
  | _ => none
theorem eExt {i : Nat} {ta : TE} {a : Ev} (ha : ESnd K ta a) : ESnd K (tBM K "list" rExtend (tVar i) (tCons ta tNil)) (cExt i a) := by
  intro env o env' h σ F O f a0 Q q
  simp only [cExt] at h
  split at h
  · next xs0 h0 =>
    split at h
    · next o1 e1 h1 =>
      split at h
      · next xs hx =>
        split at h
        · next oo zs ht =>
          split at h
          · next hz =>
            cases h
            obtain ⟨p0, vs0, fs0, g0, k0, _, _⟩ := wr a0 (fun a z => by cases z) h0
            refine ⟨.ref p0, g0, .inl ⟨rfl, vs0, .inl (.inl (jn_O k0))⟩, ?_⟩
            refine ha _ _ _ h1 σ F O f a0 _ fun v F1 O1 fp1 f1 a1 s1 r1 => ?_
            obtain ⟨p, vs, fs, g1, k1, r2, w⟩ := wr a1 r1.alloc hx
            rw [g0] at g1
            cases g1
            obtain ⟨fq, w1, _⟩ := r1.view a1.e ht
            obtain ⟨p2, ws, gs, rfl, h2, r3⟩ := w1.lstv a1.d
            refine ⟨p0, p2, vs, ws, rfl, rfl, jn_O k1, h2, by rw [r2.len, r3.len]; exact hz.2, ?_⟩
            rw [upd_jn]
            obtain ⟨f', a2, s2, _⟩ := w (vs ++ ws) (xs ++ zs) (fs ++ []) (r2.append (r3.own0 hz.1)) fun a => by simp only [List.count_append, List.count_nil]; omega
            exact q .non _ _ [] f' a2 (s1.trans s2) .non
          · cases h
        · cases h
      · cases h
    · cases h
  · cases h
theorem xIns0 {i j4 : Nat} {p4 : Pos} {x : Str} (h : PE X (.Name x p2) (tVar i)) (ha : SE K X e te ev) (hst : starEach [.Constant (.int 0) j4 p4, e] X.env = (false, eval (.Constant (.int 0) j4 p4) X.env) :: starEach [e] X.env := by rfl)
    (hst2 : starEach [e] X.env = (false, eval e X.env) :: starEach [] X.env := by rfl)
    (hbase : attributeBase (.Name x p2) "insert" X.env (eval (.Name x p2) X.env) = eval (.Name x p2) X.env := by rfl)
    (hfew : ((backTo pos (starEach [.Constant (.int 0) j4 p4, e] X.env)).all (fun x => !x.1) && (backToKw pos (keywordEach [] X.env)).all (fun x => x.1.isSome) && decide ([.Constant (.int 0) j4 p4, e].length + ([] : List Keyword).length + (if ([] : List Keyword).isEmpty then 0 else 1) < 30)) = true := by rfl)
    (hline : (p3.endLine == pos.line) = true := by rfl) (hpl : (backTo pos (starEach [e] X.env)).any (·.1) = false := by rfl) :
    SE K X (.Call (.Attribute (.Name x p2) "insert" p3) [.Constant (.int 0) j4 p4, e] [] pos) (tBM K "list" rIns (tVar i) (tCons (tC (.int 0)) (tCons te tNil))) (cIns0 i ev) := by
  cases ha.k
  have h0 : SE X.K X (.Constant (.int 0) j4 p4) (tC (.int 0)) (cK (.int 0)) := xInt
  exact ⟨pe_bm PySem.F.plainAttrs_list PySem.F.slot_list_insert PySem.F.type_list_insert mt_insert h (pa_cons h0.p (pa_cons ha.p pa_nil hst2) hst) hbase hfew hline hst hpl, eIns0 ha.s, rfl⟩
theorem xExt {i : Nat} {x : Str} (h : PE X (.Name x p2) (tVar i)) (ha : SE K X e te ev) (hst : starEach [e] X.env = (false, eval e X.env) :: starEach [] X.env := by rfl)
    (hbase : attributeBase (.Name x p2) "extend" X.env (eval (.Name x p2) X.env) = eval (.Name x p2) X.env := by rfl)
    (hfew : ((backTo pos (starEach [e] X.env)).all (fun x => !x.1) && (backToKw pos (keywordEach [] X.env)).all (fun x => x.1.isSome) && decide ([e].length + ([] : List Keyword).length + (if ([] : List Keyword).isEmpty then 0 else 1) < 30)) = true := by rfl)
    (hline : (p3.endLine == pos.line) = true := by rfl) :
    SE K X (.Call (.Attribute (.Name x p2) "extend" p3) [e] [] pos) (tBM K "list" rExtend (tVar i) (tCons te tNil)) (cExt i ev) := by
  cases ha.k
  exact ⟨pe_bm PySem.F.plainAttrs_list PySem.F.slot_list_extend PySem.F.type_list_extend mt_extend h (pa_cons ha.p pa_nil hst) hbase hfew hline hst (by rfl), eExt ha.s, rfl⟩
/-- reversed(range(n)) -/
def rngD (n : Nat) : List T := (List.range n).map fun i : Nat => T.int ((n : Int) - 1 - (i : Int))
@[simp] theorem rngD_len (n : Nat) : (rngD n).length = n := by unfold rngD; rw [List.length_map, List.length_range]
theorem rngD_at {n i : Nat} {t : T} (e : (rngD n)[i]? = some t) : i < n ∧ t = .int ((n : Int) - 1 - (i : Int)) := by
  unfold rngD at e
  rw [List.getElem?_map] at e
  cases q : (List.range n)[i]? with
  | none => rw [q] at e; cases e
  | some j =>
    rw [q] at e
    obtain ⟨h1, h2⟩ := List.getElem?_eq_some_iff.mp q
    rw [List.length_range] at h1
    rw [List.getElem_range] at h2
    subst h2
    exact ⟨h1, (Option.some.inj e).symm⟩
theorem yieldsD {F : Hp} {c : Int} {n : Nat} (hc : c = (n : Int) - 1) : Yields K (Itc c (-1) n) F (rngD n) := by
  intro F' O' s d i
  refine ⟨fun t e => ?_, fun hl => by rw [rngD_len] at hl; exact hl⟩
  obtain ⟨h1, rfl⟩ := rngD_at e
  refine ⟨h1, fun x H' y => ?_⟩
  obtain ⟨rfl, rfl⟩ := y
  refine ⟨F', O', rfl, d, Stp.refl, ?_⟩
  have q : c + (i : Int) * (-1) = (n : Int) - 1 - (i : Int) := by rw [hc]; omega
  rw [q]
  exact .int _
noncomputable def iRv (a : Ev) : It := fun env => match a env with
  | some (o, e) => match vw e o with
    | some (.int j) => if inR j then some (rngD j.toNat, e) else none
    | _ => none
  | none => none
theorem wRv {a : Ev} (ha : ESnd K ta a) : WSnd K (iRevR (tRg1 ta)) (iRv a) := by
  intro env items env' h σ F O f a0 R q
  simp only [iRv] at h
  split at h
  · next o e h1 =>
    split at h
    · next j hx =>
      split at h
      · next z =>
        cases h
        refine ha _ _ _ h1 σ F O f a0 _ fun v F1 O1 fp1 f1 a1 s1 r1 => ?_
        obtain ⟨g1, w1, _⟩ := r1.view a1.e hx
        simp only [inR_eq, Bool.and_eq_true, decide_eq_true_eq] at z
        cases w1
        refine ⟨j, rfl, by omega, by omega, z.1, z.2, ?_⟩
        have e1 : (j - 0).toNat = j.toNat := by rw [Int.sub_zero]
        rw [e1]
        exact q _ F1 O1 f1 a1.only s1.snd (yieldsD (by omega))
      · cases h
    · cases h
  · cases h
theorem iRv_ (hg : Gl X "reversed") (hm : X.mg "reversed" = none) (hg2 : Gl X "range") (hm2 : X.mg "range" = none) (ha : SE K X a ta ea) (na : starEach [a] X.env = (false, eval a X.env) :: starEach [] X.env := by rfl)
    (hs : starEach [.Call (.Name "range" p2) [a] [] p3] X.env = (false, eval (.Call (.Name "range" p2) [a] [] p3) X.env) :: starEach [] X.env := by rfl) {p4 : Pos} :
    SI K X tg (.Call (.Name "reversed" p4) [.Call (.Name "range" p2) [a] [] p3] [] pos) (iRevR (tRg1 ta)) (iRv ea) := by
  cases ha.k
  exact ⟨pi_revR hg hm (prg_1 hg2 hm2 ha.p na) hs, wRv ha.s, rfl⟩
end
@[simp] theorem cIns0_def (i : Nat) (a : Ev) (env : Env) : cIns0 i a env = (ownL env i).bind fun _ => (a env).bind fun p => (ownL p.2 i).bind fun xs => (sto p.2 p.1).bind fun t => if xs.length < sizeLine then some (.t .non, p.2.set i (some (.lst true (t :: xs)))) else none := by
  unfold cIns0
  split
  · next xs h =>
    rw [at_ownL h]
    cases a env with
    | none => rfl
    | some p =>
      simp only [Option.bind_some]
      split
      · next ys h2 =>
        rw [at_ownL h2]
        simp only [Option.bind_some]
        cases sto p.2 p.1 <;> rfl
      · next h2 => rw [at_nownL h2]; rfl
  · next h => rw [at_nownL h]; rfl
@[simp] theorem cExt_def (i : Nat) (a : Ev) (env : Env) : cExt i a env = (ownL env i).bind fun _ => (a env).bind fun p => (ownL p.2 i).bind fun xs => match vw p.2 p.1 with
    | some (.lst _ zs) => if fzL zs = true ∧ xs.length + zs.length ≤ sizeLine then some (.t .non, p.2.set i (some (.lst true (xs ++ zs)))) else none
    | _ => none := by
  unfold cExt
  split
  · next xs h =>
    rw [at_ownL h]
    cases a env with
    | none => rfl
    | some p =>
      simp only [Option.bind_some]
      split
      · next ys h2 =>
        rw [at_ownL h2]
        rfl
      · next h2 => rw [at_nownL h2]; rfl
  · next h => rw [at_nownL h]; rfl
@[simp] theorem iRv_def (a : Ev) (env : Env) : iRv a env = (a env).bind fun p => match vw p.2 p.1 with
    | some (.int j) => if inR j = true then some (rngD j.toNat, p.2) else none
    | _ => none := by
  unfold iRv
  cases a env <;> rfl
end LP
set_option maxRecDepth 100000
/-! LP: x[j].append(y), x[j].clear(); lending where a plain thing comes back. -/
namespace LP
open PySem L2
section
variable {K : PySem.W.Frag} {X : Cx} {F O F' O' F1 O1 F2 O2 : Hp} {σ : L2.St} {env env' : Env} {f f1 f2 fp fp1 fp2 : List Addr} {pn : List Nat}
theorem Rls.updAt : ∀ {vs : List V} {ts : List T} {f : List Addr} {j : Nat} {t : T}, Rls K F O vs ts f → ts[j]? = some t → ∃ (v : V) (g h : List Addr), vs[j]? = some v ∧ Rl K F O v t g ∧ (∀ a, g.count a + h.count a = f.count a) ∧
    ∀ (O' : Hp) (t' : T) (g' : List Addr), (∀ a ∈ h, ∀ o, O a = some o → O' a = some o) → Rl K F O' v t' g' → ∃ f', Rls K F O' vs (ts.set j t') f' ∧ ∀ a, f'.count a = g'.count a + h.count a
  | _, _, _, _, _, .nil, e => by simp at e
  | _, _, _, 0, t', .cons (v := v) (t := t0) (f := f0) (fs := fs) h r, e => by
    have e2 : t0 = t' := by simpa using e
    subst e2
    refine ⟨v, f0, fs, rfl, h, fun a => by rw [List.count_append], fun O' t' g' k x => ⟨g' ++ fs, .cons x (r.mono (Same.refl F) k), fun a => by rw [List.count_append]⟩⟩
  | _, _, _, j + 1, _, .cons (v := v) (t := t0) (f := f0) (fs := fs) h r, e => by
    obtain ⟨u, g, l, h1, h2, h3, h4⟩ := Rls.updAt (j := j) r (by simpa using e)
    refine ⟨u, g, f0 ++ l, by simpa using h1, h2, fun a => by have := h3 a; rw [List.count_append, List.count_append]; omega, fun O' t' g' k x => ?_⟩
    obtain ⟨f', h5, h6⟩ := h4 O' t' g' (fun a z => k a (List.mem_append_right _ z)) x
    exact ⟨f0 ++ f', .cons (h.mono (Same.refl F) fun a z => k a (List.mem_append_left _ z)) h5, fun a => by have := h6 a; rw [List.count_append, List.count_append]; omega⟩
def kids : T → Option (List T)
  | .lst true ts => some ts
  | .tup true ts => some ts
  | _ => none
def rekid : T → List T → T
  | .lst o _, ts => .lst o ts
  | .tup o _, ts => .tup o ts
  | t, _ => t
/-- a list that an owned list or tuple holds is written -/
theorem wrN {i j : Nat} {t : T} {ts xs : List T} (a1 : At K σ F O env fp f) (al : ∀ a ∈ fp, ∃ o, O a = some o) (e : env[i]? = some (some t)) (hk : kids t = some ts) (hj : ts[j]? = some (.lst true xs)) :
    ∃ p q vs ws gs, σ[i]? = some (some (.ref p)) ∧ (O p = some (.lst vs) ∨ O p = some (.tup vs)) ∧ vs.length = ts.length ∧ vs[j]? = some (.ref q) ∧ O q = some (.lst ws) ∧ Rls K F O ws xs gs ∧
      ∀ (ws' : List V) (xs' : List T) (gs' : List Addr), Rls K F O ws' xs' gs' → (∀ a, gs'.count a ≤ gs.count a + fp.count a) →
      ∃ f', At K σ F (upd O q (.lst ws')) (env.set i (some (rekid t (ts.set j (.lst true xs'))))) [] f' ∧ Stp F O (fp ++ f) F (upd O q (.lst ws')) f' := by
  obtain ⟨v, _, h1, h2, _⟩ := a1.e.get e
  obtain ⟨fq, f0, h3, h4, h5⟩ := a1.e.upd h1 e
  have core : ∀ (p : Addr) (vs : List V) (fs : List Addr), v = .ref p → fq = p :: fs → (O p = some (.lst vs) ∨ O p = some (.tup vs)) → Rls K F O vs ts fs → (∀ (O' : Hp) (ts' : List T) (fs' : List Addr), O' p = O p → Rls K F O' vs ts' fs' → Rl K F O' (.ref p) (rekid t ts') (p :: fs')) →
    ∃ p q vs ws gs, σ[i]? = some (some (.ref p)) ∧ (O p = some (.lst vs) ∨ O p = some (.tup vs)) ∧ vs.length = ts.length ∧ vs[j]? = some (.ref q) ∧ O q = some (.lst ws) ∧ Rls K F O ws xs gs ∧
      ∀ (ws' : List V) (xs' : List T) (gs' : List Addr), Rls K F O ws' xs' gs' → (∀ a, gs'.count a ≤ gs.count a + fp.count a) →
      ∃ f', At K σ F (upd O q (.lst ws')) (env.set i (some (rekid t (ts.set j (.lst true xs'))))) [] f' ∧ Stp F O (fp ++ f) F (upd O q (.lst ws')) f' := by
    intro p vs fs ev ef hp r mk
    subst ev
    subst ef
    obtain ⟨u, g, h, r1, r2, r3, r4⟩ := r.updAt hj
    cases r2 with
    | lstO ho rr =>
      next q ws gs =>
      refine ⟨p, q, vs, ws, gs, h1, hp, r.len, r1, ho, rr, fun ws' xs' gs' r' c => ?_⟩
      have n : ∀ a, fp.count a + ((if p = a then 1 else 0) + ((if q = a then 1 else 0) + gs.count a + h.count a) + f0.count a) ≤ 1 := fun a => by
        have n1 := a1.nd a
        have n2 := h4 a
        have n3 := r3 a
        rw [List.count_append] at n1
        rw [List.count_cons] at n2 n3
        by_cases z : p = a <;> by_cases y : q = a <;> simp [z, y] at n2 n3 ⊢ <;> omega
      have zq := n q
      rw [if_pos rfl] at zq
      have pq : p ≠ q := fun z => by rw [if_pos z] at zq; omega
      rw [if_neg pq] at zq
      have np : ∀ {l : List Addr}, l.count q = 0 → ∀ a ∈ l, ∀ o, O a = some o → upd O q (.lst ws') a = some o := fun z a w o e => by
        rw [upd_ne fun y => by rw [y, mem_count] at w; omega]
        exact e
      have cq := c q
      obtain ⟨fs', s1, s2⟩ := r4 (upd O q (.lst ws')) (.lst true xs') (q :: gs') (np (by omega)) (.lstO upd_same (r'.mono (Same.refl F) (np (by omega))))
      have w1 := mk (upd O q (.lst ws')) _ fs' (upd_ne pq) s1
      obtain ⟨f', h6, h7⟩ := h5 F (upd O q (.lst ws')) _ (p :: fs') (Same.refl F) (np (by omega)) w1
      have h8 : ∀ a, f'.count a = (if p = a then 1 else 0) + ((if q = a then 1 else 0) + gs'.count a + h.count a) + f0.count a := fun a => by
        have n1 := h7 a
        have n2 := s2 a
        rw [List.count_cons] at n1 n2
        by_cases z : p = a <;> by_cases y : q = a <;> simp [z, y] at n1 n2 ⊢ <;> omega
      have h9 : ∀ a, f.count a = (if p = a then 1 else 0) + ((if q = a then 1 else 0) + gs.count a + h.count a) + f0.count a := fun a => by
        have n2 := h4 a
        have n3 := r3 a
        rw [List.count_cons] at n2 n3
        by_cases z : p = a <;> by_cases y : q = a <;> simp [z, y] at n2 n3 ⊢ <;> omega
      refine ⟨f', ⟨a1.d.updO (a1.d.noF ho), h6, fun a => ?_⟩, ⟨Same.refl F, fun a o z e => ?_, fun a z => .inl ?_, fun a z => ?_⟩⟩
      · rw [List.nil_append]
        have := h8 a
        have := n a
        have := c a
        omega
      · rw [upd_ne fun y => z ?_]
        · exact e
        · rw [y, mem_count, List.count_append]
          have := h9 q
          rw [if_pos rfl] at this
          omega
      · rw [mem_count] at z ⊢
        rw [List.count_append]
        have e1 := h8 a
        have e2 := h9 a
        have e3 := c a
        omega
      · rw [← upd_jn]
        by_cases w : a = q
        · rw [w, upd_same]; exact fun z => nomatch z
        · rw [upd_ne w]; exact z
  cases h3 with
  | lstO ho r => cases hk; exact core _ _ _ rfl rfl (.inl ho) r fun O' ts' fs' z x => .lstO (z.trans ho) x
  | tupO ho r => cases hk; exact core _ _ _ rfl rfl (.inr ho) r fun O' ts' fs' z x => .tupO (z.trans ho) x
  | _ => cases hk
def kidL (env : Env) (i j : Nat) : Option (T × List T × List T) := match env[i]? with
  | some (some t) => match kids t with
    | some ts => match ts[j]? with
      | some (.lst true xs) => some (t, ts, xs)
      | _ => none
    | none => none
  | _ => none
theorem kidL_of {env : Env} {i j : Nat} {t : T} {ts xs : List T} (h : kidL env i j = some (t, ts, xs)) : env[i]? = some (some t) ∧ kids t = some ts ∧ ts[j]? = some (.lst true xs) := by
  unfold kidL at h
  split at h
  · next u hu =>
    split at h
    · next us hus =>
      split at h
      · next ys hys =>
        cases h
        exact ⟨hu, hus, hys⟩
      · cases h
    · cases h
  · cases h
theorem ixN_nat {n j : Nat} (h : j < n) : ixN n (j : Int) = some j := by
  unfold ixN
  rw [if_pos (by omega), if_pos (by omega)]
  rfl
/-- x[j] as it stands -/
theorem nest_ix {i j : Nat} {p q : Addr} {vs : List V} {ts : List T} {Q : VK} {H : Hp} (h1 : σ[i]? = some (some (.ref p))) (h2 : H p = some (.lst vs) ∨ H p = some (.tup vs)) (h3 : vs[j]? = some (.ref q)) (w : Q (.ref q) H) : tOp (rIx K) (tVar i) (tC (.int (j : Nat))) σ H Q := by
  have hj : j < vs.length := (List.getElem?_eq_some_iff.mp h3).1
  have e : L2.atI vs ((j : Nat) : Int) = some (.ref q) := by
    unfold L2.atI
    rw [ixN_nat hj]
    exact h3
  refine ⟨.ref p, h1, ?_⟩
  rcases h2 with h2 | h2
  · exact .inl ⟨_, _, _, _, rfl, rfl, .inl (.inl h2), e, w⟩
  · exact .inr (.inl ⟨_, _, _, _, rfl, rfl, .inl (.inl h2), e, w⟩)
theorem ty_l {p : Addr} {xs : List V} {H : Hp} (h : H p = some (.lst xs)) : tyV K "list" (.ref p) H := .inl ⟨rfl, xs, .inl (.inl h)⟩
theorem jn_or {p : Addr} {vs : List V} (h : O p = some (.lst vs) ∨ O p = some (.tup vs)) : jn F O p = some (.lst vs) ∨ jn F O p = some (.tup vs) := h.imp jn_O jn_O
/-- x[j].append((c, d)), c and d plain -/
def cAppP (i j : Nat) (y : T) : Ev := fun env => match kidL env i j with
  | some (t, ts, xs) => if xs.length < sizeLine then some (.t .non, env.set i (some (rekid t (ts.set j (.lst true (xs ++ [y])))))) else none
  | none => none
theorem eAppP {i j : Nat} {v1 v2 : V} {t1 t2 : T} (g1 : ∀ F O, Rl K F O v1 t1 []) (g2 : ∀ F O, Rl K F O v2 t2 []) : ESnd K (tBM K "list" rAppend (tOp (rIx K) (tVar i) (tC (.int (j : Nat)))) (tCons (tTup (tCons (tC v1) (tCons (tC v2) tNil))) tNil)) (cAppP i j (.tup false [t1, t2])) := by
  intro env o env' h σ F O f a0 Q q
  simp only [cAppP] at h
  split at h
  · next t ts xs hx =>
    obtain ⟨k1, k2, k3⟩ := kidL_of hx
    split at h
    · next hz =>
      cases h
      obtain ⟨p, q0, vs, ws, gs, m1, m2, m3, m4, m5, _, _⟩ := wrN a0 (fun a z => by cases z) k1 k2 k3
      refine nest_ix (ts := ts) m1 (jn_or m2) m4 ⟨ty_l (jn_O m5), (show 2 ≤ sizeLine by decide), fun p' hp' => ?_⟩
      have sm : Same F (upd F p' (.tup [v1, v2])) := same_new (jn_none hp').1
      have a1 : At K σ (upd F p' (.tup [v1, v2])) O env [] f := ⟨a0.d.updF (jn_none hp').2, a0.e.mono sm fun _ _ _ e => e, a0.nd⟩
      obtain ⟨p2, q2, vs2, ws2, gs2, n1, n2, n3, n4, n5, n6, w⟩ := wrN a1 (fun a z => by cases z) k1 k2 k3
      rw [m1] at n1
      cases n1
      have ev : vs = vs2 := by
        rcases m2 with m2 | m2 <;> rcases n2 with n2 | n2 <;> rw [m2] at n2 <;> cases n2 <;> rfl
      subst ev
      rw [m4] at n4
      cases n4
      rw [upd_jnF (jn_none hp').2]
      refine ⟨q0, ws2, .ref p', rfl, rfl, jn_O n5, by rw [n6.len]; exact hz, ?_⟩
      rw [upd_jn]
      have rt : Rl K (upd F p' (.tup [v1, v2])) O (.ref p') (.tup false [t1, t2]) [] := .tupF (.inl (.inl upd_same)) (.cons (f := []) (fs := []) (g1 _ _) (.cons (f := []) (fs := []) (g2 _ _) .nil))
      obtain ⟨f', a2, s2⟩ := w (ws2 ++ [.ref p']) (xs ++ [.tup false [t1, t2]]) (gs2 ++ ([] ++ [])) (n6.append (.cons rt .nil)) fun a => by simp only [List.count_append, List.count_nil]; omega
      exact q .non _ _ [] f' a2 ((stp_new hp').trans s2) .non
    · cases h
  · cases h
/-- x[j].clear() -/
def cClrN (i j : Nat) : Ev := fun env => match kidL env i j with
  | some (t, ts, _) => some (.t .non, env.set i (some (rekid t (ts.set j (.lst true [])))))
  | none => none
theorem eClrN {i j : Nat} : ESnd K (tBM0 K "list" rClear (tOp (rIx K) (tVar i) (tC (.int (j : Nat))))) (cClrN i j) := by
  intro env o env' h σ F O f a0 Q q
  simp only [cClrN] at h
  split at h
  · next t ts xs hx =>
    cases h
    obtain ⟨k1, k2, k3⟩ := kidL_of hx
    obtain ⟨p, q0, vs, ws, gs, m1, m2, m3, m4, m5, m6, w⟩ := wrN a0 (fun a z => by cases z) k1 k2 k3
    refine nest_ix (ts := ts) m1 (jn_or m2) m4 ⟨ty_l (jn_O m5), q0, ws, rfl, rfl, jn_O m5, ?_⟩
    rw [upd_jn]
    obtain ⟨f', a2, s2⟩ := w [] [] [] .nil fun a => by rw [List.count_nil]; omega
    exact q .non _ _ [] f' a2 s2 .non
  · cases h
def scT : T → Bool
  | .non => true
  | .bl _ => true
  | .int _ => true
  | .str _ => true
  | _ => false
/-- all is lent, owned tuples too; a plain thing comes back -/
def cLendS (a : Ev) : Ev := fun env => match a (erE env) with
  | some (.t r, _) => if scT r then some (.t r, env) else none
  | _ => none
theorem eLendS {ta : TE} {a : Ev} (ha : ESnd K ta a) : ESnd K ta (cLendS a) := by
  intro env o env' h σ F O f a0 Q q
  simp only [cLendS] at h
  · split at h
    · next r e h1 =>
      split at h
      · next hr =>
        cases h
        have al := a0.e.alloc
        have j := jn_toF (F := F) al
        have e1 := a0.e.erase a0.d al fun a z => z
        have d1 : Dis (toF F O f) (offO O f) := a0.d.toF
        rw [← j]
        refine ha _ _ _ h1 σ _ _ [] ⟨d1, e1, Nd.nil⟩ _ fun v F1 O1 fp f1 a1 s1 r1 => ?_
        have r1 : Rl K F1 O1 v r fp := r1
        have hF : ∀ a ∈ f, F1 a = O a := fun a z => by
          obtain ⟨u, hu⟩ := al a z
          have : toF F O f a = some u := by unfold toF; rw [if_pos z]; exact hu
          rw [s1.f a u this, hu]
        have hO : ∀ a ∈ f, O1 a = none := fun a z => by
          obtain ⟨u, hu⟩ := al a z
          exact a1.d.noO ((hF a z).trans hu)
        have rb : Rl K (backF F1 f) (backO O O1 f) v r fp := by
          cases r <;> first | (simp [scT] at hr; done) | (cases r1; constructor)
        have jj : jn (backF F1 f) (backO O O1 f) = jn F1 O1 := by
          funext a
          by_cases z : a ∈ f
          · obtain ⟨u, hu⟩ := al a z
            rw [jn_O (show backO O O1 f a = some u by unfold backO; rw [if_pos z]; exact hu), a1.d.jn_F ((hF a z).trans hu)]
          · unfold jn backO backF
            rw [if_neg z, if_neg z]
        have sF : Same F (backF F1 f) := fun a u e => by
          have z : a ∉ f := fun z => by
            obtain ⟨w, hw⟩ := al a z
            rw [a0.d.noO e] at hw
            cases hw
          unfold backF
          rw [if_neg z]
          exact s1.f a u (a0.d.same_toF al a u e)
        have kO : ∀ a u, O a = some u → backO O O1 f a = some u := fun a u e => by
          unfold backO
          by_cases z : a ∈ f
          · rw [if_pos z]; exact e
          · rw [if_neg z]
            exact s1.k a u (fun w => by cases w) (show offO O f a = some u by unfold offO; rw [if_neg z]; exact e)
        have dd : Dis (backF F1 f) (backO O O1 f) := fun a => by
          unfold backF backO
          by_cases z : a ∈ f
          · rw [if_pos z]; exact .inl rfl
          · rw [if_neg z, if_neg z]; exact a1.d a
        have new : ∀ a ∈ fp, jn F O a = none := fun a z => by
          rcases s1.n a (List.mem_append_left _ z) with q | q
          · cases q
          · rw [j] at q; exact q
        rw [← jj]
        refine q v _ _ fp f ⟨dd, a0.e.mono sF fun a _ u e => kO a u e, a1.nd.left.of a0.nd.right fun a z w => ?_⟩ ⟨sF, fun a u _ e => kO a u e, fun a z => ?_, fun a z => ?_⟩ rb
        · obtain ⟨u, hu⟩ := al a w
          have := new a z
          rw [jn_O hu] at this
          cases this
        · rcases List.mem_append.mp z with w | w
          · exact .inr (new a w)
          · exact .inl w
        · rw [jj]
          refine s1.g a ?_
          rw [j]
          exact z
      · cases h
    · cases h
end
section
variable {K : PySem.W.Frag} {F O : Hp}
def flT : T → Bool
  | .non => true
  | .bl _ => true
  | .int _ => true
  | .str _ => true
  | _ => false
def vF : T → V
  | .bl b => .bl b
  | .int i => .int i
  | .str s => .str s
  | _ => .non
theorem Rl.flat {v : V} {t : T} {f : List Addr} (h : Rl K F O v t f) (z : flT t = true) : v = vF t ∧ flatV v = true := by
  cases h <;> first | exact ⟨rfl, rfl⟩ | cases z
theorem Rls.flat : ∀ {vs : List V} {ts : List T} {f : List Addr}, Rls K F O vs ts f → ts.all flT = true → vs = ts.map vF ∧ vs.all flatV = true
  | _, _, _, .nil, _ => ⟨rfl, rfl⟩
  | _, _, _, .cons h r, z => by
    rw [List.all_cons, Bool.and_eq_true] at z
    obtain ⟨h1, h2⟩ := h.flat z.1
    obtain ⟨h3, h4⟩ := Rls.flat r z.2
    exact ⟨by rw [List.map_cons, ← h1, ← h3], by rw [List.all_cons, h2, h4]; rfl⟩
def anyF (a : T) (xs : List T) : Bool := xs.any fun y => eqV (vF y) (vF a)
/-- x in xs, all plain -/
def inFT (neg : Bool) : T → T → Option T := fun a b => match b with
  | .lst _ xs => if (flT a && xs.all flT) = true then some (.bl (if neg then !anyF a xs else anyF a xs)) else none
  | .tup _ xs => if (flT a && xs.all flT) = true then some (.bl (if neg then !anyF a xs else anyF a xs)) else none
  | _ => none
theorem inV_F (a : T) : ∀ xs : List T, inV (vF a) (xs.map vF) = anyF a xs
  | [] => rfl
  | x :: r => by
    have ih := inV_F a r
    unfold inV anyF at ih ⊢
    rw [List.map_cons, List.any_cons, List.any_cons, ih]
theorem sInF {neg : Bool} : OSnd2 K (rIn K neg) (inFT neg) := by
  intro F O x y a b fa fb t d ha hb e Q q
  unfold inFT at e
  split at e
  · split at e
    · next z =>
      cases e
      rw [Bool.and_eq_true] at z
      obtain ⟨p, vs, fs, rfl, h1, r1⟩ := hb.lstv d
      obtain ⟨h2, h3⟩ := ha.flat z.1
      obtain ⟨h4, h5⟩ := r1.flat z.2
      refine ⟨p, vs, rfl, .inl (.inl (.inl h1)), h3, h5, ?_⟩
      rw [h2, h4, inV_F]
      exact q.sc d (.bl _)
    · cases e
  · split at e
    · next z =>
      cases e
      rw [Bool.and_eq_true] at z
      obtain ⟨p, vs, fs, rfl, h1, r1⟩ := hb.tupv d
      obtain ⟨h2, h3⟩ := ha.flat z.1
      obtain ⟨h4, h5⟩ := r1.flat z.2
      refine ⟨p, vs, rfl, .inr h1, h3, h5, ?_⟩
      rw [h2, h4, inV_F]
      exact q.sc d (.bl _)
    · cases e
  · cases e
end
variable {K : PySem.W.Frag} {X : Cx} {a b c e : Expr} {es : List Expr} {ta tb tc te : TE} {tas : TA} {ea eb ec ev : Ev} {eas : Ea} {pos p2 p3 p5 p6 : Pos}
theorem xAppP {i j j4 k6 : Nat} {p4 : Pos} {x : Str} {v1 v2 : V} {t1 t2 : T} (h : PE X (.Name x p2) (tVar i)) (ha : SE K X a (tC v1) (cK t1)) (g1 : ∀ F O, Rl K F O v1 t1 []) (hb : SE K X b (tC v2) (cK t2)) (g2 : ∀ F O, Rl K F O v2 t2 [])
    (hs1 : starEach [b] X.env = (false, eval b X.env) :: starEach [] X.env := by rfl) (hs2 : starEach [a, b] X.env = (false, eval a X.env) :: starEach [b] X.env := by rfl)
    (hst : starEach [.Tuple [a, b] k6 p6] X.env = (false, eval (.Tuple [a, b] k6 p6) X.env) :: starEach [] X.env := by rfl)
    (hbase : attributeBase (.Subscript (.Name x p2) (.Constant (.int (j : Nat)) j4 p4) p5) "append" X.env (eval (.Subscript (.Name x p2) (.Constant (.int (j : Nat)) j4 p4) p5) X.env) = eval (.Subscript (.Name x p2) (.Constant (.int (j : Nat)) j4 p4) p5) X.env := by rfl)
    (hfew : ((backTo pos (starEach [.Tuple [a, b] k6 p6] X.env)).all (fun x => !x.1) && (backToKw pos (keywordEach [] X.env)).all (fun x => x.1.isSome) && decide ([Expr.Tuple [a, b] k6 p6].length + ([] : List Keyword).length + (if ([] : List Keyword).isEmpty then 0 else 1) < 30)) = true := by rfl)
    (hline : (p3.endLine == pos.line) = true := by rfl) :
    SE K X (.Call (.Attribute (.Subscript (.Name x p2) (.Constant (.int (j : Nat)) j4 p4) p5) "append" p3) [.Tuple [a, b] k6 p6] [] pos) (tBM K "list" rAppend (tOp (rIx K) (tVar i) (tC (.int (j : Nat)))) (tCons (tTup (tCons (tC v1) (tCons (tC v2) tNil))) tNil)) (cAppP i j (.tup false [t1, t2])) := by
  cases ha.k
  have h0 : SE X.K X (.Constant (.int (j : Nat)) j4 p4) (tC (.int (j : Nat))) (cK (.int (j : Nat))) := xInt
  have hx : SE X.K X (.Name x p2) (tVar i) (cV i) := xV h
  have h1 : SE X.K X (.Subscript (.Name x p2) (.Constant (.int (j : Nat)) j4 p4) p5) (tOp (rIx X.K) (tVar i) (tC (.int (j : Nat)))) (cO2 ixT (cV i) (cK (.int (j : Nat)))) := xIx hx h0
  exact ⟨pe_bm PySem.F.plainAttrs_list PySem.F.slot_list_append PySem.F.type_list_append mt_append h1.p (pa_cons (pe_tup (pa_cons ha.p (pa_cons hb.p pa_nil hs1) hs2)) pa_nil hst) hbase hfew hline hst (by rfl), eAppP g1 g2, rfl⟩
theorem xClrN {i j j4 : Nat} {p4 : Pos} {x : Str} (h : PE X (.Name x p2) (tVar i))
    (hbase : attributeBase (.Subscript (.Name x p2) (.Constant (.int (j : Nat)) j4 p4) p5) "clear" X.env (eval (.Subscript (.Name x p2) (.Constant (.int (j : Nat)) j4 p4) p5) X.env) = eval (.Subscript (.Name x p2) (.Constant (.int (j : Nat)) j4 p4) p5) X.env := by rfl) (hline : (p3.endLine == pos.line) = true := by rfl) (hk : X.K = K := by rfl) :
    SE K X (.Call (.Attribute (.Subscript (.Name x p2) (.Constant (.int (j : Nat)) j4 p4) p5) "clear" p3) [] [] pos) (tBM0 K "list" rClear (tOp (rIx K) (tVar i) (tC (.int (j : Nat))))) (cClrN i j) := by
  cases hk
  have h0 : SE X.K X (.Constant (.int (j : Nat)) j4 p4) (tC (.int (j : Nat))) (cK (.int (j : Nat))) := xInt
  have hx : SE X.K X (.Name x p2) (tVar i) (cV i) := xV h
  have h1 : SE X.K X (.Subscript (.Name x p2) (.Constant (.int (j : Nat)) j4 p4) p5) (tOp (rIx X.K) (tVar i) (tC (.int (j : Nat)))) (cO2 ixT (cV i) (cK (.int (j : Nat)))) := xIx hx h0
  exact ⟨pe_bm0 PySem.F.plainAttrs_list PySem.F.slot_list_clear PySem.F.type_list_clear mt_clear h1.p hbase hline, eClrN, rfl⟩
theorem xLendS (h : SE K X e te ev) : SE K X e te (cLendS ev) := by
  cases h.k
  exact ⟨h.p, eLendS h.s, rfl⟩
theorem xInF (ha : SE K X a ta ea) (hb : SE K X b tb eb) (hm : behindInMarks .In b = false) : SE K X (.Compare a [.In] [b] pos) (tOp (rIn K false) ta tb) (cO2 (inFT false) ea eb) := by
  cases ha.k
  exact xCmp op_in_seq sInF ha hb hm
theorem xNotInF (ha : SE K X a ta ea) (hb : SE K X b tb eb) (hm : behindInMarks .NotIn b = false) : SE K X (.Compare a [.NotIn] [b] pos) (tOp (rIn K true) ta tb) (cO2 (inFT true) ea eb) := by
  cases ha.k
  exact xCmp op_notIn_seq sInF ha hb hm
theorem yInF (ha : SE K X a ta ea) (hb : SE K X b tb eb) (hm : behindInMarks .In b = false) : ST K X (.Compare a [.In] [b] pos) (tTest (tOp (rIn K false) ta tb)) (cTest (cO2 (inFT false) ea eb)) := by
  cases ha.k
  exact yCmp op_in_seq sInF ha hb hm
theorem yNotInF (ha : SE K X a ta ea) (hb : SE K X b tb eb) (hm : behindInMarks .NotIn b = false) : ST K X (.Compare a [.NotIn] [b] pos) (tTest (tOp (rIn K true) ta tb)) (cTest (cO2 (inFT true) ea eb)) := by
  cases ha.k
  exact yCmp op_notIn_seq sInF ha hb hm
@[simp] theorem inFT_lst (neg o : Bool) (a : T) (xs : List T) : inFT neg a (.lst o xs) = if (flT a && xs.all flT) = true then some (.bl (if neg then !anyF a xs else anyF a xs)) else none := rfl
@[simp] theorem cLendS_def (a : Ev) (env : Env) : cLendS a env = (a (erE env)).bind fun p => match p.1 with
    | .t r => if scT r = true then some (.t r, env) else none
    | _ => none := by
  unfold cLendS
  cases a (erE env) with
  | none => rfl
  | some p =>
    obtain ⟨o, e⟩ := p
    cases o <;> rfl
@[simp] theorem scT_bl (b : Bool) : scT (.bl b) = true := rfl
@[simp] theorem scT_int (b : Int) : scT (.int b) = true := rfl
@[simp] theorem scT_str (b : Str) : scT (.str b) = true := rfl
@[simp] theorem scT_non : scT .non = true := rfl
@[simp] theorem cAppP_def (i j : Nat) (y : T) (env : Env) : cAppP i j y env = (kidL env i j).bind fun p => if p.2.2.length < sizeLine then some (.t .non, env.set i (some (rekid p.1 (p.2.1.set j (.lst true (p.2.2 ++ [y])))))) else none := by
  unfold cAppP
  cases kidL env i j <;> rfl
@[simp] theorem cClrN_def (i j : Nat) (env : Env) : cClrN i j env = (kidL env i j).bind fun p => some (.t .non, env.set i (some (rekid p.1 (p.2.1.set j (.lst true []))))) := by
  unfold cClrN
  cases kidL env i j <;> rfl
end LP
set_option maxRecDepth 100000
/-! LP: list(reversed(xs)), range(n, -1, -1), sorted(ns, reverse=True), defs with defaults. -/
namespace RT
open PySem PySem.Spec PyProof.Rows L2
section
variable {prog : Program} {w : World} {A : Around} {E : Value → Shared → Prop} {s : Shared}
theorem extend_rev {R : Result → Shared → Prop} {it l S : Addr} {items : Array Value} {res : Value} {c₀ : Nat} (hh : A.handled = none) (hit : s.heap.IsRevIter it l ((items.size : Int) - 1)) (hl : s.heap.IsList l items) (hne : l ≠ it) (hn : items.size ≤ sizeLine)
    (hS : s.heap.get? S = some { cls := .type "list", data := .seq #[] c₀ }) (hSi : S ≠ it) (hSl : S ≠ l)
    (hR : ∀ h' tk acc' c', (∀ b o, b ≠ S → b ≠ it → s.heap.get? b = some o → h'.get? b = some o) → h'.get? S = some { cls := .type "list", dict := none, data := .seq acc' c', slots := #[] } →
      ItemsOf (fun i v => items[items.size - 1 - i]? = some v) acc' items.size → R (.ok (.ret res)) { s with heap := h', toks := tk }) :
    wpAny (model prog w) A.in1 (Builtin.List.listExtendWith (.ref S) (.ref it) res)
      (fun fin s' => match fin with | .done f => R (.ok f) s' | .again c' => c'.quiet = true ∧ codeAny (model prog w) A c' R s') (fun e s' => R (.error e) s') s := by
  have W := (Walks.listRev (prog := prog) (w := w) (A := A.in1) hh it l hne items).toS
  have hSf : S ∉ [it, l] := by simp only [List.mem_cons, List.not_mem_nil, or_false, not_or]; exact ⟨hSi, hSl⟩
  have hT : s.TypeIs (.ref it) "list_reverseiterator" := Heap.IsRevIter.typeIs hit
  have h1 : Builtin.List.listSameRef (.ref S) (.ref it) = false := by simp [Builtin.List.listSameRef, hSi]
  unfold Builtin.List.listExtendWith
  refine wpAny_bind (wpAny_typeOf hT ?_)
  rw [if_neg (by rw [h1]; decide)]
  refine wpAny_bind (wpAny_pyIter_revIter hit ?_)
  refine wpAny_bind (wpAny_holding ?_)
  unfold Builtin.List.listLengthHint
  refine wpAny_bind (wpAny_specialOf hT nolen_lri ?_)
  show wpAny _ A.in1 (specialOf (Value.ref it) (Str.ofString "__length_hint__") >>= _) _ _ _
  refine wpAny_bind (wpAny_specialOf hT hint_lri ?_)
  generalize hid : ("list_reverseiterator.__length_hint__" : String) = id0
  wp_delta
  rw [show splitId id0 = some ("list_reverseiterator", "__length_hint__") from by subst hid; decide +kernel]
  subst hid
  refine wpAny_bind (wpAny_isInstance (b := true) hT (by rw [isSubtype_type]; kernel_rfl) ?_)
  refine wpAny_pure ?_
  rw [if_neg (by decide)]
  have e0 : ((items.size : Nat) : Int) - 1 - ((0 : Nat) : Int) = (items.size : Int) - 1 := by omega
  refine wpAny_pure ⟨plainId_quiet F.plain_extend_loop _, codeAny_extend_loopS W hn S hSf res items.size 0 _ #[] c₀ rfl (Nat.zero_le _) ⟨Nat.zero_le _, by rw [e0]; exact hit, hl⟩ hS (ItemsOf.nil _) fun s' acc' c' hm hS' hacc => ?_⟩
  rw [Moved.eq_with hm]
  refine hR s'.heap s'.toks acc' c' (fun b o hb hb2 e => hm.heap b o (fun hmem => ?_) e) hS' hacc
  rcases List.mem_cons.mp hmem with e' | hmem
  · exact hb e'
  · exact hb2 (List.mem_singleton.mp hmem)
theorem list_init_rev {R : Result → Shared → Prop} {it l S : Addr} {items : Array Value} (hh : A.handled = none) (hit : s.heap.IsRevIter it l ((items.size : Int) - 1)) (hl : s.heap.IsList l items) (hne : l ≠ it) (hn : items.size ≤ sizeLine)
    (hS : s.heap.get? S = some { cls := .type "list", data := .seq #[] }) (hSi : S ≠ it) (hSl : S ≠ l)
    (hR : ∀ h' tk acc' c', (∀ b o, b ≠ S → b ≠ it → s.heap.get? b = some o → h'.get? b = some o) → h'.get? S = some { cls := .type "list", dict := none, data := .seq acc' c', slots := #[] } →
      ItemsOf (fun i v => items[items.size - 1 - i]? = some v) acc' items.size → R (.ok (.ret .none)) { s with heap := h', toks := tk }) :
    wpAny (model prog w) A.in1 (Builtin.«list.__init__» ⟨[.ref S, .ref it], []⟩)
      (fun fin s' => match fin with | .done f => R (.ok f) s' | .again c' => c'.quiet = true ∧ codeAny (model prog w) A c' R s') (fun e s' => R (.error e) s') s := by
  show wpAny _ _ (do let old ← Builtin.List.listItems (.ref S); Builtin.List.listUpdate (.ref S) (fun _ => #[]); letGo old.toList.reverse; Builtin.List.listExtendWith (.ref S) (.ref it) .none) _ _ s
  refine wpAny_bind ?_
  unfold Builtin.List.listItems
  refine wpAny_bind (wpAny_seqItems hS rfl (wpAny_pure ?_))
  show wpAny _ _ (updateSeq S (fun _ => #[]) >>= fun _ => letGo (#[] : Array Value).toList.reverse >>= fun _ => Builtin.List.listExtendWith (.ref S) (.ref it) .none) _ _ s
  refine wpAny_bind (wpAny_updateSeq hS rfl ?_)
  have hS₂ := Heap.get?_update_self (Obj.mapSeq (fun _ => (#[] : Array Value))) hS rfl
  have oth : ∀ b o, b ≠ S → s.heap.get? b = some o → (s.heap.update S (Obj.mapSeq (fun _ => (#[] : Array Value)))).get? b = some o :=
    fun b o hb e => (Heap.get?_update_other _ _ (Ne.symm hb)).trans e
  refine wpAny_bind (wpAny_letGo ?_)
  have hit2 : (s.heap.update S (Obj.mapSeq (fun _ => (#[] : Array Value)))).IsRevIter it l ((items.size : Int) - 1) := hit.at fun o e => oth it o (Ne.symm hSi) e
  have hl2 : (s.heap.update S (Obj.mapSeq (fun _ => (#[] : Array Value)))).IsList l items := by
    obtain ⟨o, e, r⟩ := hl
    exact ⟨o, oth l o (Ne.symm hSl) e, r⟩
  refine extend_rev (s := { s with heap := s.heap.update S (Obj.mapSeq (fun _ => (#[] : Array Value))) }) hh hit2 hl2 hne hn hS₂ hSi hSl fun h' tk acc' c' hk hS' hacc => ?_
  exact hR h' tk acc' c' (fun b o hb hb2 e => hk b o hb hb2 (oth b o hb e)) hS' hacc
theorem call_list_rev {it l : Addr} {items : Array Value} {Q : Value → Shared → Prop} (hh : A.handled = none) (hit : s.heap.IsRevIter it l ((items.size : Int) - 1)) (hl : s.heap.IsList l items) (hne : l ≠ it) (hn : items.size ≤ sizeLine)
    (hQ : ∀ (h' : Heap) (tk : Nat) (acc : Array Value) (c' : Nat), (∀ b o, b ≠ it → s.heap.get? b = some o → h'.get? b = some o) → h'.get? s.heap.objs.size = some { cls := .type "list", dict := none, data := .seq acc c', slots := #[] } →
      ItemsOf (fun i v => items[items.size - 1 - i]? = some v) acc items.size → Q (.ref s.heap.objs.size) { s with heap := h', toks := tk }) :
    wpAny (model prog w) A (call (.type "list") [.ref it]) Q E s := by
  obtain ⟨oi, hoi, _⟩ := id hit
  obtain ⟨ol, hol, _⟩ := id hl
  refine callType_codes (Q₁ := fun obj s₁ => obj = .ref s.heap.objs.size ∧ s₁ = { s with heap := s.heap.push { cls := .type "list", data := .seq #[] } }) F.called_list (F.typeCall_list_1 _) F.entry_list_init
    (code_list_new _ ⟨rfl, rfl⟩) fun obj s₁ h₁ => ?_
  obtain ⟨rfl, rfl⟩ := h₁
  have hS : (s.heap.push { cls := .type "list", data := .seq #[] }).get? s.heap.objs.size = some { cls := .type "list", data := .seq #[] } := Heap.get?_push_size _ rfl
  have hit1 : (s.heap.push { cls := .type "list", data := .seq #[] }).IsRevIter it l ((items.size : Int) - 1) := hit.at fun o e => Heap.get?_push_of_some _ e
  refine ⟨⟨_, hS, rfl⟩, F.args_list_init_2 _ _, list_init_rev (s := { s with heap := s.heap.push { cls := .type "list", data := .seq #[] } }) (A := A.in1) hh hit1 (hl.push _) hne hn hS (Nat.ne_of_gt (Heap.lt_size hoi)) (Nat.ne_of_gt (Heap.lt_size hol)) fun h' tk acc' c' hk hS' hacc => ?_⟩
  exact ⟨rfl, hQ h' tk acc' c' (fun b o hb e => hk b o (Nat.ne_of_lt (Heap.lt_size e)) hb (Heap.get?_push_of_some _ e)) hS' hacc⟩
end
section
variable {X : Cx}
def tLstRev (K : PySem.W.Frag) (te : TE) : TE := fun σ H Q => te σ H fun v H1 => ∃ (a : Addr) (xs : List V), v = .ref a ∧ SqL K H1 a xs ∧ ∀ q, H1 q = none → Q (.ref q) (upd H1 q (.lst xs.reverse))
theorem pe_lstRev {e : Expr} {te : TE} {p p2 pos pos2 : Pos} (hc : X.calm = true) (hg : Gl X "list") (hm : X.mg "list" = none) (hg2 : Gl X "reversed") (hm2 : X.mg "reversed" = none) (he : PE X e te)
    (hs : starEach [e] X.env = (false, eval e X.env) :: starEach [] X.env := by rfl)
    (hs2 : starEach [.Call (.Name "reversed" p2) [e] [] pos2] X.env = (false, eval (.Call (.Name "reversed" p2) [e] [] pos2) X.env) :: starEach [] X.env := by rfl) :
    PE X (.Call (.Name "list" p) [.Call (.Name "reversed" p2) [e] [] pos2] [] pos) (tLstRev X.K te) := by
  refine ⟨fun pins s σ H Q I h => ?_⟩
  refine Call_ (ld_blt I hg hm boot_list (PyProof.Rows.callWith_type1 (args_cons (Call_ (ld_blt I hg2 hm2 PyProof.Rows.boot_reversed (PyProof.Rows.callWith_type1 (args_cons (thn (he.run pins s σ H _ I h) fun u s1 ⟨v, H1, I1, r1, q1⟩ => args_nil ?_) hs) hs rfl))) hs2) hs2 rfl))
  obtain ⟨a, xs, ev, hq, q⟩ := q1
  subst ev
  obtain rfl : u = Value.ref a := r1
  obtain ⟨its, rv, p', hz⟩ := I1.list hq
  refine call_reversed_list p'.isList (args_nil ?_)
  have k0 : ∀ b o, s1.heap.get? b = some o → (s1.heap.push (revObj a ((its.toArray.size : Int) - 1))).get? b = some o := fun b o e => Heap.get?_push_of_some _ e
  have I2 : Inv X pins σ H1 { s1 with heap := s1.heap.push (revObj a ((its.toArray.size : Int) - 1)) } := I1.kept (t' := s1.toks) k0
  obtain ⟨f0, f1, f2, f3, f4, f5⟩ := I1.fpOk (H' := H1) (b := s1.heap.objs.size) (Nat.le_refl _) (I1.hok.fresh (Nat.le_refl _))
  have hl := p'.isList
  obtain ⟨ol, hol, _⟩ := id hl
  have hne : a ≠ s1.heap.objs.size := Nat.ne_of_lt (Heap.lt_size hol)
  have hn : its.toArray.size ≤ sizeLine := by rw [List.size_toArray, ← rv.length]; exact hz
  refine call_list_rev (s := { s1 with heap := s1.heap.push (revObj a ((its.toArray.size : Int) - 1)) }) (I1.ok.hd hc) ⟨_, Heap.get?_push_size _ rfl, rfl, rfl⟩ (hl.push _) hne hn fun h' tk acc c' hk hS hi => ?_
  have hle : s1.heap.objs.size ≤ (s1.heap.push (revObj a ((its.toArray.size : Int) - 1))).objs.size := Nat.le_of_lt (Heap.lt_size (show (s1.heap.push (revObj a ((its.toArray.size : Int) - 1))).get? s1.heap.objs.size = some (revObj a ((its.toArray.size : Int) - 1)) from Heap.get?_push_size _ rfl))
  have hfr : H1 (s1.heap.push (revObj a ((its.toArray.size : Int) - 1))).objs.size = none := I2.hok.fresh (Nat.le_refl _)
  refine ⟨.ref _, upd H1 (s1.heap.push (revObj a ((its.toArray.size : Int) - 1))).objs.size (.lst xs.reverse), I1.laid (t' := tk) (fun b o e => hk b o (Nat.ne_of_lt (Heap.lt_size e)) (k0 b o e)) hle (show ObjOk X.prog X.w _ _ _ (.lst xs.reverse) from ⟨by rw [List.length_reverse]; exact hz, acc.toList, c', vals_rev rv hi, ?_⟩), rfl, q _ hfr⟩
  rw [Array.toArray_toList]
  exact hS
end
end RT
namespace LP
open PySem L2
section
variable {K : PySem.W.Frag} {X : Cx} {F O F' O' F1 O1 F2 O2 : Hp} {σ : L2.St} {env env' : Env} {f f1 f2 fp fp1 fp2 : List Addr} {pn : List Nat}
theorem Rls.rev0 : ∀ {vs : List V} {ts : List T}, Rls K F O vs ts [] → Rls K F O vs.reverse ts.reverse []
  | _, _, h => by
    have go : ∀ {vs : List V} {ts : List T} {f : List Addr}, Rls K F O vs ts f → f = [] → Rls K F O vs.reverse ts.reverse [] := by
      intro vs ts f h
      induction vs generalizing ts f with
      | nil => intro _; cases h; exact .nil
      | cons v r ih =>
        intro e
        cases h with
        | cons h1 h2 =>
          obtain ⟨rfl, rfl⟩ := List.append_eq_nil_iff.mp e
          rw [List.reverse_cons, List.reverse_cons]
          have := (ih h2 rfl).append (.cons (f := []) (fs := []) h1 .nil)
          exact this
    exact go h rfl
/-- list(reversed(xs)) -/
def cLrv (a : Ev) : Ev := fun env => match a env with
  | some (o, e) => match vw e o with
    | some (.lst _ xs) => if fzL xs = true then some (.t (.lst true xs.reverse), e) else none
    | _ => none
  | none => none
theorem eLrv {ta : TE} {a : Ev} (ha : ESnd K ta a) : ESnd K (RT.tLstRev K ta) (cLrv a) := by
  intro env o env' h σ F O f a0 Q q
  simp only [cLrv] at h
  split at h
  · next o1 e1 h1 =>
    split at h
    · next oo xs hx =>
      split at h
      · next z =>
        cases h
        refine ha _ _ _ h1 σ F O f a0 _ fun v F1 O1 fp1 f1 a1 s1 r1 => ?_
        obtain ⟨g1, w1, _⟩ := r1.view a1.e hx
        obtain ⟨p, vs, fs, rfl, h2, r2⟩ := w1.lstv a1.d
        refine ⟨p, vs, rfl, .inl (.inl h2), fun q' hq' => ?_⟩
        have b : Back K F1 O1 (.lst true xs.reverse) Q := fin a1 s1.snd q
        exact b.newL a1.d (r2.own0 z).rev0 q' hq'
      · cases h
    · cases h
  · cases h
/-- range(a, -1, -1) -/
noncomputable def iRd (a : Ea) : It := fun env => match a env with
  | some (os, e) => match vws e os with
    | some [.int i, .int j, .int k] => if inR i = true ∧ j = -1 ∧ k = -1 then some (rngD (i + 1).toNat, e) else none
    | _ => none
  | none => none
theorem wRd {ta : TA} {a : Ea} (ha : ASnd K ta a) : WSnd K (iRng3 ta) (iRd a) := by
  intro env items env' h σ F O f a0 R q
  simp only [iRd] at h
  split at h
  · next o e h1 =>
    split at h
    · next i j k hx =>
      split at h
      · next z =>
        cases h
        obtain ⟨z, rfl, rfl⟩ := z
        refine ha _ _ _ h1 σ F O f a0 _ fun v F1 O1 fp1 f1 a1 s1 r1 => ?_
        obtain ⟨g1, w1⟩ := r1.views a1.e hx
        simp only [inR_eq, Bool.and_eq_true, decide_eq_true_eq] at z
        cases w1 with
        | cons w w' =>
          cases w
          cases w' with
          | cons w w' =>
            cases w
            cases w' with
            | cons w w' =>
              cases w
              cases w'
              by_cases hi : 0 ≤ i
              · refine ⟨i, -1, -1, (i - (-1)).toNat, rfl, .neg z.1 z.2 (by omega) (by omega), ?_⟩
                have e1 : (i + 1).toNat = (i - (-1)).toNat := by omega
                rw [e1] at q
                exact q _ F1 O1 f1 a1.only s1.snd (yieldsD (by omega))
              · refine ⟨i, -1, -1, (i - (-1)).toNat, rfl, .neg z.1 z.2 (by omega) (by omega), ?_⟩
                have e0 : (i + 1).toNat = 0 := by omega
                have e1 : (i - (-1)).toNat = 0 := by omega
                rw [e0] at q
                rw [e1]
                refine q _ F1 O1 f1 a1.only s1.snd fun F' O' s d n => ⟨fun t e => ?_, fun _ => Nat.zero_le n⟩
                simp [rngD] at e
      · cases h
    · cases h
  · cases h
/-- sorted(ns, reverse=True) -/
def revI (ns : List Int) : List Int := (sortI ns).reverse
def cSrv (a : Ev) : Ev := fun env => match a env with
  | some (o, e) => match vw e o with
    | some (.lst _ xs) => match intsL xs with
      | some ns => some (.t (.lst true ((revI ns).map T.int)), e)
      | none => none
    | _ => none
  | none => none
theorem eSrv {ta : TE} {a : Ev} (ha : ESnd K ta a) : ESnd K (tCKw (rSortedKw K true [.bl true]) (tCons ta tNil) (tCons (tC (.bl true)) tNil)) (cSrv a) := by
  intro env o env' h σ F O f a0 Q q
  simp only [cSrv] at h
  split at h
  · next o1 e1 h1 =>
    split at h
    · next oo xs hx =>
      split at h
      · next ns hn =>
        cases h
        refine ha _ _ _ h1 σ F O f a0 _ fun v F1 O1 fp1 f1 a1 s1 r1 => ?_
        obtain ⟨g1, w1, _⟩ := r1.view a1.e hx
        obtain ⟨p, rfl, h2⟩ := w1.intsv a1.d hn
        refine ⟨p, ns, rfl, rfl, .inl (.inl h2), fun ns' p' hp ho hn' => ?_⟩
        have b : Back K F1 O1 (.lst true ((revI ns).map T.int)) Q := fin a1 s1.snd q
        have e : ns' = revI ns := by
          unfold revI
          have h3 : ns'.reverse = sortI ns := srt_uniq (List.pairwise_reverse.mpr ho) (sortI_srt ns) (((List.reverse_perm ns').trans hp).trans (sortI_perm ns).symm)
          rw [← h3, List.reverse_reverse]
        rw [e]
        exact b.newL a1.d (Rls.mkInts _) p' hn'
      · cases h
    · cases h
  · cases h
end
section
variable {K : PySem.W.Frag} {X : Cx} {a b c e : Expr} {es : List Expr} {ta tb tc te : TE} {tas : TA} {ea eb ec ev : Ev} {eas : Ea} {pos p2 p3 p4 p5 : Pos} {tg : Expr}
theorem xLrv (hc : X.calm = true) (hg : Gl X "list") (hm : X.mg "list" = none) (hg2 : Gl X "reversed") (hm2 : X.mg "reversed" = none) (he : SE K X e te ev)
    (hs : starEach [e] X.env = (false, eval e X.env) :: starEach [] X.env := by rfl)
    (hs2 : starEach [.Call (.Name "reversed" p2) [e] [] p3] X.env = (false, eval (.Call (.Name "reversed" p2) [e] [] p3) X.env) :: starEach [] X.env := by rfl) :
    SE K X (.Call (.Name "list" p4) [.Call (.Name "reversed" p2) [e] [] p3] [] pos) (RT.tLstRev K te) (cLrv ev) := by
  cases he.k
  exact ⟨RT.pe_lstRev hc hg hm hg2 hm2 he.p hs hs2, eLrv he.s, rfl⟩
theorem iRd_ (hg : Gl X "range") (hm : X.mg "range" = none) (h : SA K X [a, b, c] tas eas) (hs : starEach [a, b, c] X.env = (false, eval a X.env) :: starEach [b, c] X.env := by rfl) (hpl : (backTo pos (starEach [b, c] X.env)).any (·.1) = false := by rfl) :
    SI K X tg (.Call (.Name "range" p2) [a, b, c] [] pos) (iRng3 tas) (iRd eas) := by
  cases h.k
  exact ⟨pi_range3 hg hm h.p hs hpl, wRd h.s, rfl⟩
theorem xSrv {kws : List Keyword} (hg : Gl X "sorted") (hm : X.mg "sorted" = none) (ha : SE K X e te ev) (hk : PK X kws (tCons (tC (.bl true)) tNil)) (hst : starEach [e] X.env = (false, eval e X.env) :: starEach [] X.env := by rfl)
    (he : backTo pos (starEach [e] X.env) = (false, eval e X.env) :: backTo pos (starEach [] X.env) := by rfl) (hpl : (backTo pos (starEach [e] X.env)).any (·.1) = false := by rfl)
    (hall : (backToKw pos (keywordEach kws X.env)).all (·.1.isSome) = true := by rfl) (hnone : (backToKw pos (keywordEach kws X.env)).any (·.1.isNone) = false := by rfl) (hks : (backToKw pos (keywordEach kws X.env)).filterMap (·.1) = [Str.ofString "reverse"] := by rfl) :
    SE K X (.Call (.Name "sorted" p2) [e] kws pos) (tCKw (rSortedKw K true [.bl true]) (tCons te tNil) (tCons (tC (.bl true)) tNil)) (cSrv ev) := by
  cases ha.k
  exact ⟨pe_callBK cr_sortedRev hg hm (by first | rfl | decide +kernel) (pa_cons ha.p pa_nil hst) hk (by decide) (by decide) he hpl hall hnone hks, eSrv ha.s, rfl⟩
end
@[simp] theorem cLrv_def (a : Ev) (env : Env) : cLrv a env = (a env).bind fun p => match vw p.2 p.1 with
    | some (.lst _ xs) => if fzL xs = true then some (.t (.lst true xs.reverse), p.2) else none
    | _ => none := by
  unfold cLrv
  cases a env <;> rfl
@[simp] theorem cSrv_def (a : Ev) (env : Env) : cSrv a env = (a env).bind fun p => match vw p.2 p.1 with
    | some (.lst _ xs) => (match intsL xs with
      | some ns => some (.t (.lst true ((revI ns).map T.int)), p.2)
      | none => none)
    | _ => none := by
  unfold cSrv
  cases a env <;> rfl
@[simp] theorem iRd_def (a : Ea) (env : Env) : iRd a env = (a env).bind fun p => match vws p.2 p.1 with
    | some [.int i, .int j, .int k] => if inR i = true ∧ j = -1 ∧ k = -1 then some (rngD (i + 1).toNat, p.2) else none
    | _ => none := by
  unfold iRd
  cases a env <;> rfl
end LP
set_option maxRecDepth 100000
/-! LP: defs with defaults. -/
namespace LP
open PySem L2
section
variable {P : Program} {w : World} {K : PySem.W.Frag} {mg : Str → Option Value} {base : Heap}
theorem fn_okD {dvs : List V} {kws : List (Str × V)} {x qual : Str} {st : Stmt} {fa : Addr} {fd : FuncData} {N ps : List Str} {k : Nat} (Fu : FunD K x qual (defArgs st) (defBody st) (defScope st) dvs kws fa fd) (Sc : FnScope N ps (defScope st)) (m : List Bool) (hm : m.length = ps.length) {b : S}
    (hb : ∀ (cdv : Value) (A : Around) (outer : List PySem.Env) (s : Shared) (H : Hp) (E : XK), Room k (A.deeper (PyProof.Rows.envOfC qual (defScope st) s.heap.objs.size fa cdv)) → ∃ t, SSs K (cxOf CX0 P w K mg base N qual (defScope st) fa cdv A outer s H E).nox (pins m 0) (defBody st) t b) :
    FnOk P w K mg base CX0 (k + 1) fa fd ps (spF K m.length (runB m N.length b)) := by
  refine FunD.ok (CX := CX0) Fu Sc (fun vs H Q E h => ?_) (fun cdv A outer s H vs Q E hr h => ?_)
  · obtain ⟨_, _, _, _, _, _, hl, _⟩ := h
    rw [hl, hm]
  · obtain ⟨F, O, ts, f, r, outs, hl, rfl, d, rl, nd, hg, q⟩ := h
    obtain ⟨t, hs⟩ := hb cdv A outer s _ E hr
    refine ⟨t, hs.p.nox, ?_⟩
    have e0 := RlE.start (n := N.length - vs.length) rl
    have hlen : N.length - vs.length = N.length - ts.length := by rw [rl.len]
    have hpin : ∀ {σ' : L2.St}, Same2 (pins m 0) (L2.start N vs) σ' → ∀ i, i ∈ pins m 0 → ∃ j, i = 0 + j ∧ σ'[j]? = (L2.start N vs)[i]? := fun p i hi => ⟨i, (Nat.zero_add i).symm, p.s i hi⟩
    have hst : ∀ j v, vs[j]? = some v → (L2.start N vs)[0 + j]? = some (some v) := fun j v e => by
      unfold L2.start
      have hj := (List.getElem?_eq_some_iff.mp e).1
      rw [Nat.zero_add, List.getElem?_append_left (by rw [List.length_map]; exact hj), List.getElem?_map, e]
      rfl
    have fins : ∀ {v : V} {σ' : L2.St} {F' O' : Hp} {fp f' : List Addr} {t : T} {e : Env}, At K σ' F' O' e fp f' → Stp F O f F' O' (fp ++ f') → Rl K F' O' v t fp → Same2 (pins m 0) (L2.start N vs) σ' → t = r → outsOf m ts e = some outs → Q v (jn F' O') := by
      intro v σ' F' O' fp f' t e a1 s1 r1 p1 et eo
      subst et
      obtain ⟨g, k1, k2⟩ := outs_of s1.f (k := 0) (σ0 := L2.start N vs) a1.e rl eo (hpin p1) hst
      refine q v F' O' fp g a1.d (s1.less fun a z => ?_) r1 k1 (a1.nd.sub fun a => by rw [List.count_append, List.count_append]; have := k2 a; omega)
      rcases List.mem_append.mp z with w | w
      · exact List.mem_append_left _ w
      · refine List.mem_append_right _ ?_
        rw [mem_count] at w ⊢
        have := k2 a
        omega
    unfold runB at hg
    rw [← hlen] at hg
    split at hg
    · next t' e hb' =>
      split at hg
      · next us hu =>
        obtain ⟨rfl, rfl⟩ := Prod.mk.inj (Option.some.inj hg)
        exact hs.s _ _ hb' (L2.start N vs) F O f ⟨d, e0, nd⟩ _ fun v σ' F' O' fp f' a1 s1 r1 p1 => fins a1 s1 r1 p1 rfl hu
      · cases hg
    · next e hb' =>
      split at hg
      · next us hu =>
        obtain ⟨rfl, rfl⟩ := Prod.mk.inj (Option.some.inj hg)
        exact hs.s _ _ hb' (L2.start N vs) F O f ⟨d, e0, nd⟩ _ fun σ' F' O' f' a1 s1 p1 => fins (fp := []) (v := .non) a1 s1 .non p1 rfl hu
      · cases hg
    · cases hg
/-- a def of the module's top that has defaults -/
def DefOkD (K : PySem.W.Frag) (mg : Str → Option Value) (x : Str) (st : Stmt) (dvs : List V) : Prop := ∃ f fd, FunD K x x (defArgs st) (defBody st) (defScope st) dvs [] f fd ∧ mg x = some (.ref f)
theorem fun_lkD {dvs : List V} {kws : List (Str × V)} {x q : Str} {st : Stmt} {f : Addr} {fd : FuncData} (F : FunD K x q (defArgs st) (defBody st) (defScope st) dvs kws f fd) : ∃ oc od osl, K.lookup f = some ⟨oc, od, .func fd, osl⟩ := by
  obtain ⟨oc, od, _, _, _, _, _, _, _, osl, _, h, _⟩ := F.ex
  exact ⟨oc, od, osl, h⟩
theorem fun_mkD {dvs : List V} {x qual : Str} {st : Stmt} {f T : Addr} {oc cT : Value} {od an dT : Option Addr} {osl sT : Array (Option Value)} {kV doc pm cdv ct : Value} {its : List Value} {n : Nat} (l : K.lookup f = some ⟨oc, od, .func (PySem.W.fnOf x qual (defArgs st) (defBody st) (defScope st) (.ref T) kV doc pm an cdv ct), osl⟩)
    (c : PySem.W.codeIn K cdv qual = true) (k : PySem.W.keepIn K (.ref f) = true) (lT : K.lookup T = some ⟨cT, dT, .seq its.toArray n, sT⟩) (hd : dvs ≠ []) (rv : Vals dvs its) :
    FunD K x qual (defArgs st) (defBody st) (defScope st) dvs [] f (PySem.W.fnOf x qual (defArgs st) (defBody st) (defScope st) (.ref T) kV doc pm an cdv ct) :=
  ⟨⟨oc, od, .ref T, kV, doc, pm, an, cdv, ct, osl, rfl, l, c, .inr ⟨hd, T, _, its, n, rfl, lT, rfl, rv⟩, .inl rfl⟩, k⟩
end
end LP
set_option maxRecDepth 100000
/-! LP: >>, &, a slice of the script. -/
namespace LP
open PySem L2
section
variable {K : PySem.W.Frag} {X : Cx} {F O F' O' F1 O1 F2 O2 : Hp} {σ : L2.St} {env env' : Env} {f f1 f2 fp fp1 fp2 : List Addr} {pn : List Nat}
def shrT := opI fun i j => if 0 ≤ j then some (i / 2 ^ j.toNat) else none
def bandT := opI fun i j => some (Builtin.bitAnd i j)
theorem sShr : OSnd2 K (rI (fun _ j => 0 ≤ j) fun i j => .int (i / 2 ^ j.toNat)) shrT := sI fun i j k e => by
  split at e
  · next h => exact ⟨h, Option.some.inj e⟩
  · cases e
theorem sBand : OSnd2 K (rI0 fun i j => .int (Builtin.bitAnd i j)) bandT := by
  intro F O x y a b fa fb t d ha hb e Q q
  unfold bandT opI at e
  split at e
  · cases e
    cases ha
    cases hb
    exact ⟨_, _, rfl, rfl, q.sc d (.int _)⟩
  · cases e
def slST (t : T) (lo hi : Option Int) : Option T := match t with
  | .scr ns => some (.lst true ((cutL ns lo hi).map T.int))
  | _ => none
def cSlS (a : Ev) (lo hi : Po) : Ev := fun env => match a env with
  | some (o, e) => match lo e with
    | some (l, e1) => match hi e1 with
      | some (h, e2) => match vw e2 o with
        | some x => match slST x l h with
          | some t => some (.t t, e2)
          | none => none
        | none => none
      | none => none
    | none => none
  | none => none
theorem cutV_ints (ns : List Int) (lo hi : Option Int) : cutV (ns.map V.int) lo hi = (cutL ns lo hi).map V.int := by
  unfold cutV cutL
  rw [List.length_map, List.map_take, List.map_drop]
theorem eSlS {ta : TE} {a : Ev} {tl th : TO} {lo hi : Po} (ha : ESnd K ta a) (hl : POnd K tl lo) (hh : POnd K th hi) : ESnd K (tSl (rSlU K) ta tl th) (cSlS a lo hi) := by
  intro env o env' h σ F O f a0 Q q
  simp only [cSlS] at h
  split at h
  · next o1 e1 h1 =>
    split at h
    · next l e2 h2 =>
      split at h
      · next u e3 h3 =>
        split at h
        · next x hx =>
          split at h
          · next t ht =>
            cases h
            refine ha _ _ _ h1 σ F O f a0 _ fun v F1 O1 fp1 f1 a1 s1 r1 => ?_
            refine hl _ _ _ h2 σ F1 O1 f1 a1.only _ fun F2 O2 f2 a2 s2 => ?_
            refine hh _ _ _ h3 σ F2 O2 f2 a2 _ fun F3 O3 f3 a3 s3 => ?_
            have s23 := s2.trans s3
            obtain ⟨g1, w1, _⟩ := (s23.keepO r1 fun a z => a1.nd.apart z).view a3.e hx
            have b : Back K F3 O3 t Q := fin a3 (s1.snd.trans s23) q
            unfold slST at ht
            split at ht
            · cases ht
              obtain ⟨p, rfl, k1⟩ := w1.scrv a3.d
              refine .inl ⟨_, _, rfl, k1, ?_⟩
              rw [cutV_ints]
              exact b.newL a3.d (Rls.mkInts _)
            · cases ht
          · cases h
        · cases h
      · cases h
    · cases h
  · cases h
end
section
variable {K : PySem.W.Frag} {X : Cx} {a b c e : Expr} {ta tb tc te : TE} {ea eb ec ev : Ev} {pos p2 p3 : Pos}
theorem xShr (ha : SE K X a ta ea) (hb : SE K X b tb eb) : SE K X (.BinOp a .RShift b pos) (tOp (rI (fun _ j => 0 ≤ j) fun i j => .int (i / 2 ^ j.toNat)) ta tb) (cO2 shrT ea eb) := by
  cases ha.k
  exact xOp op_shr sShr ha hb
theorem xBand (ha : SE K X a ta ea) (hb : SE K X b tb eb) : SE K X (.BinOp a .BitAnd b pos) (tOp (rI0 fun i j => .int (Builtin.bitAnd i j)) ta tb) (cO2 bandT ea eb) := by
  cases ha.k
  exact xOp op_and sBand ha hb
theorem xSlS {lo hi : Option Expr} {tl th : TO} {pl ph : Po} (ha : SE K X a ta ea) (hl : SPo K X lo tl pl) (hh : SPo K X hi th ph) : SE K X (.Subscript a (.Slice lo hi none p2) pos) (tSl (rSlU K) ta tl th) (cSlS ea pl ph) := by
  cases ha.k
  exact ⟨pe_slice sl_U ha.p hl.p hh.p, eSlS ha.s hl.s hh.s, rfl⟩
end
@[simp] theorem shrT_int (i j : Int) : shrT (.int i) (.int j) = if 0 ≤ j then some (.int (i / 2 ^ j.toNat)) else none := by
  by_cases h : 0 ≤ j <;> simp [shrT, opI, h]
@[simp] theorem bandT_int (i j : Int) : bandT (.int i) (.int j) = some (.int (Builtin.bitAnd i j)) := rfl
@[simp] theorem cSlS_def (a : Ev) (lo hi : Po) (env : Env) : cSlS a lo hi env = (a env).bind fun p => (lo p.2).bind fun q => (hi q.2).bind fun r => (vw r.2 p.1).bind fun x => (slST x q.1 r.1).bind fun t => some (.t t, r.2) := by
  unfold cSlS
  cases a env with
  | none => rfl
  | some p =>
    simp only [Option.bind_some]
    cases lo p.2 with
    | none => rfl
    | some q =>
      simp only [Option.bind_some]
      cases hi q.2 with
      | none => rfl
      | some r =>
        simp only [Option.bind_some]
        cases vw r.2 p.1 with
        | none => rfl
        | some x => simp only [Option.bind_some]; cases slST x q.1 r.1 <;> rfl
@[simp] theorem slST_scr (ns : List Int) (lo hi : Option Int) : slST (.scr ns) lo hi = some (.lst true ((cutL ns lo hi).map T.int)) := rfl
end LP
set_option maxRecDepth 100000
/-! LP: sorted of pairs of ints. -/
namespace LP
open PySem L2
def lexLe (p q : Int × Int) : Prop := p.1 < q.1 ∨ (p.1 = q.1 ∧ p.2 ≤ q.2)
instance (p q : Int × Int) : Decidable (lexLe p q) := by unfold lexLe; infer_instance
def insQ (p : Int × Int) : List (Int × Int) → List (Int × Int)
  | [] => [p]
  | q :: r => if lexLe p q then p :: q :: r else q :: insQ p r
def sortQ : List (Int × Int) → List (Int × Int)
  | [] => []
  | p :: r => insQ p (sortQ r)
theorem insQ_perm (p : Int × Int) : ∀ xs, (insQ p xs).Perm (p :: xs)
  | [] => .refl _
  | q :: r => by
    rw [insQ]
    split
    · exact .refl _
    · exact ((insQ_perm p r).cons q).trans (.swap p q r)
theorem sortQ_perm : ∀ xs, (sortQ xs).Perm xs
  | [] => .refl _
  | p :: r => (insQ_perm p (sortQ r)).trans ((sortQ_perm r).cons p)
theorem lexLe_trans {p q r : Int × Int} (h1 : lexLe p q) (h2 : lexLe q r) : lexLe p r := by
  unfold lexLe at *
  omega
theorem lexLe_total {p q : Int × Int} (h : ¬ lexLe p q) : lexLe q p := by
  unfold lexLe at *
  omega
theorem lexLe_anti {p q : Int × Int} (h1 : lexLe p q) (h2 : lexLe q p) : p = q := by
  unfold lexLe at *
  obtain ⟨a, b⟩ := p
  obtain ⟨c, d⟩ := q
  simp only at h1 h2
  have e1 : a = c := by omega
  have e2 : b = d := by omega
  rw [e1, e2]
theorem insQ_srt (p : Int × Int) : ∀ xs, xs.Pairwise lexLe → (insQ p xs).Pairwise lexLe
  | [], _ => List.pairwise_singleton ..
  | q :: r, h => by
    rw [insQ]
    obtain ⟨h1, h2⟩ := List.pairwise_cons.mp h
    split
    · next hp =>
      refine List.pairwise_cons.mpr ⟨fun x hx => ?_, h⟩
      rcases List.mem_cons.mp hx with rfl | hx
      · exact hp
      · exact lexLe_trans hp (h1 x hx)
    · next hp =>
      refine List.pairwise_cons.mpr ⟨fun x hx => ?_, insQ_srt p r h2⟩
      rcases List.mem_cons.mp ((insQ_perm p r).mem_iff.mp hx) with rfl | hx
      · exact lexLe_total hp
      · exact h1 x hx
theorem sortQ_srt : ∀ xs, (sortQ xs).Pairwise lexLe
  | [] => .nil
  | p :: r => insQ_srt p _ (sortQ_srt r)
theorem srtQ_uniq : ∀ {l m : List (Int × Int)}, l.Pairwise lexLe → m.Pairwise lexLe → l.Perm m → l = m
  | [], m, _, _, h => (List.Perm.eq_nil h.symm).symm
  | x :: l, [], _, _, h => absurd h.length_eq (by simp)
  | x :: l, y :: m, hl, hm, h => by
    obtain ⟨a1, a2⟩ := List.pairwise_cons.mp hl
    obtain ⟨b1, b2⟩ := List.pairwise_cons.mp hm
    have e : x = y := by
      have h1 : y ∈ x :: l := h.mem_iff.mpr (List.mem_cons_self ..)
      have h2 : x ∈ y :: m := h.mem_iff.mp (List.mem_cons_self ..)
      rcases List.mem_cons.mp h1 with z | z
      · exact z.symm
      · rcases List.mem_cons.mp h2 with w | w
        · exact w
        · exact lexLe_anti (a1 y z) (b1 x w)
    subst e
    rw [srtQ_uniq a2 b2 h.cons_inv]
def rSortedPQ (K : PySem.W.Frag) : List V → Hp → VK → Prop := fun vs H Q => ∃ (a : Addr) (xs : List V) (ps : List (Int × Int)), vs = [.ref a] ∧ SqL K H a xs ∧ xs.length = ps.length ∧ (∀ z ∈ xs.zip ps, ∃ t, z.1 = .ref t ∧ SqT K H t [.int z.2.1, .int z.2.2]) ∧
  ∀ (zs : List (V × (Int × Int))) (p : Addr), zs.Perm (xs.zip ps) → (zs.map (·.2)).Pairwise lexLe → H p = none → Q (.ref p) (upd H p (.lst (zs.map (·.1))))
theorem zip_k {k : V → Int × Int} : ∀ {xs : List V} {ps : List (Int × Int)}, xs.length = ps.length → (∀ z ∈ xs.zip ps, k z.1 = z.2) → xs.map (fun x => (x, k x)) = xs.zip ps
  | [], [], _, _ => rfl
  | x :: r, p :: s, hl, h => by
    rw [List.map_cons, List.zip_cons_cons, zip_k (by simpa using hl) fun z hz => h z (List.mem_cons_of_mem _ hz)]
    rw [show k x = p from h (x, p) (List.mem_cons_self ..)]
section
variable {X : Cx}
open Classical in
theorem cr_sortedPQ : CallR X (.builtin "sorted") (rSortedPQ X.K) := by
  intro pins s σ H vs us Q I r h
  obtain ⟨a, xs, ps, rfl, hs, hl2, hx, q⟩ := h
  obtain ⟨k, hk⟩ : ∃ k : V → Int × Int, ∀ z ∈ xs.zip ps, k z.1 = z.2 := by
    refine ⟨fun v => (((xs.zip ps).find? fun z => decide (z.1 = v)).map (·.2)).getD (0, 0), fun z hz => ?_⟩
    cases hf : (xs.zip ps).find? fun z' => decide (z'.1 = z.1) with
    | none =>
      have := List.find?_eq_none.mp hf z hz
      simp at this
    | some z' =>
      have h1 := List.mem_of_find?_eq_some hf
      have h2 : z'.1 = z.1 := by have := List.find?_some hf; simpa using this
      obtain ⟨t, e1, q1⟩ := hx z hz
      obtain ⟨t', e2, q2⟩ := hx z' h1
      rw [h2, e1] at e2
      cases e2
      have e3 := I.tuple_inj q1 q2
      simp only [List.cons.injEq, V.int.injEq, and_true] at e3
      have e4 : z'.2 = z.2 := (Prod.ext e3.1 e3.2).symm
      show (((xs.zip ps).find? fun z' => decide (z'.1 = z.1)).map (·.2)).getD (0, 0) = z.2
      rw [hf]
      exact e4
  have hx' : ∀ x ∈ xs, ∃ t, x = V.ref t ∧ SqT X.K H t [.int (k x).1, .int (k x).2] := fun x hxm => by
    obtain ⟨i, hi, rfl⟩ := List.getElem_of_mem hxm
    have hz : (xs[i], ps[i]'(by omega)) ∈ xs.zip ps := by
      rw [List.mem_iff_getElem]
      exact ⟨i, by rw [List.length_zip]; omega, by rw [List.getElem_zip]⟩
    obtain ⟨t, e1, q1⟩ := hx _ hz
    have := hk _ hz
    exact ⟨t, e1, by rw [this]; exact q1⟩
  obtain ⟨its, rv, hl, hz⟩ := I.list hs
  obtain ⟨u, rfl, ru⟩ := vals1 r
  obtain rfl : u = Value.ref a := ru
  obtain ⟨e1, e2⟩ := refs_back rv fun x m => by
    obtain ⟨t, e, _⟩ := hx' x m
    exact ⟨t, e⟩
  refine SrtO.sorted_pairsO (k := fun u => k (backV u)) hl.isList (by rw [← rv.length]; exact hz) (fun v hv => ?_) fun h' d out h1 h2 kp hd hn => ?_
  · obtain ⟨t, rfl⟩ := e2 v hv
    have hm : V.ref t ∈ xs := by rw [e1]; exact List.mem_map.mpr ⟨_, hv, rfl⟩
    obtain ⟨t', e, ht⟩ := hx' _ hm
    cases e
    obtain ⟨its2, r2, ⟨o, ho, hc, n, hd⟩, _⟩ := I.tuple ht
    obtain ⟨u1, u2, rfl, ri, rj⟩ := vals2 r2
    obtain ⟨t1, rfl⟩ := ri
    obtain ⟨t2, rfl⟩ := rj
    exact ⟨t, o, t1, t2, n, rfl, ho, hc, hd⟩
  · have h3 : ∀ u ∈ out, ∃ a, u = Value.ref a := fun u hu => e2 u (h2.perm.mem_iff.mp hu)
    obtain ⟨n, hn⟩ := hn
    have hb : SrtO.Stb (ltP k) (out.map backV) xs := by
      rw [e1]
      exact SrtO.Stb.map (ltP_swo k) backV h2
    have hs2 : SrtO.Srtd (ltP k) (out.map backV) := SrtO.srtd_map h1
    have em : ((out.map backV).map fun y => (y, k y)).map (·.1) = out.map backV := by rw [List.map_map]; simp
    refine ⟨.ref d, upd H d (.lst (out.map backV)), I.laid (t' := s.toks) kp hd ⟨?_, out, n, vals_back h3, hn⟩, rfl, ?_⟩
    · rw [hb.len]
      exact hz
    · have := q ((out.map backV).map fun y => (y, k y)) d (by rw [← zip_k hl2 hk]; exact hb.perm.map _) (by
        rw [List.map_map, List.pairwise_map]
        refine List.Pairwise.imp ?_ hs2
        intro x y hxy
        have hn := SrtO.lexB_no.mp hxy
        show lexLe (k x) (k y)
        unfold lexLe
        omega) (I.hok.fresh hd)
      rw [em] at this
      exact this
end
def pQ (p : Int × Int) : T := .tup false [.int p.1, .int p.2]
def pairsL : List T → Option (List (Int × Int))
  | [] => some []
  | .tup false [.int a, .int b] :: r => match pairsL r with
    | some ps => some ((a, b) :: ps)
    | none => none
  | _ :: _ => none
theorem pairsL_map : ∀ ps : List (Int × Int), pairsL (ps.map pQ) = some ps
  | [] => rfl
  | (a, b) :: r => by rw [List.map_cons]; unfold pQ; rw [pairsL]; have := pairsL_map r; unfold pQ at this; rw [this]
theorem pairsL_eq : ∀ {ts : List T} {ps : List (Int × Int)}, pairsL ts = some ps → ts = ps.map pQ
  | [], ps, h => by cases h; rfl
  | .tup false [.int a, .int b] :: r, ps, h => by
    rw [pairsL] at h
    cases hr : pairsL r with
    | none => rw [hr] at h; cases h
    | some qs =>
      rw [hr] at h
      cases h
      rw [pairsL_eq hr]
      rfl
def sortPT : List T → Option T
  | [.lst _ xs] => match pairsL xs with
    | some ps => some (.lst true ((sortQ ps).map pQ))
    | none => none
  | _ => none
section
variable {K : PySem.W.Frag} {F O : Hp}
theorem rls_pairs : ∀ {vs : List V} {ps : List (Int × Int)} {f : List Addr}, Rls K F O vs (ps.map pQ) f → vs.length = ps.length ∧ ∀ z ∈ vs.zip ps, Rl K F O z.1 (pQ z.2) []
  | vs, [], f, h => by cases h; exact ⟨rfl, fun z hz => by cases hz⟩
  | vs, p :: r, f, h => by
    cases h with
    | cons h1 h2 =>
      obtain ⟨a, b⟩ := rls_pairs h2
      refine ⟨by rw [List.length_cons, List.length_cons, a], fun z hz => ?_⟩
      rw [List.zip_cons_cons] at hz
      rcases List.mem_cons.mp hz with rfl | hz
      · exact h1.own0 (by simp [pQ, T.fz, fzL])
      · exact b z hz
theorem pairs_rls : ∀ {zs : List (V × (Int × Int))}, (∀ z ∈ zs, Rl K F O z.1 (pQ z.2) []) → Rls K F O (zs.map (·.1)) ((zs.map (·.2)).map pQ) []
  | [], _ => .nil
  | z :: r, h => .cons (f := []) (fs := []) (h z (List.mem_cons_self ..)) (pairs_rls fun y hy => h y (List.mem_cons_of_mem _ hy))
theorem zip_snd : ∀ {xs : List V} {ps : List (Int × Int)}, xs.length = ps.length → (xs.zip ps).map (·.2) = ps
  | [], [], _ => rfl
  | x :: r, p :: s, h => by rw [List.zip_cons_cons, List.map_cons, zip_snd (by simpa using h)]
theorem sSortP : OSndN K (rSortedPQ K) sortPT := by
  intro F O xs as fa t d ha e Q q
  unfold sortPT at e
  split at e
  · split at e
    · next ps hp =>
      cases e
      obtain ⟨v, g, rfl, h⟩ := ha.one
      obtain ⟨p, vs, fs, rfl, h1, r1⟩ := h.lstv d
      rw [pairsL_eq hp] at r1
      obtain ⟨l1, z1⟩ := rls_pairs r1
      refine ⟨p, vs, ps, rfl, .inl (.inl h1), l1, fun z hz => ?_, fun zs p' hpm hs hn => ?_⟩
      · obtain ⟨p2, vs2, fs2, e2, h2, r2⟩ := (z1 z hz).tupv d
        refine ⟨p2, e2, ?_⟩
        cases r2 with
        | cons a1 a2 =>
          cases a1
          cases a2 with
          | cons a3 a4 =>
            cases a3
            cases a4
            exact h2
      · have e : zs.map (·.2) = sortQ ps := srtQ_uniq hs (sortQ_srt ps) (((hpm.map (·.2)).trans (by rw [zip_snd l1])).trans (sortQ_perm ps).symm)
        have r3 := pairs_rls (K := K) (F := F) (O := O) (zs := zs) fun z hz => z1 z (hpm.mem_iff.mp hz)
        rw [e] at r3
        exact q.newL d r3 p' hn
    · cases e
  · cases e
end
section
variable {K : PySem.W.Frag} {X : Cx} {e : Expr} {tas : TA} {eas : Ea} {pos p2 : Pos}
theorem xSortP (hg : Gl X "sorted") (hm : X.mg "sorted" = none) (ha : SA K X [e] tas eas) (hst : starEach [e] X.env = (false, eval e X.env) :: starEach [] X.env := by rfl) : SE K X (.Call (.Name "sorted" p2) [e] [] pos) (tCB (rSortedPQ K) tas) (cON sortPT eas) := by
  cases ha.k
  exact xB cr_sortedPQ sSortP hg hm (by first | rfl | decide +kernel) ha (hst := hst) (hpl := by rfl)
end
end LP
set_option maxRecDepth 100000
/-! LP: zip of three lists. -/
namespace L2
open PySem PySem.Spec PyProof.Rows
section
variable {prog : Program} {w : World} {A : Around}
/-- a list's iterator at the turn i0, past its end or not -/
theorem drawsAt (hh : A.handled = none) (it l : Addr) (hne : l ≠ it) (items : Array Value) (i0 : Nat) :
    Draws prog w A it [it, l] (if items.size ≤ i0 then i0 else items.size) (fun i v => items[i]? = some v) (fun i h => h.IsListIter it l i ∧ h.IsList l items ∧ (items.size ≤ i0 → i0 ≤ i)) where
  live := fun _ _ st => let ⟨o, ho, _⟩ := st.1; ⟨o, ho⟩
  frame := fun _ _ _ st hk => ⟨st.1.at fun o e => hk it (by simp) o e, st.2.1.at fun o e => hk l (by simp) o e, st.2.2⟩
  item := fun i s Q E hi st hQ => by
    obtain ⟨s1, s2, s3⟩ := st
    by_cases h : items.size ≤ i0
    · rw [if_pos h] at hi
      have := s3 h
      omega
    · rw [if_neg h] at hi
      refine wpAny_nextOf_list_item s1 s2 (x := items[i]) (by simp [hi]) fun h' hit' hs' => ?_
      exact hQ _ h' s.toks (by simp [hi]) ⟨hit', s2.extBut hs'.extBut hne, fun z => absurd z h⟩ hs'
  done := fun s Q E st hE => by
    obtain ⟨s1, s2, s3⟩ := st
    refine wpAny_nextOf_list_end hh s1 s2 ?_ hE
    split <;> simp <;> omega
end
def Itz3 (K : PySem.W.Frag) (a b c : Addr) : It :=
  ⟨fun i H => ∃ (xs ys us : List V) (x y u : V), SqL K H a xs ∧ SqL K H b ys ∧ SqL K H c us ∧ xs[i]? = some x ∧ ys[i]? = some y ∧ us[i]? = some u,
    fun i H v H' => ∃ T x y u, v = .ref T ∧ H T = none ∧ H' = upd H T (.tup [x, y, u]) ∧ (∀ xs, SqL K H a xs → xs[i]? = some x) ∧ (∀ ys, SqL K H b ys → ys[i]? = some y) ∧ ∀ us, SqL K H c us → us[i]? = some u,
    fun i H => ∃ xs ys us : List V, SqL K H a xs ∧ SqL K H b ys ∧ SqL K H c us ∧ (xs.length ≤ i ∨ ys.length ≤ i ∨ us.length ≤ i)⟩
theorem turn_zip3 {P : Program} {w : World} {K : PySem.W.Frag} {elts : List Expr} {kk : Nat} {tpos : Pos} {a b c z TI TO i1 i2 i3 : Addr} (D : ZipSep3 z TI TO i1 i2 i3 [i1, a] [i2, b] [i3, c]) (na : a ≠ i1) (nb : b ≠ i2) (nc : c ≠ i3) :
    Turn P w K (.Tuple elts kk tpos) (Itz3 K a b c) [z, TI, TO, i1, i2, i3] z (fun i h => IsZip h z TI TO .none ∧ IsTupOf3 h TI (.ref i1) (.ref i2) (.ref i3) ∧ (∃ x y u, IsTupOf3 h TO x y u) ∧ h.IsListIter i1 a i ∧ h.IsListIter i2 b i ∧ h.IsListIter i3 c i) where
  mem := by simp
  obj := fun i h st d hd => by
    obtain ⟨hz, hTI, ⟨x, y, u, hTO⟩, ⟨o1, e1, _, d1⟩, ⟨o2, e2, _, d2⟩, ⟨o3, e3, _, d3⟩⟩ := st
    have e' : d = z ∨ d = TI ∨ d = TO ∨ d = i1 ∨ d = i2 ∨ d = i3 := by simpa using hd
    rcases e' with q | q | q | q | q | q
    · rw [q]; exact ⟨_, hz, fun v q => nomatch q⟩
    · rw [q]; exact ⟨_, hTI, fun v q => nomatch q⟩
    · rw [q]; exact ⟨_, hTO, fun v q => nomatch q⟩
    · rw [q]; exact ⟨o1, e1, fun v q => by rw [d1] at q; cases q⟩
    · rw [q]; exact ⟨o2, e2, fun v q => by rw [d2] at q; cases q⟩
    · rw [q]; exact ⟨o3, e3, fun v q => by rw [d3] at q; cases q⟩
  keep := fun i h h' st k => by
    obtain ⟨hz, hTI, ⟨x, y, u, hTO⟩, h1, h2, h3⟩ := st
    exact ⟨k z (by simp) _ hz, k TI (by simp) _ hTI, ⟨x, y, u, k TO (by simp) _ hTO⟩, h1.at fun o q => k i1 (by simp) o q, h2.at fun o q => k i2 (by simp) o q, h3.at fun o q => k i3 (by simp) o q⟩
  item := by
    intro X hP hw hK hc i pins s σ H E I hf st hg
    subst hP hw hK
    obtain ⟨hz, hTI, ⟨x0, y0, u0, hTO⟩, h1, h2, h3⟩ := st
    obtain ⟨xs, ys, us, x, y, u, hqx, hqy, hqu, hx, hy, hu⟩ := hg
    obtain ⟨its, rv, p, _⟩ := I.list hqx
    obtain ⟨its2, rv2, p2, _⟩ := I.list hqy
    obtain ⟨its3, rv3, p3, _⟩ := I.list hqu
    obtain ⟨v1, hv1, ru1⟩ := rv.get hx
    obtain ⟨v2, hv2, ru2⟩ := rv2.get hy
    obtain ⟨v3, hv3, ru3⟩ := rv3.get hu
    have hzl : z < s.heap.objs.size := Heap.lt_size hz
    have l1 : i < its.toArray.size := by have := (List.getElem?_eq_some_iff.mp hv1).1; simpa using this
    have l2 : i < its2.toArray.size := by have := (List.getElem?_eq_some_iff.mp hv2).1; simpa using this
    have l3 : i < its3.toArray.size := by have := (List.getElem?_eq_some_iff.mp hv3).1; simpa using this
    have n0 : X.A.in1.handled = none := I.ok.hd hc
    refine wpAny_pyNext_zipD3_item D (drawsAt n0 i1 a na its.toArray i) (drawsAt n0 i2 b nb its2.toArray i) (drawsAt n0 i3 c nc its3.toArray i) hz hTI hTO ⟨h1, p.isList, fun z => absurd z (by omega)⟩ ⟨h2, p2.isList, fun z => absurd z (by omega)⟩ ⟨h3, p3.isList, fun z => absurd z (by omega)⟩
      (by rw [if_neg (by omega)]; exact l1) (by rw [if_neg (by omega)]; exact l2) (by rw [if_neg (by omega)]; exact l3) fun w1 w2 w3 h' tk k1 k2 k3 z' TO' t1 t2 t3 hT hsz hk => ?_
    have ew1 : w1 = v1 := by rw [show its.toArray[i]? = some v1 by simpa using hv1] at k1; exact (Option.some.inj k1).symm
    have ew2 : w2 = v2 := by rw [show its2.toArray[i]? = some v2 by simpa using hv2] at k2; exact (Option.some.inj k2).symm
    have ew3 : w3 = v3 := by rw [show its3.toArray[i]? = some v3 by simpa using hv3] at k3; exact (Option.some.inj k3).symm
    subst ew1 ew2 ew3
    refine ⟨_, rfl, wpAny_letOwnedTupleGo_zip (s := { s with heap := h', toks := tk }) z' fun h'' z'' sb => ?_⟩
    have hT2 : h''.get? s.heap.objs.size = some { cls := .type "tuple", data := .seq #[w1, w2, w3] } := (sb.2 _ (Nat.ne_of_gt hzl)).trans hT
    have new : ObjOk X.prog X.w (upd H s.heap.objs.size (.tup [x, y, u])) h'' s.heap.objs.size (.tup [x, y, u]) :=
      ⟨by show 3 ≤ sizeLine; decide, [w1, w2, w3], .cons ru1 (.cons ru2 (.cons ru3 .nil)), ⟨_, hT2, rfl, _, rfl⟩⟩
    have I1 : Inv X pins σ (upd H s.heap.objs.size (.tup [x, y, u])) { s with heap := h'', toks := tk } :=
      I.turnedNew (t' := tk) (ch := [z, TI, TO, i1, i2, i3]) (fun d o hb q => (sb.2 d (fun q' => hb (by simp [q']))).trans (hk d o (fun q' => hb (by simp [q'])) (fun q' => hb (by simp [q'])) (fun q' => hb (by simp [q'])) (fun q' => hb (by simp [q'])) (fun q' => hb (by simp [q'])) q)) hf (Nat.le_refl _) new
    refine ⟨.ref s.heap.objs.size, _, I1, rfl, ⟨_, x, y, u, rfl, I.hok.fresh (Nat.le_refl _), rfl, fun l hl => by rw [I.list_inj hl hqx]; exact hx, fun l hl => by rw [I.list_inj hl hqy]; exact hy, fun l hl => by rw [I.list_inj hl hqu]; exact hu⟩, ⟨z'', ?_, ⟨w1, w2, w3, ?_⟩, ?_, ?_, ?_⟩, fun d hdm => ?_⟩
    · exact (sb.2 _ D.TIz).trans (hk _ _ D.TIz D.TITO D.TIi1 D.TIi2 D.TIi3 hTI)
    · exact (sb.2 _ D.TOz).trans TO'
    · exact t1.1.at fun o q => (sb.2 _ (fun e => D.zi1 e.symm)).trans q
    · exact t2.1.at fun o q => (sb.2 _ (fun e => D.zi2 e.symm)).trans q
    · exact t3.1.at fun o q => (sb.2 _ (fun e => D.zi3 e.symm)).trans q
    · have hlt : d < s.heap.objs.size := by
        have e' : d = z ∨ d = TI ∨ d = TO ∨ d = i1 ∨ d = i2 ∨ d = i3 := by simpa using hdm
        rcases e' with q | q | q | q | q | q
        · rw [q]; exact hzl
        · rw [q]; exact Heap.lt_size hTI
        · rw [q]; exact Heap.lt_size hTO
        · rw [q]; obtain ⟨_, e1, _⟩ := h1; exact Heap.lt_size e1
        · rw [q]; obtain ⟨_, e2, _⟩ := h2; exact Heap.lt_size e2
        · rw [q]; obtain ⟨_, e3, _⟩ := h3; exact Heap.lt_size e3
      rw [upd_ne (Nat.ne_of_lt hlt)]
      exact (hf d hdm).1
  done := by
    intro X hP hw hK hc i pins s σ H E I hf st hg
    subst hP hw hK
    obtain ⟨hz, hTI, ⟨x0, y0, u0, hTO⟩, h1, h2, h3⟩ := st
    obtain ⟨xs, ys, us, hqx, hqy, hqu, hend⟩ := hg
    obtain ⟨its, rv, p, _⟩ := I.list hqx
    obtain ⟨its2, rv2, p2, _⟩ := I.list hqy
    obtain ⟨its3, rv3, p3, _⟩ := I.list hqu
    have l1 : its.toArray.size = xs.length := by have := rv.length; simp; omega
    have l2 : its2.toArray.size = ys.length := by have := rv2.length; simp; omega
    have l3 : its3.toArray.size = us.length := by have := rv3.length; simp; omega
    have n0 : X.A.in1.handled = none := I.ok.hd hc
    refine wpAny_pyNext_zipD3_end D (drawsAt n0 i1 a na its.toArray i) (drawsAt n0 i2 b nb its2.toArray i) (drawsAt n0 i3 c nc its3.toArray i) hz hTI hTO ⟨h1, p.isList, fun _ => Nat.le_refl _⟩ ⟨h2, p2.isList, fun _ => Nat.le_refl _⟩ ⟨h3, p3.isList, fun _ => Nat.le_refl _⟩
      (by split <;> omega) (by split <;> omega) (by split <;> omega) (by
        rcases hend with q | q | q
        · exact .inl (by rw [if_pos (by omega)])
        · exact .inr (.inl (by rw [if_pos (by omega)]))
        · exact .inr (.inr (by rw [if_pos (by omega)]))) fun h' tk hk => ⟨rfl, I.turnedL (t' := tk) (ch := [z, TI, TO, i1, i2, i3]) (fun d o hb q =>
      hk d o (fun q' => hb (by simp [q'])) (fun q' => hb (by simp [q'])) (fun q' => hb (by simp [q'])) (fun q' => hb (by simp [q'])) (fun q' => hb (by simp [q'])) q) hf⟩
  self := fun A i s Q E st h => wpAny_pyIter_zip st.1 h
def iZip3 (K : PySem.W.Frag) (ta : TA) : TI := fun σ H R => ta σ H fun vs H1 => ∃ a b c xs ys us, vs = [.ref a, .ref b, .ref c] ∧ SqL K H1 a xs ∧ SqL K H1 b ys ∧ SqL K H1 c us ∧ R (Itz3 K a b c) H1
theorem sep3_new (I a b c : Nat) (h1 : a < I) (h2 : b < I) (h3 : c < I) : ZipSep3 (I + 5) (I + 3) (I + 4) I (I + 1) (I + 2) [I, a] [I + 1, b] [I + 2, c] := by
  have ne : ∀ {x y : Nat}, x ≠ y → (x : Addr) ≠ y := fun h => h
  constructor <;> first
    | exact ne (by omega)
    | exact List.mem_cons_self ..
    | exact fun h => by
        rcases List.mem_cons.mp h with z | z
        · exact ne (by omega) z
        · exact ne (by omega) (List.mem_singleton.mp z)
theorem pi_zip3 {X : Cx} {e e2 e3 : Expr} {ta : TA} {p pos tpos : Pos} {elts : List Expr} {kk : Nat} (hg : Gl X "zip") (hm : X.mg "zip" = none) (ha : PA X [e, e2, e3] ta)
    (hs : starEach [e, e2, e3] X.env = (false, eval e X.env) :: starEach [e2, e3] X.env := by rfl) (hpl : (backTo pos (starEach [e2, e3] X.env)).any (·.1) = false := by rfl) :
    PI X (.Tuple elts kk tpos) (.Call (.Name "zip" p) [e, e2, e3] [] pos) (iZip3 X.K ta) := by
  refine ⟨fun pins s σ H R I h => ?_⟩
  refine Call_ (ld_blt I hg hm PyProof.Rows.boot_zip (PyProof.Rows.callWith_type1 (thn (ha.run pos pins s σ H _ I h) fun us s1 ⟨vs, H1, I1, r1, q1⟩ => ?_) hs hpl))
  obtain ⟨a, b, c, xs, ys, zs, ex, hqx, hqy, hqz, q⟩ := q1
  subst ex
  cases r1 with
  | cons r rr =>
    cases rr with
    | cons r' rr =>
      cases rr with
      | cons r2 rr =>
        cases rr
        cases r
        cases r'
        cases r2
        obtain ⟨its, rv, p1, _⟩ := I1.list hqx
        obtain ⟨its2, rv2, p2, _⟩ := I1.list hqy
        obtain ⟨its3, rv3, p3, _⟩ := I1.list hqz
        have la : a < s1.heap.objs.size := p1.lt
        have lb : b < s1.heap.objs.size := p2.lt
        have lc : c < s1.heap.objs.size := p3.lt
        refine zip_begins3 (begins_list a its.toArray) (begins_list b its2.toArray) (begins_list c its3.toArray) p1.isList p2.isList p3.isList fun h' hz hTI hTO g1 g2 g3 hsz hk => wpAny_pyIter_zip hz ?_
        have I2 : Inv X pins σ H1 { s1 with heap := h' } := I1.kept (t' := s1.toks) hk
        refine ⟨s1.heap.objs.size + 5, [s1.heap.objs.size + 5, s1.heap.objs.size + 3, s1.heap.objs.size + 4, s1.heap.objs.size, s1.heap.objs.size + 1, s1.heap.objs.size + 2], _, _, H1, rfl, I2, turn_zip3 (sep3_new s1.heap.objs.size a b c la lb lc) (Nat.ne_of_lt la) (Nat.ne_of_lt (Nat.lt_succ_of_lt lb)) (Nat.ne_of_lt (Nat.lt_succ_of_lt (Nat.lt_succ_of_lt lc))), ⟨hz, hTI, ⟨_, _, _, hTO⟩, ⟨_, g1, rfl, rfl⟩, ⟨_, g2, rfl, rfl⟩, ⟨_, g3, rfl, rfl⟩⟩, fun d hdm => ?_, q⟩
        have hle : s1.heap.objs.size ≤ d := by
          have e' : d = s1.heap.objs.size + 5 ∨ d = s1.heap.objs.size + 3 ∨ d = s1.heap.objs.size + 4 ∨ d = s1.heap.objs.size ∨ d = s1.heap.objs.size + 1 ∨ d = s1.heap.objs.size + 2 := by simpa using hdm
          rcases e' with z | z | z | z | z | z
          · rw [z]; exact Nat.le_add_right _ _
          · rw [z]; exact Nat.le_add_right _ _
          · rw [z]; exact Nat.le_add_right _ _
          · rw [z]; exact Nat.le_refl _
          · rw [z]; exact Nat.le_add_right _ _
          · rw [z]; exact Nat.le_add_right _ _
        exact I1.fpOk hle (I1.hok.fresh hle)
end L2

namespace LP
open PySem L2
section
variable {K : PySem.W.Frag} {F O F' O' F1 O1 F2 O2 : Hp} {σ : L2.St} {env env' : Env}
def zipL3 : List T → List T → List T → List T
  | x :: r, y :: s, u :: t => .tup false [x, y, u] :: zipL3 r s t
  | _, _, _ => []
theorem zipL3_at : ∀ {xs ys us : List T} {i : Nat} {t : T}, (zipL3 xs ys us)[i]? = some t → ∃ x y u, xs[i]? = some x ∧ ys[i]? = some y ∧ us[i]? = some u ∧ t = .tup false [x, y, u]
  | [], _, _, _, _, h => by simp [zipL3] at h
  | _ :: _, [], _, _, _, h => by simp [zipL3] at h
  | _ :: _, _ :: _, [], _, _, h => by simp [zipL3] at h
  | x :: r, y :: s, u :: v, 0, t, h => by
    have : T.tup false [x, y, u] = t := by simpa [zipL3] using h
    exact ⟨x, y, u, rfl, rfl, rfl, this.symm⟩
  | x :: r, y :: s, u :: v, i + 1, t, h => by
    obtain ⟨a, b, c, h1, h2, h3, h4⟩ := zipL3_at (xs := r) (ys := s) (us := v) (i := i) (by simpa [zipL3] using h)
    exact ⟨a, b, c, by simpa using h1, by simpa using h2, by simpa using h3, h4⟩
theorem zipL3_len : ∀ (xs ys us : List T), (zipL3 xs ys us).length = min (min xs.length ys.length) us.length
  | [], ys, us => by simp [zipL3]
  | _ :: _, [], us => by simp [zipL3]
  | _ :: _, _ :: _, [] => by simp [zipL3]
  | x :: r, y :: s, u :: t => by rw [zipL3, List.length_cons, List.length_cons, List.length_cons, List.length_cons, zipL3_len r s t]; omega
def iZp3 (a : Ea) : It := fun env => match aFz a env with
  | some (os, e) => match vws e os with
    | some [.lst false xs, .lst false ys, .lst false us] => some (zipL3 xs ys us, e)
    | _ => none
  | none => none
theorem Rls.three {vs : List V} {t u x : T} {g : List Addr} (h : Rls K F O vs [t, u, x] g) : ∃ v w z g' g2 g3, vs = [v, w, z] ∧ Rl K F O v t g' ∧ Rl K F O w u g2 ∧ Rl K F O z x g3 := by
  cases h with
  | cons h r => obtain ⟨w, z, g2, g3, rfl, h2, h3⟩ := r.two; exact ⟨_, _, _, _, _, _, rfl, h, h2, h3⟩
theorem newTri {T' : Addr} {a b c : V} {x y z : T} (d : Dis F' O') (hT : jn F' O' T' = none) (ha : Rl K F' O' a x []) (hb : Rl K F' O' b y []) (hc : Rl K F' O' c z []) :
    ∃ F2 O2, upd (jn F' O') T' (.tup [a, b, c]) = jn F2 O2 ∧ Dis F2 O2 ∧ Stp F' O' [] F2 O2 [] ∧ Rl K F2 O2 (.ref T') (.tup false [x, y, z]) [] := by
  refine ⟨upd F' T' (.tup [a, b, c]), O', upd_jnF (jn_none hT).2, d.updF (jn_none hT).2, Stp.newF hT, .tupF (.inl (.inl upd_same)) ?_⟩
  have s := same_new (o := HO.tup [a, b, c]) (jn_none hT).1
  exact .cons (f := []) (fs := []) (ha.mono s fun a z => by cases z) (.cons (f := []) (fs := []) (hb.mono s fun a z => by cases z) (.cons (f := []) (fs := []) (hc.mono s fun a z => by cases z) .nil))
theorem wZip3 {ta : TA} {a : Ea} (ha : ASnd K ta a) : WSnd K (iZip3 K ta) (iZp3 a) := by
  intro env items env' h σ F O f a0 R q
  simp only [iZp3] at h
  split at h
  · next os e h1 =>
    split at h
    · next xs ys us hx =>
      cases h
      refine eaFz ha _ _ _ h1 σ F O f a0 _ fun vs F1 O1 fp1 f1 a1 s1 r1 => ?_
      obtain ⟨g1, w1⟩ := r1.views a1.e hx
      obtain ⟨v, w, z, g2, g3, g4, rfl, w1, w2, w3⟩ := w1.three
      cases w1 with
      | lstF hf r =>
        next a vs =>
        cases w2 with
        | lstF hf2 r2 =>
          next b ws =>
          cases w3 with
          | lstF hf3 r3 =>
            next c zs =>
            refine ⟨_, _, _, vs, ws, zs, rfl, .inl (.inl (a1.d.jn_F hf)), .inl (.inl (a1.d.jn_F hf2)), .inl (.inl (a1.d.jn_F hf3)), q _ F1 O1 f1 a1.only s1.snd ?_⟩
            intro F' O' s d i
            have hq : SqL K (jn F' O') a vs := .inl (.inl (d.jn_F (s _ _ hf)))
            have hq2 : SqL K (jn F' O') b ws := .inl (.inl (d.jn_F (s _ _ hf2)))
            have hq3 : SqL K (jn F' O') c zs := .inl (.inl (d.jn_F (s _ _ hf3)))
            refine ⟨fun t e => ?_, fun hl => ⟨vs, ws, zs, hq, hq2, hq3, ?_⟩⟩
            · obtain ⟨x, y, u, e1, e2, e5, rfl⟩ := zipL3_at e
              obtain ⟨v, h1, h2⟩ := r.nth e1
              obtain ⟨u', h3, h4⟩ := r2.nth e2
              obtain ⟨t', h5, h6⟩ := r3.nth e5
              refine ⟨⟨vs, ws, zs, v, u', t', hq, hq2, hq3, h1, h3, h5⟩, fun z H' y => ?_⟩
              obtain ⟨T', x', y', z', rfl, hT, rfl, k1, k2, k3⟩ := y
              have e3 : vs[i]? = some x' := k1 vs hq
              have e4 : ws[i]? = some y' := k2 ws hq2
              have e6 : zs[i]? = some z' := k3 zs hq3
              rw [h1] at e3
              rw [h3] at e4
              rw [h5] at e6
              cases e3
              cases e4
              cases e6
              exact newTri d hT (h2.mono s fun a z => by cases z) (h4.mono s fun a z => by cases z) (h6.mono s fun a z => by cases z)
            · rw [zipL3_len] at hl
              rw [r.len, r2.len, r3.len]
              omega
    · cases h
  · cases h
end
section
variable {K : PySem.W.Frag} {X : Cx} {a b c : Expr} {tas : TA} {eas : Ea} {pos p2 p3 : Pos} {tgs : List Expr}
theorem iZip3_ {k : Nat} (hg : Gl X "zip") (hm : X.mg "zip" = none) (h : SA K X [a, b, c] tas eas) (hs : starEach [a, b, c] X.env = (false, eval a X.env) :: starEach [b, c] X.env := by rfl) (hpl : (backTo pos (starEach [b, c] X.env)).any (·.1) = false := by rfl) :
    SI K X (.Tuple tgs k p3) (.Call (.Name "zip" p2) [a, b, c] [] pos) (iZip3 K tas) (iZp3 eas) := by
  cases h.k
  exact ⟨pi_zip3 hg hm h.p hs hpl, wZip3 h.s, rfl⟩
@[simp] theorem iZp3_def (a : Ea) (env : Env) : iZp3 a env = (aFz a env).bind fun p => (vws p.2 p.1).bind fun q => match q with
    | [.lst false xs, .lst false ys, .lst false us] => some (zipL3 xs ys us, p.2)
    | _ => none := by
  unfold iZp3
  cases aFz a env with
  | none => rfl
  | some p =>
    obtain ⟨os, e⟩ := p
    simp only [Option.bind_some]
    cases vws e os with
    | none => rfl
    | some q =>
      simp only [Option.bind_some]
      split
      · next h => cases h; rfl
      · next h =>
        split
        · next h2 => exact (h _ _ _ rfl).elim
        · rfl
end
end LP

/-! is True, is not False: two of True, False -/
namespace L2
open PySem PySem.Spec PyProof.Rows
def rIsBo (g : Bool → Bool) : R2 := fun x y H Q => ∃ a b, x = .bl a ∧ y = .bl b ∧ Q (.bl (g (decide (a = b)))) H
theorem op_isB {X : Cx} : OpR X (compareOp .Is) (rIsBo fun b => b) := by
  intro pins s σ H x y v u Q I rx ry h
  obtain ⟨a, b, rfl, rfl, q⟩ := h
  cases (show v = Value.bool a from rx)
  cases (show u = Value.bool b from ry)
  by_cases e : a = b
  · subst e
    exact wpAny_is_self rfl ⟨.bl true, H, I, rfl, by simpa using q⟩
  · exact wpAny_is_other rfl (fun z => e (Value.bool.inj z)) ⟨.bl false, H, I, rfl, by simpa [e] using q⟩
theorem op_notB {X : Cx} : OpR X (compareOp .IsNot) (rIsBo fun b => !b) := by
  intro pins s σ H x y v u Q I rx ry h
  obtain ⟨a, b, rfl, rfl, q⟩ := h
  cases (show v = Value.bool a from rx)
  cases (show u = Value.bool b from ry)
  by_cases e : a = b
  · subst e
    exact wpAny_isNot_self rfl ⟨.bl false, H, I, rfl, by simpa using q⟩
  · exact wpAny_isNot_other rfl (fun z => e (Value.bool.inj z)) ⟨.bl true, H, I, rfl, by simpa [e] using q⟩
end L2
namespace LP
open PySem L2
def isBT (neg : Bool) : T → T → Option T := fun a b => match a, b with
  | .bl x, .bl y => some (.bl (if neg then !decide (x = y) else decide (x = y)))
  | _, _ => none
@[simp] theorem isBT_bl (n x y : Bool) : isBT n (.bl x) (.bl y) = some (.bl (if n then !decide (x = y) else decide (x = y))) := rfl
section
variable {K : PySem.W.Frag} {X : Cx} {a b : Expr} {ta tb : TE} {ea eb : Ev} {pos : Pos}
theorem sIsB : OSnd2 K (rIsBo fun b => b) (isBT false) := by
  intro F O x y a b fa fb t d ha hb e Q q
  unfold isBT at e
  split at e
  · cases e
    cases ha
    cases hb
    exact ⟨_, _, rfl, rfl, q.sc d (.bl _)⟩
  · cases e
theorem sNotB : OSnd2 K (rIsBo fun b => !b) (isBT true) := by
  intro F O x y a b fa fb t d ha hb e Q q
  unfold isBT at e
  split at e
  · cases e
    cases ha
    cases hb
    exact ⟨_, _, rfl, rfl, q.sc d (.bl _)⟩
  · cases e
theorem xIsB (ha : SE K X a ta ea) (hb : SE K X b tb eb) : SE K X (.Compare a [.Is] [b] pos) (tOp (rIsBo fun b => b) ta tb) (cO2 (isBT false) ea eb) := by
  cases ha.k
  exact xCmp op_isB sIsB ha hb (nomark _)
theorem xIsNotB (ha : SE K X a ta ea) (hb : SE K X b tb eb) : SE K X (.Compare a [.IsNot] [b] pos) (tOp (rIsBo fun b => !b) ta tb) (cO2 (isBT true) ea eb) := by
  cases ha.k
  exact xCmp op_notB sNotB ha hb (nomark _)
theorem yIsB (ha : SE K X a ta ea) (hb : SE K X b tb eb) : ST K X (.Compare a [.Is] [b] pos) (tTest (tOp (rIsBo fun b => b) ta tb)) (cTest (cO2 (isBT false) ea eb)) := by
  cases ha.k
  exact yCmp op_isB sIsB ha hb (nomark _)
theorem yIsNotB (ha : SE K X a ta ea) (hb : SE K X b tb eb) : ST K X (.Compare a [.IsNot] [b] pos) (tTest (tOp (rIsBo fun b => !b) ta tb)) (cTest (cO2 (isBT true) ea eb)) := by
  cases ha.k
  exact yCmp op_notB sNotB ha hb (nomark _)
end
end LP
set_option maxRecDepth 100000
/-! LP: defs that raise, try. -/
namespace LP
open PySem L2
inductive OutX where
  | ok (o : Out) | ex (c : Str) (e : Env)
abbrev SX := Env → Option OutX
inductive ResX where
  | ok (r : T) (outs : List T) | ex (c : Str) (outs : List T)
abbrev GX := List T → Option ResX
/-- the class of that name -/
def cvl (mg : Str → Option Value) (c : Str) : Value := (mg c).getD .none
def spX (K : PySem.W.Frag) (mg : Str → Option Value) (n : Nat) (g : GX) : Sp := fun vs H Q E => ∃ F O ts f res, vs.length = n ∧ H = jn F O ∧ Dis F O ∧ Rls K F O vs ts f ∧ Nd f ∧ g ts = some res ∧
  match res with
  | .ok r outs => ∀ v F' O' fp f', Dis F' O' → Stp F O f F' O' (fp ++ f') → Rl K F' O' v r fp → Rls K F' O' vs outs f' → Nd (fp ++ f') → Q v (jn F' O')
  | .ex c outs => ∀ F' O' f', Dis F' O' → Stp F O f F' O' f' → Rls K F' O' vs outs f' → Nd f' → E (cvl mg c) none (jn F' O')
section
variable {K : PySem.W.Frag} {mg : Str → Option Value} {F O F' O' F1 O1 F2 O2 : Hp} {σ : L2.St} {env env' : Env} {f f1 f2 fp fp1 fp2 : List Addr} {pn : List Nat} {W : WX}
def EndOkX (K : PySem.W.Frag) (mg : Str → Option Value) (pn : List Nat) (σ : L2.St) (F O : Hp) (f : List Addr) (D : Ends) (W : WX) : OutX → Prop
  | .ok o => EndOk K pn σ F O f D o
  | .ex c e => ∀ σ' F' O' f', At K σ' F' O' e [] f' → Stp F O f F' O' f' → Same2 pn σ σ' → W (cvl mg c) none σ' (jn F' O')
theorem EndOkX.after {σ1 : L2.St} {o : OutX} {D : Ends} (h : EndOkX K mg pn σ F O f D W o) (s : Stp F O f F1 O1 f1) (p : Same2 pn σ σ1) : EndOkX K mg pn σ1 F1 O1 f1 D W o := by
  cases o with
  | ok o => exact EndOk.after h s p
  | ex c e => exact fun σ' F' O' f' a st q => h σ' F' O' f' a (s.trans st) (p.trans q)
def SndX (K : PySem.W.Frag) (mg : Str → Option Value) (pn : List Nat) (W : WX) (ts : TS) (s : SX) : Prop := ∀ env out, s env = some out → ∀ σ F O f, At K σ F O env [] f → ∀ D, EndOkX K mg pn σ F O f D W out → ts D σ (jn F O)
structure SY (K : PySem.W.Frag) (X : Cx) (pn : List Nat) (st : Stmt) (ts : WX → TS) (b : SX) : Prop where
  p : ∀ W, Takes X W → PassesOwn (model X.prog X.w) X.A X.env X.xe → PS X st (ts W)
  s : ∀ W, SndX K X.mg pn W (ts W) b
  k : X.K = K := by rfl
structure SYs (K : PySem.W.Frag) (X : Cx) (pn : List Nat) (st : List Stmt) (ts : WX → TS) (b : SX) : Prop where
  p : ∀ W, Takes X W → PassesOwn (model X.prog X.w) X.A X.env X.xe → PSs X st (ts W)
  s : ∀ W, SndX K X.mg pn W (ts W) b
  k : X.K = K := by rfl
def lf (b : S) : SX := fun env => (b env).map .ok
theorem sLf {ts : TS} {b : S} (h : SSnd K pn ts b) : SndX K mg pn W ts (lf b) := by
  intro env out e σ F O f a0 D q
  unfold lf at e
  cases hb : b env with
  | none => rw [hb] at e; cases e
  | some o =>
    rw [hb] at e
    cases e
    exact h _ _ hb σ F O f a0 D q
def kSeq (a b : SX) : SX := fun env => match a env with
  | some (.ok (.nx e)) => b e
  | some o => some o
  | none => none
theorem sKSeq {ta tb : TS} {a b : SX} (ha : SndX K mg pn W ta a) (hb : SndX K mg pn W tb b) : SndX K mg pn W (tSeq ta tb) (kSeq a b) := by
  intro env out h σ F O f a0 D q
  unfold kSeq at h
  split at h
  · next e h1 => exact ha _ _ h1 σ F O f a0 _ fun σ1 F1 O1 f1 a1 s1 p1 => hb _ _ h σ1 F1 O1 f1 a1 _ (q.after s1 p1)
  · next o h1 h2 =>
    cases h
    refine ha _ _ h2 σ F O f a0 _ ?_
    cases out with
    | ok o =>
      cases o with
      | nx e => exact (h1 e rfl).elim
      | rt t e => exact q
      | bk e => exact q
      | ct e => exact q
    | ex c e => exact q
  · cases h
def kIf (c : Et) (a b : SX) : SX := fun env => match c env with
  | some (true, e) => a e
  | some (false, e) => b e
  | none => none
theorem sKIf {tc : TT} {ta tb : TS} {c : Et} {a b : SX} (hc : TSnd K tc c) (ha : SndX K mg pn W ta a) (hb : SndX K mg pn W tb b) : SndX K mg pn W (tIfS tc ta tb) (kIf c a b) := by
  intro env out h σ F O f a0 D q
  unfold kIf at h
  split at h
  · next e h1 =>
    refine hc _ _ _ h1 σ F O f a0 _ fun F1 O1 f1 a1 s1 => ?_
    rw [if_pos rfl]
    exact ha _ _ h σ F1 O1 f1 a1 D (q.after s1 Same2.refl)
  · next e h1 =>
    refine hc _ _ _ h1 σ F O f a0 _ fun F1 O1 f1 a1 s1 => ?_
    rw [if_neg Bool.false_ne_true]
    exact hb _ _ h σ F1 O1 f1 a1 D (q.after s1 Same2.refl)
  · cases h
def kRai (c : Str) : SX := fun env => some (.ex c env)
theorem sKRai {c : Str} : SndX K mg pn W (fun _ σ H => W (cvl mg c) none σ H) (kRai c) := by
  intro env out h σ F O f a0 D q
  cases h
  exact q σ F O f a0 Stp.refl Same2.refl
/-! expressions that may raise -/
inductive ExE where
  | ok (o : Opd) (e : Env) | ex (c : Str) (e : Env)
abbrev EvX := Env → Option ExE
def ESndX (K : PySem.W.Frag) (mg : Str → Option Value) (W : WX) (te : TE) (ev : EvX) : Prop := ∀ env r, ev env = some r → ∀ σ F O f, At K σ F O env [] f → ∀ Q : VK,
  (match r with
  | .ok o env' => ∀ v F' O' fp f', At K σ F' O' env' fp f' → Stp F O f F' O' (fp ++ f') → RlO K σ F' O' v o fp → Q v (jn F' O')
  | .ex c env' => ∀ F' O' f', At K σ F' O' env' [] f' → Stp F O f F' O' f' → W (cvl mg c) none σ (jn F' O')) → te σ (jn F O) Q
def cCallX (g : GX) (m : List Bool) (a : Ea) : EvX := fun env => match a env with
  | some (os, e) => match cArgs m (ers os) e with
    | some (ts, e1) => match g ts with
      | some (.ok r outs) => some (.ok (.t r) (cBack m (ers os) outs e1))
      | some (.ex c outs) => some (.ex c (cBack m (ers os) outs e1))
      | none => none
    | none => none
  | none => none
/-- behind a call: the outs in their slots again -/
theorem call_back {m : List Bool} {os : List Opd} {vs : List V} {e e1 : Env} {ts : List T} (al : ∀ a ∈ fp1, ∃ o, O1 a = some o) (a1 : At K σ F1 O1 e fp1 f1) (s1 : Stp F O f F1 O1 (fp1 ++ f1)) (r1 : RlOs K σ F1 O1 vs os fp1) (h2 : cArgs m (LP.ers os) e = some (ts, e1)) :
    ∃ gg, jn F1 O1 = jn (toF F1 O1 fp1) (offO O1 fp1) ∧ Dis (toF F1 O1 fp1) (offO O1 fp1) ∧ Rls K (toF F1 O1 fp1) (offO O1 fp1) vs ts gg ∧ Nd gg ∧
      ∀ (F3 O3 : Hp) (fp3 g3 : List Addr) (outs : List T), Dis F3 O3 → Stp (toF F1 O1 fp1) (offO O1 fp1) gg F3 O3 (fp3 ++ g3) → Rls K F3 O3 vs outs g3 → Nd (fp3 ++ g3) →
        ∃ f4, At K σ F3 O3 (cBack m (LP.ers os) outs e1) fp3 f4 ∧ Stp F O f F3 O3 (fp3 ++ f4) := by
  have d2 : Dis (toF F1 O1 fp1) (offO O1 fp1) := a1.d.toF
  have r2 := r1.ers a1.d al fun a z => z
  have sm := a1.d.same_toF al
  have kk : ∀ b ∈ f1, ∀ u, O1 b = some u → offO O1 fp1 b = some u := fun b z u e => by
    unfold offO
    rw [if_neg fun w => a1.nd.apart w z]
    exact e
  have e2 := a1.e.mono sm kk
  have j := jn_toF (F := F1) al
  obtain ⟨gg, f2, m1, m2, m3, m4⟩ := args_out r2 e2 h2
  have s12 : Stp F O f (toF F1 O1 fp1) (offO O1 fp1) f1 := by
    refine ⟨s1.f.trans sm, fun b u n e => ?_, fun b z => s1.n b (List.mem_append_right _ z), fun b n => ?_⟩
    · have e1 := s1.k b u n e
      unfold offO
      rw [if_neg fun w => ?_]
      · exact e1
      · rcases s1.n b (List.mem_append_left _ w) with q | q
        · exact n q
        · rw [jn_O e] at q; cases q
    · rw [j]; exact s1.g b n
  have n1 := a1.nd.right
  have ngf : Nd (gg ++ f2) := n1.sub fun a => by rw [List.count_append]; have := m3 a; omega
  refine ⟨gg, j.symm, d2, m1, ngf.left, fun F3 O3 fp3 g3 outs d3 s3 ro n3 => ?_⟩
  have e3 : RlE K F3 O3 σ e1 f2 := m2.mono s3.f fun a z o e => s3.k a o (fun w => ngf.apart w z) e
  obtain ⟨f4, k1, k2⟩ := m4 F3 O3 outs g3 f2 ro e1 e3
  have big : Nd ((fp3 ++ g3) ++ f2) := n3.of ngf.right fun a z w => by
    rcases s3.n a z with q | q
    · exact ngf.apart q w
    · obtain ⟨o, e⟩ := m2.alloc a w
      rw [jn_O e] at q
      cases q
  refine ⟨f4, ⟨d3, k1, big.sub fun a => by simp only [List.count_append]; have := k2 a; omega⟩, s12.trans ⟨s3.f, fun a o z e => s3.k a o (fun w => z ?_) e, fun a z => ?_, s3.g⟩⟩
  · rw [mem_count] at w ⊢
    have := m3 a
    omega
  · have z' : a ∈ fp3 ++ g3 ∨ a ∈ f2 := by
      rw [mem_count, List.count_append] at z
      rw [mem_count, mem_count, List.count_append]
      have := k2 a
      omega
    rcases z' with w | w
    · rcases s3.n a w with q | q
      · refine .inl ?_
        rw [mem_count] at q ⊢
        have := m3 a
        omega
      · exact .inr q
    · refine .inl ?_
      rw [mem_count] at w ⊢
      have := m3 a
      omega
theorem eCallX {ta : TA} {a : Ea} {g : GX} {m : List Bool} (ha : ASnd K ta a) : ESndX K mg W (tCallS (spX K mg m.length g) (WE W) ta) (cCallX g m a) := by
  intro env r h σ F O f a0 Q q
  simp only [cCallX] at h
  split at h
  · next os e h1 =>
    split at h
    · next ts e1 h2 =>
      refine ha _ _ _ h1 σ F O f a0 _ fun vs F1 O1 fp1 f1 a1 s1 r1 => ?_
      obtain ⟨gg, j, d2, m1, n2, bk⟩ := call_back r1.alloc a1 s1 r1 h2
      rw [j]
      split at h
      · next r' outs h3 =>
        cases h
        refine ⟨_, _, ts, gg, _, ?_, rfl, d2, m1, n2, h3, fun v F3 O3 fp3 g3 d3 s3 r3 ro n3 => ?_⟩
        · rw [m1.len, cArgs_len h2]
        · obtain ⟨f4, x1, x2⟩ := bk F3 O3 fp3 g3 outs d3 s3 ro n3
          exact q v F3 O3 fp3 f4 x1 x2 r3
      · next c outs h3 =>
        cases h
        refine ⟨_, _, ts, gg, _, ?_, rfl, d2, m1, n2, h3, fun F3 O3 g3 d3 s3 ro n3 => ?_⟩
        · rw [m1.len, cArgs_len h2]
        · obtain ⟨f4, x1, x2⟩ := bk F3 O3 [] g3 outs d3 s3 ro n3
          exact q F3 O3 f4 x1 x2
      · cases h
    · cases h
  · cases h
def kDrop (a : EvX) : SX := fun env => match a env with
  | some (.ok _ e) => some (.ok (.nx e))
  | some (.ex c e) => some (.ex c e)
  | none => none
theorem sKDrop {ta : TE} {a : EvX} (ha : ESndX K mg W ta a) : SndX K mg pn W (tDrop ta) (kDrop a) := by
  intro env out h σ F O f a0 D q
  simp only [kDrop] at h
  split at h
  · next o e h1 =>
    cases h
    exact ha _ _ h1 σ F O f a0 _ fun v F1 O1 fp1 f1 a1 s1 r1 => q σ F1 O1 f1 a1.only s1.snd Same2.refl
  · next c e h1 =>
    cases h
    exact ha _ _ h1 σ F O f a0 _ fun F1 O1 f1 a1 s1 => q σ F1 O1 f1 a1 s1 Same2.refl
  · cases h
def kRet (a : EvX) : SX := fun env => match a env with
  | some (.ok o e) => match sto e o with
    | some t => some (.ok (.rt t e))
    | none => none
  | some (.ex c e) => some (.ex c e)
  | none => none
theorem sKRet {ta : TE} {a : EvX} (ha : ESndX K mg W ta a) : SndX K mg pn W (tRet ta) (kRet a) := by
  intro env out h σ F O f a0 D q
  simp only [kRet] at h
  split at h
  · next o e h1 =>
    split at h
    · next t h2 =>
      cases h
      exact ha _ _ h1 σ F O f a0 _ fun v F1 O1 fp1 f1 a1 s1 r1 => q v σ F1 O1 fp1 f1 a1 s1 (r1.store a1.e h2) Same2.refl
    · cases h
  · next c e h1 =>
    cases h
    exact ha _ _ h1 σ F O f a0 _ fun F1 O1 f1 a1 s1 => q σ F1 O1 f1 a1 s1 Same2.refl
  · cases h
def kAsg (a : EvX) (g : Tg) : SX := fun env => match a env with
  | some (.ok o e) => match sto e o with
    | some t => match g t e with
      | some e2 => some (.ok (.nx e2))
      | none => none
    | none => none
  | some (.ex c e) => some (.ex c e)
  | none => none
theorem sKAsg {ta : TE} {a : EvX} {g : TG} {tg : Tg} (ha : ESndX K mg W ta a) (hg : GSnd K pn g tg) : SndX K mg pn W (tAsg ta g) (kAsg a tg) := by
  intro env out h σ F O f a0 D q
  simp only [kAsg] at h
  split at h
  · next o e h1 =>
    split at h
    · next t h2 =>
      split at h
      · next e2 h3 =>
        cases h
        exact ha _ _ h1 σ F O f a0 _ fun v F1 O1 fp1 f1 a1 s1 r1 => hg t e _ h3 v σ F1 O1 fp1 f1 a1 (r1.store a1.e h2) _ fun σ2 F2 O2 f2 a2 s2 p2 => q σ2 F2 O2 f2 a2 (s1.trans s2) p2
      · cases h
    · cases h
  · next c e h1 =>
    cases h
    exact ha _ _ h1 σ F O f a0 _ fun F1 O1 f1 a1 s1 => q σ F1 O1 f1 a1 s1 Same2.refl
  · cases h
/-- where it does not raise -/
def gOk (g : GX) : Fn := fun ts => match g ts with
  | some (.ok r outs) => some (r, outs)
  | _ => none
theorem gOk_eq {g : GX} {ts : List T} {r : T} {outs : List T} (h : gOk g ts = some (r, outs)) : g ts = some (.ok r outs) := by
  unfold gOk at h
  split at h
  · next r' o' e => cases h; exact e
  · cases h
/-- a call with defaults behind: dT their trees, without lists -/
theorem eCallK {ta : TA} {a : Ea} {g : GX} {m : List Bool} {n : Nat} {E : XK} {dvs : List V} {dT : List T} (hn : n = m.length + dvs.length) (hd : ∀ F O, Rls K F O dvs dT []) (ha : ASnd K ta a) : ESnd K (tCall (spX K mg n g) dvs E ta) (cCall (fun ts => (gOk g (ts ++ dT)).map fun p => (p.1, p.2.take ts.length)) m a) := by
  intro env o env' h σ F O f a0 Q q
  simp only [cCall] at h
  split at h
  · next os e h1 =>
    split at h
    · next ts e1 h2 =>
      refine ha _ _ _ h1 σ F O f a0 _ fun vs F1 O1 fp1 f1 a1 s1 r1 => ?_
      obtain ⟨gg, j, d2, m1, n2, bk⟩ := call_back r1.alloc a1 s1 r1 h2
      rw [j]
      split at h
      · next r' outs h3 =>
        cases h
        cases hg : gOk g (ts ++ dT) with
        | none => rw [hg] at h3; cases h3
        | some pr =>
          obtain ⟨r2, o2⟩ := pr
          rw [hg] at h3
          simp only [Option.map_some, Option.some.injEq, Prod.mk.injEq] at h3
          obtain ⟨rfl, rfl⟩ := h3
          have lv := m1.len
          refine ⟨_, _, ts ++ dT, gg, _, ?_, rfl, d2, ?_, n2, gOk_eq hg, fun v F3 O3 fp3 g3 d3 s3 r3 ro n3 => ?_⟩
          · rw [List.length_append, lv, cArgs_len h2, hn]
          · have := m1.append (hd (toF F1 O1 fp1) (offO O1 fp1))
            rwa [List.append_nil] at this
          · obtain ⟨g4, g5, h4, _, h6⟩ := ro.take (n := ts.length)
            rw [show (vs ++ dvs).take ts.length = vs by rw [← lv, List.take_left]] at h4
            obtain ⟨f4, x1, x2⟩ := bk F3 O3 fp3 g4 _ d3 (s3.less fun a z => by
              rcases List.mem_append.mp z with w | w
              · exact List.mem_append_left _ w
              · refine List.mem_append_right _ ?_
                rw [mem_count] at w ⊢
                have := h6 a
                omega) h4 (n3.sub fun a => by
                have := h6 a
                simp only [List.count_append]; omega)
            exact q v F3 O3 fp3 f4 x1 x2 r3
      · cases h
    · cases h
  · cases h
end
/-- with trees behind, where it does not raise -/
def gPart (g : GX) (dT : List T) : Fn := fun ts => (gOk g (ts ++ dT)).map fun p => (p.1, p.2.take ts.length)
/-! ### the rules -/
theorem PS.nox {X : Cx} {st : Stmt} {t : TS} (h : PS X.nox st t) : PS X st t := ⟨fun pins s σ H D I hw =>
  wpAny_mono (h.run pins s σ H D (I.wish _) hw) (fun _ _ q => q.unwish) fun _ _ z => False.elim z⟩
theorem PA.nox {X : Cx} {es : List Expr} {t : TA} (h : PA X.nox es t) : PA X es t := ⟨fun pos pins s σ H Q I hw =>
  wpAny_mono (h.run pos pins s σ H Q (I.wish _) hw) (fun _ _ ⟨v, H', I', r, q⟩ => ⟨v, H', I'.unwish, r, q⟩) fun _ _ z => False.elim z⟩
theorem PG.nox {X : Cx} {e : Expr} {t : TG} (h : PG X.nox e t) : PG X e t := ⟨fun pins s σ H v u Q I r hw =>
  wpAny_mono (h.run pins s σ H v u Q (I.wish _) r hw) (fun _ _ ⟨σ', H', I', q⟩ => ⟨σ', H', I'.unwish, q⟩) fun _ _ z => False.elim z⟩
def CalX (P : Program) (w : World) (K : PySem.W.Frag) (mg : Str → Option Value) (base : Heap) (k : Nat) (x : Str) (ps : List Str) (m : List Bool) (g : GX) : Prop :=
  ∃ f fd, FnOk P w K mg base (L2.CX P w) k f fd ps (spX K mg m.length g) ∧ mg x = some (.ref f) ∧ PySem.W.keepIn K (.ref f) = true ∧ Binds K fd ps []
/-- called with fewer: dT stands behind -/
def CalXD (P : Program) (w : World) (K : PySem.W.Frag) (mg : Str → Option Value) (base : Heap) (k : Nat) (x : Str) (ps : List Str) (n : Nat) (dT : List T) (g : GX) : Prop :=
  ∃ f fd dvs ds, FnOk P w K mg base (L2.CX P w) k f fd ps (spX K mg n g) ∧ mg x = some (.ref f) ∧ PySem.W.keepIn K (.ref f) = true ∧ Binds K fd ps ds ∧ Vals dvs ds ∧ dvs.length = dT.length ∧ ∀ F O, Rls K F O dvs dT []
structure SEX (K : PySem.W.Frag) (X : Cx) (e : Expr) (te : WX → TE) (ev : EvX) : Prop where
  p : ∀ W, Takes X W → PE X e (te W)
  s : ∀ W, ESndX K X.mg W (te W) ev
  k : X.K = K := by rfl
section
variable {K : PySem.W.Frag} {X : Cx} {c e : Expr} {es : List Expr} {te : TE} {tw : WX → TE} {tas : TA} {ev : Ev} {eas : Ea} {evx : EvX} {tt : TT} {et : Et} {pos p2 p3 : Pos} {pn : List Nat} {st : Stmt} {sts : List Stmt} {ts us : WX → TS} {s u : SX} {gg : TG} {g : Tg} {tg : Expr}
theorem yLf {t : TS} {b : S} (h : SS K X.nox pn st t b) : SY K X pn st (fun _ => t) (lf b) := by
  cases h.k
  exact ⟨fun _ _ _ => PS.nox h.p, fun _ => sLf h.s, rfl⟩
theorem yNil (hk : X.K = K := by rfl) : SYs K X pn [] (fun _ => tNext) (lf cSkip) := by
  cases hk
  exact ⟨fun _ _ _ => pss_nil, fun _ => sLf sSkip, rfl⟩
theorem yCons (h1 : SY K X pn st ts s) (h2 : SYs K X pn sts us u) : SYs K X pn (st :: sts) (fun W => tSeq (ts W) (us W)) (kSeq s u) := by
  cases h1.k
  exact ⟨fun W t po => pss_cons (h1.p W t po) (h2.p W t po), fun W => sKSeq (h1.s W) (h2.s W), rfl⟩
theorem yOne (h1 : SY K X pn st ts s) : SYs K X pn [st] ts s := by
  cases h1.k
  exact ⟨fun W t po => pss_one (h1.p W t po), h1.s, rfl⟩
theorem yIf {sa sb : List Stmt} (hc : ST K X.nox c tt et) (ha : SYs K X pn sa ts s) (hb : SYs K X pn sb us u) : SY K X pn (.If c sa sb pos) (fun W => tIfS tt (ts W) (us W)) (kIf et s u) := by
  cases hc.k
  exact ⟨fun W t po => ps_if (PT.nox hc.p) (ha.p W t po) (hb.p W t po), fun W => sKIf hc.s (ha.s W) (hb.s W), rfl⟩
theorem yCallX {k j : Nat} {x : Str} {ps : List Str} {m : List Bool} {g : GX} {mg : Str → Option Value} (C : CalX X.prog X.w K mg X.base j x ps m g) (hr : Room k X.A) (ha : SA K X.nox (e :: es) tas eas) (hmg : X.mg = mg := by rfl) (hg : Gl X x := by rfl) (hj : j ≤ k := by decide)
    (hdb : (x == ("__debug__" : Str)) = false := by decide) (hst : starEach (e :: es) X.env = (false, eval e X.env) :: starEach es X.env := by rfl) (hpl : (backTo pos (starEach es X.env)).any (·.1) = false := by rfl) :
    SEX K X (.Call (.Name x p2) (e :: es) [] pos) (fun W => tCallS (spX K mg m.length g) (WE W) tas) (cCallX g m eas) := by
  cases ha.k
  cases hmg
  obtain ⟨f, fd, h1, h2, h3, h4⟩ := C
  exact ⟨fun W tk => pe_callS h1 (hr.mono hj) hg h2 h3 h4 (passAt tk) (PA.nox ha.p) hdb hst hpl, fun W => eCallX ha.s, rfl⟩
theorem yExpr (he : SEX K X e tw evx) (hs : swapsWith e none pos.line X.env = pure false := by rfl) : SY K X pn (.Expr e pos) (fun W => tDrop (tw W)) (kDrop evx) := by
  cases he.k
  exact ⟨fun W t _ => ps_expr (he.p W t) hs, fun W => sKDrop (he.s W), rfl⟩
theorem yRet (he : SEX K X e tw evx) : SY K X pn (.Return (some e) pos) (fun W => tRet (tw W)) (kRet evx) := by
  cases he.k
  exact ⟨fun W t _ => ps_ret (he.p W t), fun W => sKRet (he.s W), rfl⟩
theorem yAsg (he : SEX K X e tw evx) (hg : SG K X.nox pn tg gg g) (hs : swapsWithSole [tg] e pos.line X.env = pure false := by rfl) (hw : swappedStores [tg] e X.env = pure none := by rfl) (h1 : (assignEach [tg] X.env).map (·.2) = [assign tg X.env] := by rfl) :
    SY K X pn (.Assign [tg] e pos) (fun W => tAsg (tw W) gg) (kAsg evx g) := by
  cases he.k
  exact ⟨fun W t _ => ps_asg (he.p W t) (PG.nox hg.p) hs hw h1, fun W => sKAsg (he.s W) hg.s, rfl⟩
/-- where it does not raise -/
theorem xCallK {k j : Nat} {x : Str} {ps : List Str} {m : List Bool} {g : GX} (C : CalX X.prog X.w K X.mg X.base j x ps m g) (hr : Room k X.A) (ha : SA K X (e :: es) tas eas) (hg : Gl X x := by rfl) (hj : j ≤ k := by decide)
    (hdb : (x == ("__debug__" : Str)) = false := by decide) (hst : starEach (e :: es) X.env = (false, eval e X.env) :: starEach es X.env := by rfl) (hpl : (backTo pos (starEach es X.env)).any (·.1) = false := by rfl) :
    SE K X (.Call (.Name x p2) (e :: es) [] pos) (tCall (spX K X.mg m.length g) [] E0 tas) (cCall (gPart g []) m eas) := by
  cases ha.k
  obtain ⟨f, fd, h1, h2, h3, h4⟩ := C
  exact ⟨pe_call h1 (hr.mono hj) hg h2 h3 h4 .nil passL ha.p hdb hst hpl, eCallK rfl (fun _ _ => .nil) ha.s, rfl⟩
theorem xCallKD {k j n : Nat} {x : Str} {ps : List Str} {m : List Bool} {dT : List T} {g : GX} (C : CalXD X.prog X.w K X.mg X.base j x ps n dT g) (hr : Room k X.A) (ha : SA K X (e :: es) tas eas) (hn : n = m.length + dT.length := by rfl) (hg : Gl X x := by rfl) (hj : j ≤ k := by decide)
    (hdb : (x == ("__debug__" : Str)) = false := by decide) (hst : starEach (e :: es) X.env = (false, eval e X.env) :: starEach es X.env := by rfl) (hpl : (backTo pos (starEach es X.env)).any (·.1) = false := by rfl) :
    ∃ te, SE K X (.Call (.Name x p2) (e :: es) [] pos) te (cCall (gPart g dT) m eas) := by
  cases ha.k
  obtain ⟨f, fd, dvs, ds, h1, h2, h3, h4, h5, h6, h7⟩ := C
  exact ⟨_, pe_call h1 (hr.mono hj) hg h2 h3 h4 h5 passL ha.p hdb hst hpl, eCallK (by rw [hn, h6]) h7 ha.s, rfl⟩
end
/-! ### a def that may raise -/
def runX (m : List Bool) (n : Nat) (b : SX) : GX := fun ts => match b (ts.map some ++ List.replicate (n - ts.length) none) with
  | some (.ok (.rt t e)) => match outsOf m ts e with
    | some us => some (.ok t us)
    | none => none
  | some (.ok (.nx e)) => match outsOf m ts e with
    | some us => some (.ok .non us)
    | none => none
  | some (.ex c e) => match outsOf m ts e with
    | some us => some (.ex c us)
    | none => none
  | _ => none
section
variable {P : Program} {w : World} {K : PySem.W.Frag} {mg : Str → Option Value} {base : Heap}
theorem bodyX {N : List Str} {scope : Scope} {qual : Str} {fa : Addr} {body : List Stmt} (m : List Bool) {b : SX} {cdv : Value} {A : Around} {outer : List PySem.Env} {s : Shared} {H : Hp} {E : XK} {vs : List V} {Q : VK}
    {tw : WX → TS} (hs : SYs K (cxOf (L2.CX P w) P w K mg base N qual scope fa cdv A outer s H E) (pins m 0) body tw b) (h : spX K mg m.length (runX m N.length b) vs H Q E) :
    tw (fun cls d _ H => E cls d H) { nx := fun _ H' => Q .non H', rt := Q } (L2.start N vs) H := by
  obtain ⟨F, O, ts, f, res, hl, rfl, d, rl, nd, hg, q⟩ := h
  have e0 := RlE.start (n := N.length - vs.length) rl
  have hlen : N.length - vs.length = N.length - ts.length := by rw [rl.len]
  have hpin : ∀ {σ' : L2.St}, Same2 (pins m 0) (L2.start N vs) σ' → ∀ i, i ∈ pins m 0 → ∃ j, i = 0 + j ∧ σ'[j]? = (L2.start N vs)[i]? := fun p i hi => ⟨i, (Nat.zero_add i).symm, p.s i hi⟩
  have hst : ∀ j v, vs[j]? = some v → (L2.start N vs)[0 + j]? = some (some v) := fun j v e => by
    unfold L2.start
    have hj := (List.getElem?_eq_some_iff.mp e).1
    rw [Nat.zero_add, List.getElem?_append_left (by rw [List.length_map]; exact hj), List.getElem?_map, e]
    rfl
  have outs : ∀ {σ' : L2.St} {F' O' : Hp} {fp f' : List Addr} {e : Env} {us : List T}, At K σ' F' O' e fp f' → Stp F O f F' O' (fp ++ f') → Same2 (pins m 0) (L2.start N vs) σ' → outsOf m ts e = some us → ∃ g, Stp F O f F' O' (fp ++ g) ∧ Rls K F' O' vs us g ∧ Nd (fp ++ g) := by
    intro σ' F' O' fp f' e us a1 s1 p1 eo
    obtain ⟨g, k1, k2⟩ := outs_of s1.f (k := 0) (σ0 := L2.start N vs) a1.e rl eo (hpin p1) hst
    refine ⟨g, s1.less fun a z => ?_, k1, a1.nd.sub fun a => by rw [List.count_append, List.count_append]; have := k2 a; omega⟩
    rcases List.mem_append.mp z with w | w
    · exact List.mem_append_left _ w
    · refine List.mem_append_right _ ?_
      rw [mem_count] at w ⊢
      have := k2 a
      omega
  unfold runX at hg
  rw [← hlen] at hg
  split at hg
  · next t' e hb' =>
    split at hg
    · next us hu =>
      cases hg
      exact hs.s _ _ _ hb' (L2.start N vs) F O f ⟨d, e0, nd⟩ _ fun v σ' F' O' fp f' a1 s1 r1 p1 => by
        obtain ⟨g, k1, k2, k3⟩ := outs a1 s1 p1 hu
        exact q v F' O' fp g a1.d k1 r1 k2 k3
    · cases hg
  · next e hb' =>
    split at hg
    · next us hu =>
      cases hg
      exact hs.s _ _ _ hb' (L2.start N vs) F O f ⟨d, e0, nd⟩ _ fun σ' F' O' f' a1 s1 p1 => by
        obtain ⟨g, k1, k2, k3⟩ := outs (fp := []) a1 s1 p1 hu
        exact q .non F' O' [] g a1.d k1 .non k2 k3
    · cases hg
  · next c e hb' =>
    split at hg
    · next us hu =>
      cases hg
      exact hs.s _ _ _ hb' (L2.start N vs) F O f ⟨d, e0, nd⟩ _ fun σ' F' O' f' a1 s1 p1 => by
        obtain ⟨g, k1, k2, k3⟩ := outs (fp := []) a1 s1 p1 hu
        exact q F' O' g a1.d k1 k2 k3
    · cases hg
  · cases hg
theorem fn_okX {x qual : Str} {st : Stmt} {fa : Addr} {fd : FuncData} {N ps : List Str} {k : Nat} (Fu : Fun K x qual st fa fd) (Sc : FnScope N ps (defScope st)) (m : List Bool) (hm : m.length = ps.length) {b : SX}
    (hb : ∀ (cdv : Value) (A : Around) (outer : List PySem.Env) (s : Shared) (H : Hp) (E : XK), Room k (A.deeper (PyProof.Rows.envOfC qual (defScope st) s.heap.objs.size fa cdv)) → ∃ t, SYs K (cxOf (L2.CX P w) P w K mg base N qual (defScope st) fa cdv A outer s H E) (pins m 0) (defBody st) t b) :
    FnOk P w K mg base (L2.CX P w) (k + 1) fa fd ps (spX K mg m.length (runX m N.length b)) := by
  refine Fu.okX Sc (fun vs H Q E h => ?_) (fun cdv A outer s H vs Q E hr h => ?_)
  · obtain ⟨_, _, _, _, _, hl, _⟩ := h
    rw [hl, hm]
  · obtain ⟨t, hs⟩ := hb cdv A outer s H E hr
    exact ⟨_, hs.p _ (takes_of rfl rfl rfl rfl) (passes_of rfl), bodyX m hs h⟩
theorem fn_okXD {dvs : List V} {kws : List (Str × V)} {x qual : Str} {st : Stmt} {fa : Addr} {fd : FuncData} {N ps : List Str} {k : Nat} (Fu : FunD K x qual (defArgs st) (defBody st) (defScope st) dvs kws fa fd) (Sc : FnScope N ps (defScope st)) (m : List Bool) (hm : m.length = ps.length) {b : SX}
    (hb : ∀ (cdv : Value) (A : Around) (outer : List PySem.Env) (s : Shared) (H : Hp) (E : XK), Room k (A.deeper (PyProof.Rows.envOfC qual (defScope st) s.heap.objs.size fa cdv)) → ∃ t, SYs K (cxOf (L2.CX P w) P w K mg base N qual (defScope st) fa cdv A outer s H E) (pins m 0) (defBody st) t b) :
    FnOk P w K mg base (L2.CX P w) (k + 1) fa fd ps (spX K mg m.length (runX m N.length b)) := by
  refine FunD.ok (CX := L2.CX P w) Fu Sc (fun vs H Q E h => ?_) (fun cdv A outer s H vs Q E hr h => ?_)
  · obtain ⟨_, _, _, _, _, hl, _⟩ := h
    rw [hl, hm]
  · obtain ⟨t, hs⟩ := hb cdv A outer s H E hr
    exact ⟨_, hs.p _ (takes_of rfl rfl rfl rfl) (passes_of rfl), bodyX m hs h⟩
end
/-! ### classes, raise -/
/-- an own class of exceptions, over ValueError -/
structure ExO (K : PySem.W.Frag) (C : Addr) : Prop where
  q : PySem.W.excIn K C [.type "ValueError", .type "Exception", .type "BaseException", .type "object"] "ValueError.__new__" = true
  k : PySem.W.keepIn K (.ref C) = true
  s : PySem.W.subIn K (.ref C) (.type "BaseException") = some true
  t : PySem.W.typeIn K (.ref C) = some (.type "type")
def Cls1 (K : PySem.W.Frag) (mg : Str → Option Value) (x : Str) : Prop := ∃ C, mg x = some (.ref C) ∧ ExO K C
section
variable {K : PySem.W.Frag} {X : Cx} {pos p2 p3 p4 : Pos} {pn : List Nat}
theorem yRaise {x m : Str} {j : Nat} (R : Cls1 K X.mg x) (hg : Gl X x := by rfl) (hc : X.calm = true := by rfl) (hdb : (x == ("__debug__" : Str)) = false := by decide) (hk : X.K = K := by rfl) :
    SY K X pn (.Raise (some (.Call (.Name x p3) [.Constant (.str m) j p2] [] p4)) none pos) (fun W _ σ H => W (cvl X.mg x) none σ H) (kRai x) := by
  cases hk
  obtain ⟨C, h1, h2⟩ := R
  have e : cvl X.mg x = .ref C := by unfold cvl; rw [h1]; rfl
  refine ⟨fun W tk _ => ?_, fun W => sKRai, rfl⟩
  rw [e]
  exact ps_raise hc tk (pmk_own PySem.F.excBase_ValueError h2.q h1 h2.k (raises_own h2.s h2.t) hg hdb)
/-! ### try .. except X: -/
def kTry (a : SX) (m : Str → Option Bool) (b : S) : S := fun env => match a env with
  | some (.ok o) => some o
  | some (.ex c e) => match m c with
    | some true => b e
    | _ => none
  | none => none
theorem zTryO {x : Str} {c : Value} {body suite : List Stmt} {b₀ : Stmt} {np pos' : Pos} {tb : WX → TS} {ts : TS} {bx : SX} {b : S} {m : Str → Option Bool} (hs : X.stack = X.env :: X.outer) (hf : X.env.frame = some X.env.locals) (hc : Names X x c)
    (hm : ∀ c', m c' = some true → PySem.W.exmOne X.K (cvl X.mg c') c = some true)
    (hb : ∀ (pns : List (Addr × Obj)) (xe : Value → Shared → Prop), SYs K (X.tr pns xe) pn body tb bx)
    (hsu : ∀ (a : Addr) (oe : Obj) (pns : List (Addr × Obj)), SSs K (X.suite a ((a, oe) :: pns)) pn (b₀ :: suite) ts b) :
    SS K X pn (.Try body [.ExceptHandler (some (.Name x np)) none (b₀ :: suite) pos'] [] [] pos) (fun D σ H => tb (wOnly X.K c (fun _ _ _ => ts) (fun _ _ _ _ => False) D) D σ H) (kTry bx m b) := by
  refine ⟨ps_try_only hs hf hc takes0 (fun W pns xe tk po => (hb pns xe).p W tk po) (fun a oe cls d pns _ _ => (hsu a oe pns).p), ?_, (hb [] (fun _ _ => False)).k⟩
  intro env out h σ F O f a0 D q
  refine (hb [] (fun _ _ => False)).s _ env _ (?_ : bx env = some ?o) σ F O f a0 D ?_
  case o => exact (bx env).getD (.ok (.nx env))
  · unfold kTry at h
    cases hx : bx env with
    | none => rw [hx] at h; cases h
    | some o => rfl
  · unfold kTry at h
    cases hx : bx env with
    | none => rw [hx] at h; cases h
    | some o =>
      rw [hx] at h
      cases o with
      | ok o =>
        cases h
        exact q
      | ex c' e =>
        simp only at h
        cases hmc : m c' with
        | none => rw [hmc] at h; cases h
        | some bb =>
          cases bb with
          | false => rw [hmc] at h; cases h
          | true =>
            rw [hmc] at h
            intro σ' F' O' f' a1 s1 p1
            exact ⟨true, hm c' hmc, fun _ a _ => (hsu a ⟨.none, none, .fields #[], #[]⟩ []).s e out h σ' F' O' f' a1 D (q.after s1 p1), fun z => by cases z⟩
end
end LP
/-! ### try .. except X as e: what is asked of e is known -/
namespace LP
open PySem L2
def Val (P : L2.St → Prop) (te : TE) (b : Bool) : Prop := ∀ σ F O, Dis F O → P σ → ∀ Q : VK, (∀ F', Dis F' O → Stp F O [] F' O [] → Q (.bl b) (jn F' O)) → te σ (jn F O) Q
/-- isinstance(e, (c1, ..)) -/
def rIsET (K : PySem.W.Frag) (C a : Addr) : List V → Hp → VK → Prop := fun xs H Q => ∃ (tp : Addr) (cs : List V) (us : List Value) (b : Bool), xs = [.ref a, .ref tp] ∧ H tp = some (.tup cs) ∧ Paired ClsV cs us ∧ PySem.W.kitAny K (.ref C) us = some b ∧ Q (.bl b) H
theorem call_isET {X : Cx} {a D : Addr} {oe : Obj} {pn : List (Addr × Obj)} (C : ExcC X.K D) (hz : Zc (.ref D) none oe) (hf : ∃ vs, oe.data = .fields vs) : CallR (X.suite a ((a, oe) :: pn)) (.builtin "isinstance") (rIsET X.K D a) := by
  intro pins s σ H xs us Q I r h
  obtain ⟨tp, cs, ws, b, rfl, hT, k, e, q⟩ := h
  obtain ⟨u1, u2, rfl, r1, r2⟩ := vals2 r
  cases (show u2 = Value.ref tp from r2)
  cases (show u1 = Value.ref a from r1)
  obtain ⟨hget, _⟩ := I.pin (a, oe) (List.mem_append.mpr (.inl List.mem_cons_self))
  obtain ⟨vs, hv⟩ := hf
  have J : PySem.W.InstAt s.heap a oe D none := by
    obtain ⟨oc, od, oda, osl⟩ := oe
    obtain ⟨h1, h2⟩ := hz
    dsimp only at h1 h2 hv
    subst h1 h2 hv
    exact ⟨hget, rfl, rfl, trivial⟩
  obtain ⟨_, its, rv, o, h1, h2, n, h3⟩ := (show ObjOk X.prog X.w H s.heap tp (.tup cs) from I.hok tp _ hT)
  have e3 := ClsV.all k rv
  subst e3
  obtain ⟨oc, od, dt, sl⟩ := o
  simp only at h2 h3
  subst h2 h3
  exact PySem.W.kia_tup (PySem.W.handS_kitx_exc C.hg C.hk C.hs C.hd C.ha C.hn C.ht C.hm) I.kIn J h1 e (fun z => nomatch z) fun tk => ⟨.bl b, H, I.kept (t' := tk) fun _ _ z => z, rfl, q⟩
structure VE (K : PySem.W.Frag) (X : Cx) (C : Addr) (e : Expr) (P : Addr → L2.St → Prop) (te : Addr → TE) (b : Bool) : Prop where
  p : ∀ (a : Addr) (oe : Obj) (pns : List (Addr × Obj)), Zc (.ref C) none oe → (∃ vs, oe.data = .fields vs) → PE (X.suite a ((a, oe) :: pns)) e (te a)
  s : ∀ a, Val (P a) (te a) b
  k : X.K = K := by rfl
/-- classes, one after the other -/
structure VC (K : PySem.W.Frag) (X : Cx) (C : Addr) (es : List Expr) (ta : TA) (cs : List V) (us : List Value) : Prop where
  p : ∀ (a : Addr) (oe : Obj) (pns : List (Addr × Obj)), PA (X.suite a ((a, oe) :: pns)) es ta
  s : ∀ σ H Q, Q cs H → ta σ H Q
  c : Paired ClsV cs us
section
variable {K : PySem.W.Frag} {X : Cx} {C D : Addr} {i j : Nat} {P : Addr → L2.St → Prop} {e e1 e2 : Expr} {es : List Expr} {te te1 te2 : Addr → TE} {ta : TA} {cs : List V} {us : List Value} {b : Bool} {pos p1 p2 p3 : Pos}
theorem vc0 : VC K X C [] tNil [] [] := ⟨fun _ _ _ => pa_nil, fun _ _ _ q => q, .nil⟩
theorem vcC {x : Str} (hg : Gl X x) (hm : X.mg x = some (.ref D)) (h : VC K X C es ta cs us) (hst : ∀ env, starEach (.Name x p1 :: es) env = (false, eval (.Name x p1) env) :: starEach es env := by intro _; rfl) (hd : (x == ("__debug__" : Str)) = false := by decide) :
    VC K X C (.Name x p1 :: es) (tCons (tC (.ref D)) ta) (.ref D :: cs) (.ref D :: us) :=
  ⟨fun a oe pns => pa_cons (pe_glob hg hm rfl hd) (h.p a oe pns) (hst _), fun σ H Q q => h.s σ H _ q, .cons (.own D) h.c⟩
theorem vIs {x : Str} {n : Str} (E : ExcC X.K C) (hi : ∀ a oe pns, PE (X.suite a ((a, oe) :: pns)) (.Name n p1) (tVar i)) (hgi : Gl X "isinstance") (hmi : X.mg "isinstance" = none) (hg : Gl X x) (hm : X.mg x = some (.ref D)) (hk : PySem.W.kitOne X.K (.ref C) (.ref D) = some b)
    (hst : ∀ env, starEach [.Name n p1, .Name x p2] env = (false, eval (.Name n p1) env) :: starEach [.Name x p2] env := by intro _; rfl) (hst2 : ∀ env, starEach [.Name x p2] env = (false, eval (.Name x p2) env) :: starEach [] env := by intro _; rfl) (hpl : ∀ env, (backTo pos (starEach [.Name x p2] env)).any (·.1) = false := by intro _; rfl) (hd : (x == ("__debug__" : Str)) = false := by decide) :
    VE X.K X C (.Call (.Name "isinstance" p3) [.Name n p1, .Name x p2] [] pos) (fun a σ => σ[i]? = some (some (.ref a))) (fun a => tCB (rIsE X.K C a) (tCons (tVar i) (tCons (tC (.ref D)) tNil))) b :=
  ⟨fun a oe pns hz hf => pe_callB (call_isE E hz hf) hgi hmi b_isi (pa_cons (hi a oe pns) (pa_cons (pe_glob hg hm rfl hd) pa_nil (hst2 _)) (hst _)) (by decide) (by decide) (hst _) (hpl _),
    fun a σ F O d hp Q q => ⟨_, hp, _, _, b, rfl, (fun u hu => hu), hk, q F d Stp.refl⟩, rfl⟩
theorem vIsB {x : Str} {T : String} {n : Str} (E : ExcC X.K C) (hi : ∀ a oe pns, PE (X.suite a ((a, oe) :: pns)) (.Name n p1) (tVar i)) (hgi : Gl X "isinstance") (hmi : X.mg "isinstance" = none) (hg : Gl X x) (hm : X.mg x = none) (hv : bootBuiltins x = some (.type T)) (hk : PySem.W.kitOne X.K (.ref C) (.type T) = some b)
    (hn : x ≠ "__name__" := by decide) (hst : ∀ env, starEach [.Name n p1, .Name x p2] env = (false, eval (.Name n p1) env) :: starEach [.Name x p2] env := by intro _; rfl) (hst2 : ∀ env, starEach [.Name x p2] env = (false, eval (.Name x p2) env) :: starEach [] env := by intro _; rfl) (hpl : ∀ env, (backTo pos (starEach [.Name x p2] env)).any (·.1) = false := by intro _; rfl) (hd : (x == ("__debug__" : Str)) = false := by decide) :
    VE X.K X C (.Call (.Name "isinstance" p3) [.Name n p1, .Name x p2] [] pos) (fun a σ => σ[i]? = some (some (.ref a))) (fun a => tCB (rIsE X.K C a) (tCons (tVar i) (tCons (tC (.ty T)) tNil))) b :=
  ⟨fun a oe pns hz hf => pe_callB (call_isE E hz hf) hgi hmi b_isi (pa_cons (hi a oe pns) (pa_cons (pe_bltn hg hm hv rfl hn hd) pa_nil (hst2 _)) (hst _)) (by decide) (by decide) (hst _) (hpl _),
    fun a σ F O d hp Q q => ⟨_, hp, _, _, b, rfl, (fun u hu => hu), hk, q F d Stp.refl⟩, rfl⟩
theorem vIsT {n : Str} {kx : Nat} (E : ExcC X.K C) (hi : ∀ a oe pns, PE (X.suite a ((a, oe) :: pns)) (.Name n p1) (tVar i)) (hgi : Gl X "isinstance") (hmi : X.mg "isinstance" = none) (hcs : VC X.K X C es ta cs us) (hl : cs.length ≤ 1000) (hk : PySem.W.kitAny X.K (.ref C) us = some b)
    (hst : ∀ env, starEach [.Name n p1, .Tuple es kx p2] env = (false, eval (.Name n p1) env) :: starEach [.Tuple es kx p2] env := by intro _; rfl) (hst2 : ∀ env, starEach [.Tuple es kx p2] env = (false, eval (.Tuple es kx p2) env) :: starEach [] env := by intro _; rfl) (hpl : ∀ env, (backTo pos (starEach [.Tuple es kx p2] env)).any (·.1) = false := by intro _; rfl) :
    VE X.K X C (.Call (.Name "isinstance" p3) [.Name n p1, .Tuple es kx p2] [] pos) (fun a σ => σ[i]? = some (some (.ref a))) (fun a => tCB (rIsET X.K C a) (tCons (tVar i) (tCons (tTup ta) tNil))) b := by
  refine ⟨fun a oe pns hz hf => pe_callB (call_isET E hz hf) hgi hmi b_isi (pa_cons (hi a oe pns) (pa_cons (pe_tup (hcs.p a oe pns)) pa_nil (hst2 _)) (hst _)) (by decide) (by decide) (hst _) (hpl _),
    fun a σ F O d hp Q q => ⟨_, hp, hcs.s _ _ _ ⟨Nat.le_trans hl (by decide), fun p hp' => ?_⟩⟩, rfl⟩
  have e := upd_jnF (F := F) (O := O) (o := HO.tup cs) (jn_none hp').2
  show rIsET X.K C a [V.ref a, V.ref p] (upd (jn F O) p (HO.tup cs)) Q
  rw [e]
  refine ⟨p, cs, us, b, rfl, ?_, hcs.c, hk, q _ (d.updF (jn_none hp').2) ?_⟩
  · rw [← e]; exact upd_same
  · exact Stp.newF hp'
theorem vAnd (h1 : VE K X C e1 P te1 true) (h2 : VE K X C (.BoolOp .And (e2 :: es) pos) P te2 b) : VE K X C (.BoolOp .And (e1 :: e2 :: es) pos) P (fun a => tAndV (te1 a) (te2 a)) b :=
  ⟨fun a oe pns hz hf => pe_and (h1.p a oe pns hz hf) (h2.p a oe pns hz hf), fun a σ F O d hp Q q => h1.s a σ F O d hp _ fun F' d' s' => ⟨true, rfl, h2.s a σ F' O d' hp Q fun F2 d2 s2 => q F2 d2 (s'.trans s2)⟩, h1.k⟩
theorem vOne {op : BoolOp} (h1 : VE K X C e1 P te1 b) : VE K X C (.BoolOp op [e1] pos) P te1 b := ⟨fun a oe pns hz hf => pe_one (h1.p a oe pns hz hf), h1.s, h1.k⟩
theorem vNot (h1 : VE K X C e1 P te1 b) : VE K X C (.UnaryOp .Not e1 pos) P (fun a => tNotV (te1 a)) (!b) :=
  ⟨fun a oe pns hz hf => pe_not (h1.p a oe pns hz hf), fun a σ F O d hp Q q => h1.s a σ F O d hp _ fun F' d' s' => ⟨b, rfl, q F' d' s'⟩, h1.k⟩
theorem vImp {P' : Addr → L2.St → Prop} (h : VE K X C e P te b) (hp : ∀ a σ, P' a σ → P a σ) : VE K X C e P' te b := ⟨h.p, fun a σ F O d q => h.s a σ F O d (hp a σ q), h.k⟩
theorem vName {n : Str} (hi : ∀ a oe pns, PE (X.suite a ((a, oe) :: pns)) (.Name n p1) (tVar j)) : VE X.K X C (.Name n p1) (fun _ σ => σ[j]? = some (some (.bl b))) (fun _ => tVar j) b :=
  ⟨fun a oe pns _ _ => hi a oe pns, fun a σ F O d hp Q q => ⟨_, hp, q F d Stp.refl⟩, rfl⟩
end
end LP
namespace LP
open PySem L2
def kTryAs (a : SX) (R : Str) (i j : Nat) : S := fun env => match a env with
  | some (.ok o) => some o
  | some (.ex c e) => if c = R ∧ i < e.length ∧ j < e.length then some (.rt (.bl true) e) else none
  | none => none
theorem pss_pre {X : Cx} {st : List Stmt} {t : TS} {p : Prop} (h : p → PSs X st t) : PSs X st (fun D σ H => p ∧ t D σ H) := ⟨fun pins s σ H D I hw => (h hw.1).run pins s σ H D I hw.2⟩
section
variable {K : PySem.W.Frag} {X : Cx} {C : Addr} {i j : Nat} {e1 e2 e3 : Expr} {te1 te2 te3 : Addr → TE} {pos p1 p2 q1 q2 q3 np pos' : Pos} {pn : List Nat} {n x mine R : Str} {c : Value} {body : List Stmt} {tb : WX → TS} {bx : SX}
theorem zTryAs (hs : X.stack = X.env :: X.outer) (hf : X.env.frame = some X.env.locals) (hN : X.N.Nodup) (hi : X.N[i]? = some n) (hln : X.env.kindOf n = some .local) (hc : Names X x c) (hR : cvl X.mg R = .ref C) (hm : PySem.W.exmOne X.K (.ref C) c = some true) (ij : i ≠ j)
    (hb : ∀ (pns : List (Addr × Obj)) (xe : Value → Shared → Prop), SYs K (X.tr pns xe) pn body tb bx)
    (g1 : ∀ a oe pns, PG (X.suite a ((a, oe) :: pns)) (.Name mine p1) (gName j)) (g2 : ∀ a oe pns, PG (X.suite a ((a, oe) :: pns)) (.Name mine p2) (gName j))
    (v1 : VE X.K X C e1 (fun a σ => σ[i]? = some (some (.ref a))) te1 true) (v2 : VE X.K X C e2 (fun a σ => σ[i]? = some (some (.ref a)) ∧ σ[j]? = some (some (.bl true))) te2 true) (v3 : VE X.K X C e3 (fun a σ => σ[i]? = some (some (.ref a)) ∧ σ[j]? = some (some (.bl true))) te3 true)
    (s1 : swapsWithSole [.Name mine p1] e1 q1.line X.env = pure false := by rfl) (w1 : swappedStores [.Name mine p1] e1 X.env = pure none := by rfl) (a1 : (assignEach [.Name mine p1] X.env).map (·.2) = [assign (.Name mine p1) X.env] := by rfl)
    (s2 : swapsWithSole [.Name mine p2] e2 q2.line X.env = pure false := by rfl) (w2 : swappedStores [.Name mine p2] e2 X.env = pure none := by rfl) (a2 : (assignEach [.Name mine p2] X.env).map (·.2) = [assign (.Name mine p2) X.env] := by rfl) :
    SS K X pn (.Try body [.ExceptHandler (some (.Name x np)) (some n) [.Assign [.Name mine p1] e1 q1, .Assign [.Name mine p2] e2 q2, .Return (some e3) q3] pos'] [] [] pos)
      (fun D σ H => tb (wAs X.K c i (fun a cls d D σ H => (cls = .ref C ∧ d = none) ∧ tSeq (tAsg (te1 a) (gName j)) (tSeq (tAsg (te2 a) (gName j)) (tRet (te3 a))) D σ H) (fun _ _ _ _ => False) D) D σ H) (kTryAs bx R i j) := by
  refine ⟨ps_try_as hs hf hN hi hln hc takes0 (fun W pns xe tk po => (hb pns xe).p W tk po) (fun a oe cls d pns hz hfl => ?_), ?_, (hb [] (fun _ _ => False)).k⟩
  · refine pss_pre fun ⟨ec, ed⟩ => ?_
    subst ec ed
    exact pss_cons (ps_asg (v1.p a oe pns hz hfl) (g1 a oe pns) s1 w1 a1) (pss_cons (ps_asg (v2.p a oe pns hz hfl) (g2 a oe pns) s2 w2 a2) (pss_one (ps_ret (v3.p a oe pns hz hfl))))
  · intro env out h σ F O f a0 D q
    refine (hb [] (fun _ _ => False)).s _ env _ (?_ : bx env = some ?o) σ F O f a0 D ?_
    case o => exact (bx env).getD (.ok (.nx env))
    · unfold kTryAs at h
      cases hx : bx env with
      | none => rw [hx] at h; cases h
      | some o => rfl
    · unfold kTryAs at h
      cases hx : bx env with
      | none => rw [hx] at h; cases h
      | some o =>
        rw [hx] at h
        cases o with
        | ok o =>
          cases h
          exact q
        | ex c' e =>
          simp only at h
          split at h
          · next hcc =>
            obtain ⟨rfl, hie, hje⟩ := hcc
            cases h
            intro σ' F' O' f' at1 st1 sm1
            refine ⟨true, ?_, fun _ a _ => ⟨⟨?_, rfl⟩, ?_⟩, fun z => by cases z⟩
            · show PySem.W.exmOne X.K (cvl X.mg c') c = some true
              rw [hR]; exact hm
            · show cvl X.mg c' = _
              exact hR
            · have hl := at1.e.len
              have i0 : (σ'.set i (some (V.ref a)))[i]? = some (some (.ref a)) := by rw [List.getElem?_set_self (by omega)]
              have fin : ∀ F2, Dis F2 O' → Stp F' O' [] F2 O' [] → D.rt (.bl true) (jn F2 O') := fun F2 d2 s2 =>
                q (.bl true) σ' F2 O' [] f' ⟨d2, at1.e.mono s2.f fun a _ o e => e, at1.nd⟩ (st1.trans ⟨s2.f, fun b u _ e => e, fun b z => .inl (by simpa using z), s2.g⟩) (.bl _) sm1
              have hjl : j < σ'.length := by omega
              refine v1.s a _ F' O' at1.d i0 _ fun F2 d2 s2 => ?_
              have k0 : ((σ'.set i (some (V.ref a))).set j (some (.bl true)))[i]? = some (some (.ref a)) := by rw [List.getElem?_set_ne (fun e => ij e.symm)]; exact i0
              have k1 : ((σ'.set i (some (V.ref a))).set j (some (.bl true)))[j]? = some (some (.bl true)) := by rw [List.getElem?_set_self (by rw [List.length_set]; exact hjl)]
              refine v2.s a _ F2 O' d2 ⟨k0, k1⟩ _ fun F3 d3 s3 => ?_
              refine v3.s a _ F3 O' d3 ⟨?_, ?_⟩ _ fun F4 d4 s4 => fin F4 d4 (s2.trans (s3.trans s4))
              · rw [List.getElem?_set_ne (fun e => ij e.symm)]; exact k0
              · rw [List.getElem?_set_self (by rw [List.length_set, List.length_set]; exact hjl)]
          · cases h
end
end LP
namespace LP
open PySem L2
/-- min, max of three ints -/
def min3T : List T → Option T
  | [.int i, .int j, .int k] => some (.int (if k < (if j < i then j else i) then k else (if j < i then j else i)))
  | _ => none
@[simp] theorem min3T_ints (i j k : Int) : min3T [.int i, .int j, .int k] = some (.int (if k < (if j < i then j else i) then k else (if j < i then j else i))) := rfl
section
variable {K : PySem.W.Frag} {X : Cx} {a b c : Expr} {tas : TA} {eas : Ea} {pos p2 : Pos}
theorem sMin3 : OSndN K (rNuC3 nuMin3) min3T := by
  intro F O xs as fa t d ha e Q q
  unfold min3T at e
  split at e
  · cases e
    obtain ⟨v, w, z, g, g2, g3, rfl, h, h2, h3⟩ := ha.three
    cases h
    cases h2
    cases h3
    refine ⟨_, _, _, _, rfl, ?_, q.sc d (.int _)⟩
    rename_i i j k
    have m2 : ∀ x y : Int, nuMin2 (.int x) (.int y) = some (.int (if y < x then y else x)) := fun x y => by
      show some (if decide (y < x) = true then V.int y else V.int x) = _
      by_cases h : y < x <;> simp [h]
    unfold nuMin3
    rw [m2, Option.bind_some, m2]
  · cases e
theorem xMin3 (hc : X.calm = true) (hg : Gl X "min") (hm : X.mg "min" = none) (ha : SA K X [a, b, c] tas eas) (hst : starEach [a, b, c] X.env = (false, eval a X.env) :: starEach [b, c] X.env := by rfl) (hpl : (backTo pos (starEach [b, c] X.env)).any (·.1) = false := by rfl) :
    SE K X (.Call (.Name "min" p2) [a, b, c] [] pos) (tCB (rNuC3 nuMin3) tas) (cON min3T eas) := by
  cases ha.k
  exact xB (call_min3Nu hc) sMin3 hg hm b_min ha (hst := hst) (hpl := hpl)
/-- t + u of tuples, empty ones too -/
def catT : T → T → Option T := fun a b => match a, b with
  | .tup false xs, .tup false ys => if fzL xs && fzL ys && decide (xs.length + ys.length ≤ sizeLine) then some (.tup false (xs ++ ys)) else none
  | _, _ => none
@[simp] theorem catT_def (xs ys : List T) : catT (.tup false xs) (.tup false ys) = if (fzL xs && fzL ys && decide (xs.length + ys.length ≤ sizeLine)) = true then some (.tup false (xs ++ ys)) else none := rfl
theorem sCatA : OSnd2 K (rCatA K) catT := by
  intro F O x y a b fa fb t d ha hb e Q q
  unfold catT at e
  split at e
  · split at e
    · next h =>
      cases e
      simp only [Bool.and_eq_true, decide_eq_true_eq] at h
      obtain ⟨p, vs, fs, rfl, h1, r1⟩ := ha.tupv d
      obtain ⟨p2, ws, gs, rfl, h2, r2⟩ := hb.tupv d
      refine ⟨_, _, _, _, rfl, rfl, h1, h2, ?_, fun z => ?_, fun n1 z => ?_, fun n1 n2 => q.newT d ((r1.own0 h.1.1).append (r2.own0 h.1.2))⟩
      · rw [r1.len, r2.len]; exact h.2
      · subst z
        cases r1
        exact Back.sc q d (hb.own0 (by simp [h.1.2]))
      · subst z
        cases r2
        rw [List.append_nil] at q
        exact Back.sc q d (ha.own0 (by simp [h.1.1]))
    · cases e
  · cases e
end
section
variable {K : PySem.W.Frag} {X : Cx} {a b : Expr} {ta tb : TE} {ea eb : Ev} {pos : Pos}
theorem xCat (ha : SE K X a ta ea) (hb : SE K X b tb eb) : SE K X (.BinOp a .Add b pos) (tOp (rCatA K) ta tb) (cO2 catT ea eb) := by
  cases ha.k
  exact xOp op_catA sCatA ha hb
end
end LP

/-! ### the classes of a program -/
namespace LP
open PySem L2
def adr (mg : Str → Option Value) (x : Str) : Addr := match mg x with
  | some (.ref a) => a
  | _ => 0
theorem adr_of {mg : Str → Option Value} {x : Str} {a : Addr} (h : mg x = some (.ref a)) : adr mg x = a := by unfold adr; rw [h]
theorem cvl_of {mg : Str → Option Value} {x : Str} {v : Value} (h : mg x = some v) : cvl mg x = v := by unfold cvl; rw [h]; rfl
theorem adr_mg {mg : Str → Option Value} {x : Str} {a : Addr} (h : mg x = some (.ref a)) : mg x = some (.ref (adr mg x)) := by rw [adr_of h]; exact h
def m1 (R : Str) : Str → Option Bool := fun c => if c = R then some true else none
@[simp] theorem m1_self (R : Str) : m1 R R = some true := if_pos rfl
theorem m1_ok {K : PySem.W.Frag} {mg : Str → Option Value} {R : Str} {c : Value} {a : Addr} (hR : mg R = some (.ref a)) (h : PySem.W.exmOne K (.ref a) c = some true) : ∀ c', m1 R c' = some true → PySem.W.exmOne K (cvl mg c') c = some true := by
  intro c' e
  unfold m1 at e
  split at e
  · next h1 => subst h1; rw [cvl_of hR]; exact h
  · cases e
theorem kitAny_no {K : PySem.W.Frag} {t c : Value} {r : List Value} (h : PySem.W.kitOne K t c = some false) (hr : PySem.W.kitAny K t r = some false) : PySem.W.kitAny K t (c :: r) = some false := by
  unfold PySem.W.kitAny
  rw [h]
  exact hr
theorem kitAny_nil {K : PySem.W.Frag} {t : Value} : PySem.W.kitAny K t [] = some false := rfl
/-- a class as it is named -/
structure ClsF (K : PySem.W.Frag) (D : Addr) : Prop where
  s : PySem.W.subIn K (.ref D) (.type "BaseException") = some true
  d : PySem.W.hasDictIn K D = true
  t : PySem.W.typeIn K (.ref D) = some (.type "type")
theorem ClsF.exm {K : PySem.W.Frag} {R D : Addr} {b : Bool} (c : ClsF K D) (h : PySem.W.subIn K (.ref R) (.ref D) = some b) : PySem.W.exmOne K (.ref R) (.ref D) = some b := PySem.W.exm_ref c.s c.d c.t h
theorem kit_self {K : PySem.W.Frag} {R : Addr} : PySem.W.kitOne K (.ref R) (.ref R) = some true := by
  unfold PySem.W.kitOne
  rw [if_pos (by simp)]
theorem ClsF.kit {K : PySem.W.Frag} {R D : Addr} {b : Bool} (c : ClsF K D) (n : (R == D) = false) (h : PySem.W.subIn K (.ref R) (.ref D) = some b) : PySem.W.kitOne K (.ref R) (.ref D) = some b := by
  have n' : ¬ R = D := fun e => by subst e; simp at n
  unfold PySem.W.kitOne
  rw [if_neg (by simp [n'])]
  unfold PySem.W.kitCls
  obtain ⟨cd, hc, _⟩ := PySem.W.any_some c.d
  simp only
  rw [if_pos (by rw [hc, c.t]; rfl)]
  exact h
theorem kit_type {K : PySem.W.Frag} {R : Addr} {T : String} {b : Bool} (m : PySem.W.kitMeta T = true) (h : PySem.W.subIn K (.ref R) (.type T) = some b) : PySem.W.kitOne K (.ref R) (.type T) = some b := by
  unfold PySem.W.kitOne
  rw [if_neg (by simp)]
  unfold PySem.W.kitCls
  simp only
  rw [if_pos m]
  exact h
/-- unreached -/
theorem zNever {K : PySem.W.Frag} {X : Cx} {pn : List Nat} {st : Stmt} (hk : X.K = K := by rfl) : SS K X pn st (fun _ _ _ => False) (fun _ => none) := by
  cases hk
  exact ⟨⟨fun _ _ _ _ _ _ h => h.elim⟩, (fun _ _ h => by cases h), rfl⟩
end LP
set_option maxRecDepth 100000
/-! LP: sorted of pairs of a text and an int. -/
namespace SrtS
open PySem PyProof.Rows SrtO
def IsPS (h : Heap) (v : Value) (x : Str) (y : Int) : Prop := ∃ a o t u n, v = .ref a ∧ h.get? a = some o ∧ o.cls = .type "tuple" ∧ o.data = .seq #[.str x t, .int y u] n
theorem IsPS.keeps {h h' : Heap} {v : Value} {x : Str} {y : Int} (p : IsPS h v x y) (k : ∀ b o, h.get? b = some o → o.cls = .type "tuple" → h'.get? b = some o) : IsPS h' v x y := by
  obtain ⟨a, o, t, u, n, e, ho, hc, hd⟩ := p
  exact ⟨a, o, t, u, n, e, k _ _ ho hc, hc, hd⟩
theorem firstsS {h : Heap} : ∀ {vs : List Value}, (∀ v ∈ vs, ∃ x y, IsPS h v x y) → ∃ fs : List Value, PySem.W.KatTups h vs fs ∧ fs.length = vs.length ∧ ∀ f ∈ fs, ∃ x t, f = Value.str x t
  | [], _ => ⟨[], PySem.W.KatTups.nil, rfl, fun _ hm => by simp at hm⟩
  | v :: vs, hp => by
    obtain ⟨fs, h1, h2, h3⟩ := firstsS (vs := vs) fun v' hm => hp v' (List.mem_cons_of_mem _ hm)
    obtain ⟨x, y, a, o, t, u, n, e, ho, hc, hd⟩ := hp v (List.mem_cons_self ..)
    subst e
    refine ⟨.str x t :: fs, PySem.W.KatTups.cons ho hc hd rfl h1, by rw [List.length_cons, List.length_cons, h2], fun f hm => ?_⟩
    rcases List.mem_cons.mp hm with rfl | hm
    · exact ⟨x, t, rfl⟩
    · exact h3 f hm
def sLt (x y : Str) : Prop := x.cps.toList < y.cps.toList
instance (x y : Str) : Decidable (sLt x y) := by unfold sLt; infer_instance
theorem str_ext {x y : Str} (h : x.cps.toList = y.cps.toList) : x = y := by
  obtain ⟨a⟩ := x
  obtain ⟨b⟩ := y
  exact congrArg PySem.Str.mk (Array.toList_inj.mp h)
theorem sLt_irr (x : Str) : ¬ sLt x x := List.lt_irrefl _
theorem sLt_tr {x y z : Str} (h1 : sLt x y) (h2 : sLt y z) : sLt x z := List.lt_trans h1 h2
theorem sLt_tri (x y : Str) : sLt x y ∨ x = y ∨ sLt y x := by
  rcases Classical.em (sLt x y) with h | h
  · exact .inl h
  · rcases Classical.em (sLt y x) with h2 | h2
    · exact .inr (.inr h2)
    · refine .inr (.inl (str_ext ?_))
      exact List.le_antisymm (List.not_lt.mp h2) (List.not_lt.mp h)
def lexS (p q : Str × Int) : Bool := if p.1 = q.1 then decide (p.2 < q.2) else decide (sLt p.1 q.1)
theorem lexS_iff {p q : Str × Int} : lexS p q = true ↔ sLt p.1 q.1 ∨ (p.1 = q.1 ∧ p.2 < q.2) := by
  unfold lexS
  by_cases h : p.1 = q.1
  · rw [if_pos h]
    have : ¬ sLt p.1 q.1 := by rw [h]; exact sLt_irr _
    simp [h, sLt_irr]
  · rw [if_neg h]
    simp [h]
theorem lexS_no {p q : Str × Int} : lexS p q = false ↔ ¬ (sLt p.1 q.1 ∨ (p.1 = q.1 ∧ p.2 < q.2)) := by
  rw [← lexS_iff]
  cases lexS p q <;> simp
theorem lexS_tri {p q : Str × Int} (h : lexS p q = false) : sLt q.1 p.1 ∨ (p.1 = q.1 ∧ q.2 ≤ p.2) := by
  have n := lexS_no.mp h
  rcases sLt_tri p.1 q.1 with a | a | a
  · exact absurd (.inl a) n
  · exact .inr ⟨a, Int.not_lt.mp fun z => n (.inr ⟨a, z⟩)⟩
  · exact .inl a
theorem swo_lexS (k : Value → Str × Int) : Swo fun v u => lexS (k v) (k u) := by
  refine ⟨fun x y h => ?_, fun x y z h1 h2 => ?_⟩
  · have a := lexS_iff.mp h
    refine lexS_no.mpr fun b => ?_
    rcases a with a | ⟨a1, a2⟩
    · rcases b with b | ⟨b1, b2⟩
      · exact sLt_irr _ (sLt_tr a b)
      · rw [b1] at a; exact sLt_irr _ a
    · rcases b with b | ⟨b1, b2⟩
      · rw [a1] at b; exact sLt_irr _ b
      · omega
  · have a := lexS_tri h1
    have b := lexS_tri h2
    refine lexS_no.mpr fun c => ?_
    rcases a with a | ⟨a1, a2⟩
    · rcases b with b | ⟨b1, b2⟩
      · have d := sLt_tr a b
        rcases c with c | ⟨c1, c2⟩
        · exact sLt_irr _ (sLt_tr c d)
        · rw [c1] at d; exact sLt_irr _ d
      · rw [← b1] at a
        rcases c with c | ⟨c1, c2⟩
        · exact sLt_irr _ (sLt_tr c a)
        · rw [c1] at a; exact sLt_irr _ a
    · rcases b with b | ⟨b1, b2⟩
      · rw [a1] at b
        rcases c with c | ⟨c1, c2⟩
        · exact sLt_irr _ (sLt_tr c b)
        · rw [c1] at b; exact sLt_irr _ b
      · rcases c with c | ⟨c1, c2⟩
        · rw [b1, a1] at c; exact sLt_irr _ c
        · omega
section
variable {prog : Program} {w : World} {A : Around} {E : Value → Shared → Prop} {s : Shared}
theorem pairS_cmp {vs : List Value} {k : Value → Str × Int} (hp : ∀ v ∈ vs, IsPS s.heap v (k v).1 (k v).2) : Cmp prog w A s (tuples' true) (fun p => p.1 ∈ vs) (lt2 fun v u => lexS (k v) (k u)) := by
  intro p q hm hm'
  have h1 := hp _ hm
  have h2 := hp _ hm'
  show wpAny (model prog w) A (keyLt' (tuples' true) p.1 q.1) (fun r s' => s' = s ∧ r = lexS (k p.1) (k q.1)) (fun _ _ => False) s
  unfold lexS
  generalize (k p.1).1 = x at h1 ⊢
  generalize (k p.1).2 = y at h1 ⊢
  generalize (k q.1).1 = x' at h2 ⊢
  generalize (k q.1).2 = y' at h2 ⊢
  obtain ⟨a, o, t, u, n, e, ho, hc, hd⟩ := h1
  obtain ⟨a', o', t', u', n', e', ho', hc', hd'⟩ := h2
  rw [e, e']
  refine PySem.W.kat_lt ho hd ho' hd' ?_
  show PySem.W.KatLex prog w A true (decide (2 < 2)) _ [(.str x t, .str x' t'), (.int y u, .int y' u')] 0 s
  refine PySem.W.kat_cons (SeqAt.EqAt.str_str x t x' t' prog w _ _ ?_)
  refine PySem.W.kat_go (fun e1 => ?_) (fun e1 => ?_)
  · have ex : x = x' := by simpa using e1
    refine PySem.W.kat_yes (PySem.W.kat_cons (SeqAt.EqAt.int_int y u y' u' prog w _ _ ?_))
    refine PySem.W.kat_go (fun e2 => ?_) (fun e2 => ?_)
    · have ey : y = y' := by simpa using e2
      have e3 : (if x = x' then decide (y < y') else decide (sLt x x')) = false := by
        rw [if_pos ex, ey]
        exact decide_eq_false (Int.lt_irrefl _)
      exact PySem.W.kat_yes (PySem.W.kat_nil ⟨rfl, e3.symm⟩)
    · have e3 : (if x = x' then decide (y < y') else decide (sLt x x')) = decide (y < y') := if_pos ex
      refine PySem.W.kat_no (PyProof.Rows.oneLt_any_int ?_)
      exact (show s = s ∧ decide (y < y') = (if x = x' then decide (y < y') else decide (sLt x x')) from ⟨rfl, e3.symm⟩)
  · have ex : ¬ x = x' := by simpa using e1
    have e3 : (if x = x' then decide (y < y') else decide (sLt x x')) = decide (sLt x x') := if_neg ex
    refine PySem.W.kat_no (PyProof.Rows.oneLt_any_str ?_)
    exact (show s = s ∧ decide (x.cps.toList < x'.cps.toList) = (if x = x' then decide (y < y') else decide (sLt x x')) from ⟨rfl, e3.symm ▸ rfl⟩)
theorem pairsS_sortable {a : Addr} {vs : List Value} {k : Value → Str × Int} (h0 : 0 < vs.length) (hp : ∀ v ∈ vs, IsPS s.heap v (k v).1 (k v).2) (ha : ∀ o, s.heap.get? a = some o → o.cls ≠ .type "tuple") : SortableO prog w A s a vs fun v u => lexS (k v) (k u) := by
  intro h' keep
  have hp' : ∀ v ∈ vs, IsPS h' v (k v).1 (k v).2 := fun v hm => (hp v hm).keeps fun b o e c => keep b o (fun z => by subst z; exact ha o e c) e
  obtain ⟨fs, h1, h2, h3⟩ := firstsS fun v hm => ⟨_, _, hp' v hm⟩
  refine ⟨tuples' true, fun Q E hq => ?_, pairS_cmp hp'⟩
  refine PySem.W.kat_kind (T := .type "str") h1 (by omega) (fun f hm => ?_) (by rfl) ?_
  · obtain ⟨x, t, rfl⟩ := h3 f hm
    exact PySem.W.Looks.now
  · have e : (Value.type "str" != Value.type "tuple") = true := by first | decide +kernel | rfl | decide
    rw [e]
    exact hq
theorem sorted_pairsS {l : Addr} {vs : List Value} {k : Value → Str × Int} {Q : Value → Shared → Prop} (hl : s.heap.IsList l vs.toArray) (hz : vs.length ≤ sizeLine) (hp : ∀ v ∈ vs, IsPS s.heap v (k v).1 (k v).2)
    (h : ∀ (h' : Heap) (d : Addr) (out : List Value), Srtd (fun v u => lexS (k v) (k u)) out → Stb (fun v u => lexS (k v) (k u)) out vs → (∀ b o, s.heap.get? b = some o → h'.get? b = some o) → s.heap.objs.size ≤ d → (∃ n, h'.get? d = some (seqObj "list" out.toArray n)) → Q (.ref d) { s with heap := h' }) :
    wpAny (model prog w) A (call (.builtin "sorted") [.ref l]) Q E s := by
  refine sorted_ord (swo_lexS k) hl hz (fun h2 h₁ a ha kk => ?_) fun out hs hb => ?_
  · refine pairsS_sortable (s := { s with heap := h₁ }) (by omega) (fun v hm => (hp v hm).keeps fun b o e _ => (kk b o e).2) fun o e => ?_
    have e' : some o = some (seqObj "list" vs.toArray 0) := e.symm.trans ha
    cases e'
    intro c
    exact absurd (Value.type.inj c) (by decide)
  · exact h _ _ out hs hb (fun b o e => sortedAll_old e) (Nat.le_succ _) (sortedAll_at s.heap vs out.toArray)
end
end SrtS
namespace L2
open PySem PySem.Spec PyProof.Rows
def lexSLe (p q : PySem.Str × Int) : Prop := SrtS.sLt p.1 q.1 ∨ (p.1 = q.1 ∧ p.2 ≤ q.2)
def ltPS (k : V → PySem.Str × Int) : V → V → Bool := fun x y => SrtS.lexS (k x) (k y)
theorem ltPS_swo (k : V → PySem.Str × Int) : SrtO.Swo (ltPS k) := by
  have h := SrtS.swo_lexS
  refine ⟨fun x y => ?_, fun x y z => ?_⟩
  · exact (SrtS.swo_lexS (fun v : Value => match v with | .none => k x | _ => k y)).asym (Value.none) (Value.bool true)
  · exact (SrtS.swo_lexS (fun v : Value => match v with | .none => k x | .bool _ => k y | _ => k z)).tr (Value.none) (Value.bool true) (Value.type "x")
def rSortedPS (K : PySem.W.Frag) : List V → Hp → VK → Prop := fun vs H Q => ∃ (a : Addr) (xs : List V) (ps : List (PySem.Str × Int)), vs = [.ref a] ∧ SqL K H a xs ∧ xs.length = ps.length ∧ (∀ z ∈ xs.zip ps, ∃ t, z.1 = .ref t ∧ SqT K H t [.str z.2.1, .int z.2.2]) ∧
  ∀ (zs : List (V × (PySem.Str × Int))) (p : Addr), zs.Perm (xs.zip ps) → (zs.map (·.2)).Pairwise lexSLe → H p = none → Q (.ref p) (upd H p (.lst (zs.map (·.1))))
theorem zip_kS {k : V → PySem.Str × Int} : ∀ {xs : List V} {ps : List (PySem.Str × Int)}, xs.length = ps.length → (∀ z ∈ xs.zip ps, k z.1 = z.2) → xs.map (fun x => (x, k x)) = xs.zip ps
  | [], [], _, _ => rfl
  | x :: r, p :: s, hl, h => by
    rw [List.map_cons, List.zip_cons_cons, zip_kS (by simpa using hl) fun z hz => h z (List.mem_cons_of_mem _ hz)]
    rw [show k x = p from h (x, p) (List.mem_cons_self ..)]
section
variable {X : Cx}
open Classical in
theorem cr_sortedPS : CallR X (.builtin "sorted") (rSortedPS X.K) := by
  intro pins s σ H vs us Q I r h
  obtain ⟨a, xs, ps, rfl, hs, hl2, hx, q⟩ := h
  obtain ⟨k, hk⟩ : ∃ k : V → PySem.Str × Int, ∀ z ∈ xs.zip ps, k z.1 = z.2 := by
    refine ⟨fun v => (((xs.zip ps).find? fun z => decide (z.1 = v)).map (·.2)).getD (⟨#[]⟩, 0), fun z hz => ?_⟩
    cases hf : (xs.zip ps).find? fun z' => decide (z'.1 = z.1) with
    | none =>
      have := List.find?_eq_none.mp hf z hz
      simp at this
    | some z' =>
      have h1 := List.mem_of_find?_eq_some hf
      have h2 : z'.1 = z.1 := by have := List.find?_some hf; simpa using this
      obtain ⟨t, e1, q1⟩ := hx z hz
      obtain ⟨t', e2, q2⟩ := hx z' h1
      rw [h2, e1] at e2
      cases e2
      have e3 := I.tuple_inj q1 q2
      simp only [List.cons.injEq, V.int.injEq, V.str.injEq, and_true] at e3
      have e4 : z'.2 = z.2 := (Prod.ext e3.1 e3.2).symm
      show (((xs.zip ps).find? fun z' => decide (z'.1 = z.1)).map (·.2)).getD (⟨#[]⟩, 0) = z.2
      rw [hf]
      exact e4
  have hx' : ∀ x ∈ xs, ∃ t, x = V.ref t ∧ SqT X.K H t [.str (k x).1, .int (k x).2] := fun x hxm => by
    obtain ⟨i, hi, rfl⟩ := List.getElem_of_mem hxm
    have hz : (xs[i], ps[i]'(by omega)) ∈ xs.zip ps := by
      rw [List.mem_iff_getElem]
      exact ⟨i, by rw [List.length_zip]; omega, by rw [List.getElem_zip]⟩
    obtain ⟨t, e1, q1⟩ := hx _ hz
    have := hk _ hz
    exact ⟨t, e1, by rw [this]; exact q1⟩
  obtain ⟨its, rv, hl, hz⟩ := I.list hs
  obtain ⟨u, rfl, ru⟩ := vals1 r
  obtain rfl : u = Value.ref a := ru
  obtain ⟨e1, e2⟩ := refs_back rv fun x m => by
    obtain ⟨t, e, _⟩ := hx' x m
    exact ⟨t, e⟩
  refine SrtS.sorted_pairsS (k := fun u => k (backV u)) hl.isList (by rw [← rv.length]; exact hz) (fun v hv => ?_) fun h' d out h1 h2 kp hd hn => ?_
  · obtain ⟨t, rfl⟩ := e2 v hv
    have hm : V.ref t ∈ xs := by rw [e1]; exact List.mem_map.mpr ⟨_, hv, rfl⟩
    obtain ⟨t', e, ht⟩ := hx' _ hm
    cases e
    obtain ⟨its2, r2, ⟨o, ho, hc, n, hd⟩, _⟩ := I.tuple ht
    obtain ⟨u1, u2, rfl, ri, rj⟩ := vals2 r2
    obtain ⟨t1, rfl⟩ := ri
    obtain ⟨t2, rfl⟩ := rj
    exact ⟨t, o, t1, t2, n, rfl, ho, hc, hd⟩
  · have h3 : ∀ u ∈ out, ∃ a, u = Value.ref a := fun u hu => e2 u (h2.perm.mem_iff.mp hu)
    obtain ⟨n, hn⟩ := hn
    have hb : SrtO.Stb (ltPS k) (out.map backV) xs := by
      rw [e1]
      exact SrtO.Stb.map (ltPS_swo k) backV h2
    have hs2 : SrtO.Srtd (ltPS k) (out.map backV) := SrtO.srtd_map h1
    have em : ((out.map backV).map fun y => (y, k y)).map (·.1) = out.map backV := by rw [List.map_map]; simp
    refine ⟨.ref d, upd H d (.lst (out.map backV)), I.laid (t' := s.toks) kp hd ⟨?_, out, n, vals_back h3, hn⟩, rfl, ?_⟩
    · rw [hb.len]
      exact hz
    · have := q ((out.map backV).map fun y => (y, k y)) d (by rw [← zip_kS hl2 hk]; exact hb.perm.map _) (by
        rw [List.map_map, List.pairwise_map]
        refine List.Pairwise.imp ?_ hs2
        intro x y hxy
        have hn := SrtS.lexS_tri hxy
        show lexSLe (k x) (k y)
        unfold lexSLe
        rcases hn with z | ⟨z1, z2⟩
        · exact .inl z
        · exact .inr ⟨z1.symm, z2⟩) (I.hok.fresh hd)
      rw [em] at this
      exact this
end
end L2
namespace LP
open PySem L2
abbrev SI' := PySem.Str × Int
instance (p q : SI') : Decidable (lexSLe p q) := by unfold lexSLe; infer_instance
def insS (p : SI') : List SI' → List SI'
  | [] => [p]
  | q :: r => if lexSLe p q then p :: q :: r else q :: insS p r
def sortS : List SI' → List SI'
  | [] => []
  | p :: r => insS p (sortS r)
theorem insS_perm (p : SI') : ∀ xs, (insS p xs).Perm (p :: xs)
  | [] => .refl _
  | q :: r => by
    rw [insS]
    split
    · exact .refl _
    · exact ((insS_perm p r).cons q).trans (.swap p q r)
theorem sortS_perm : ∀ xs, (sortS xs).Perm xs
  | [] => .refl _
  | p :: r => (insS_perm p (sortS r)).trans ((sortS_perm r).cons p)
theorem lexSLe_trans {p q r : SI'} (h1 : lexSLe p q) (h2 : lexSLe q r) : lexSLe p r := by
  unfold lexSLe at *
  rcases h1 with a | ⟨a1, a2⟩
  · rcases h2 with b | ⟨b1, b2⟩
    · exact .inl (SrtS.sLt_tr a b)
    · rw [b1] at a; exact .inl a
  · rcases h2 with b | ⟨b1, b2⟩
    · rw [← a1] at b; exact .inl b
    · exact .inr ⟨a1.trans b1, by omega⟩
theorem lexSLe_total {p q : SI'} (h : ¬ lexSLe p q) : lexSLe q p := by
  unfold lexSLe at *
  rcases SrtS.sLt_tri p.1 q.1 with a | a | a
  · exact absurd (.inl a) h
  · exact .inr ⟨a.symm, by
      have : ¬ p.2 ≤ q.2 := fun z => h (.inr ⟨a, z⟩)
      omega⟩
  · exact .inl a
theorem lexSLe_anti {p q : SI'} (h1 : lexSLe p q) (h2 : lexSLe q p) : p = q := by
  unfold lexSLe at *
  rcases h1 with a | ⟨a1, a2⟩
  · rcases h2 with b | ⟨b1, b2⟩
    · exact absurd (SrtS.sLt_tr a b) (SrtS.sLt_irr _)
    · rw [b1] at a; exact absurd a (SrtS.sLt_irr _)
  · rcases h2 with b | ⟨b1, b2⟩
    · rw [a1] at b; exact absurd b (SrtS.sLt_irr _)
    · exact Prod.ext a1 (by omega)
theorem insS_srt (p : SI') : ∀ xs, xs.Pairwise lexSLe → (insS p xs).Pairwise lexSLe
  | [], _ => List.pairwise_singleton ..
  | q :: r, h => by
    rw [insS]
    obtain ⟨h1, h2⟩ := List.pairwise_cons.mp h
    split
    · next hp =>
      refine List.pairwise_cons.mpr ⟨fun x hx => ?_, h⟩
      rcases List.mem_cons.mp hx with rfl | hx
      · exact hp
      · exact lexSLe_trans hp (h1 x hx)
    · next hp =>
      refine List.pairwise_cons.mpr ⟨fun x hx => ?_, insS_srt p r h2⟩
      rcases List.mem_cons.mp ((insS_perm p r).mem_iff.mp hx) with rfl | hx
      · exact lexSLe_total hp
      · exact h1 x hx
theorem sortS_srt : ∀ xs, (sortS xs).Pairwise lexSLe
  | [] => .nil
  | p :: r => insS_srt p _ (sortS_srt r)
theorem srtS_uniq : ∀ {l m : List SI'}, l.Pairwise lexSLe → m.Pairwise lexSLe → l.Perm m → l = m
  | [], m, _, _, h => (List.Perm.eq_nil h.symm).symm
  | x :: l, [], _, _, h => absurd h.length_eq (by simp)
  | x :: l, y :: m, hl, hm, h => by
    obtain ⟨a1, a2⟩ := List.pairwise_cons.mp hl
    obtain ⟨b1, b2⟩ := List.pairwise_cons.mp hm
    have e : x = y := by
      have h1 : y ∈ x :: l := h.mem_iff.mpr (List.mem_cons_self ..)
      have h2 : x ∈ y :: m := h.mem_iff.mp (List.mem_cons_self ..)
      rcases List.mem_cons.mp h1 with z | z
      · exact z.symm
      · rcases List.mem_cons.mp h2 with w | w
        · exact w
        · exact lexSLe_anti (a1 y z) (b1 x w)
    subst e
    rw [srtS_uniq a2 b2 h.cons_inv]
def pS (p : SI') : T := .tup false [.str p.1, .int p.2]
def pairsS : List T → Option (List SI')
  | [] => some []
  | .tup false [.str a, .int b] :: r => match pairsS r with
    | some ps => some ((a, b) :: ps)
    | none => none
  | _ :: _ => none
theorem pairsS_map : ∀ ps : List SI', pairsS (ps.map pS) = some ps
  | [] => rfl
  | (a, b) :: r => by rw [List.map_cons]; unfold pS; rw [pairsS]; have := pairsS_map r; unfold pS at this; rw [this]
theorem pairsS_eq : ∀ {ts : List T} {ps : List SI'}, pairsS ts = some ps → ts = ps.map pS
  | [], ps, h => by cases h; rfl
  | .tup false [.str a, .int b] :: r, ps, h => by
    rw [pairsS] at h
    cases hr : pairsS r with
    | none => rw [hr] at h; cases h
    | some qs =>
      rw [hr] at h
      cases h
      rw [pairsS_eq hr]
      rfl
def sortST : List T → Option T
  | [.lst _ xs] => match pairsS xs with
    | some ps => some (.lst true ((sortS ps).map pS))
    | none => none
  | _ => none
section
variable {K : PySem.W.Frag} {F O : Hp}
theorem rls_pairsS : ∀ {vs : List V} {ps : List SI'} {f : List Addr}, Rls K F O vs (ps.map pS) f → vs.length = ps.length ∧ ∀ z ∈ vs.zip ps, Rl K F O z.1 (pS z.2) []
  | vs, [], f, h => by cases h; exact ⟨rfl, fun z hz => by cases hz⟩
  | vs, p :: r, f, h => by
    cases h with
    | cons h1 h2 =>
      obtain ⟨a, b⟩ := rls_pairsS h2
      refine ⟨by rw [List.length_cons, List.length_cons, a], fun z hz => ?_⟩
      rw [List.zip_cons_cons] at hz
      rcases List.mem_cons.mp hz with rfl | hz
      · exact h1.own0 (by simp [pS, T.fz, fzL])
      · exact b z hz
theorem pairsS_rls : ∀ {zs : List (V × SI')}, (∀ z ∈ zs, Rl K F O z.1 (pS z.2) []) → Rls K F O (zs.map (·.1)) ((zs.map (·.2)).map pS) []
  | [], _ => .nil
  | z :: r, h => .cons (f := []) (fs := []) (h z (List.mem_cons_self ..)) (pairsS_rls fun y hy => h y (List.mem_cons_of_mem _ hy))
theorem zip_sndS : ∀ {xs : List V} {ps : List SI'}, xs.length = ps.length → (xs.zip ps).map (·.2) = ps
  | [], [], _ => rfl
  | x :: r, p :: s, h => by rw [List.zip_cons_cons, List.map_cons, zip_sndS (by simpa using h)]
theorem sSortS : OSndN K (rSortedPS K) sortST := by
  intro F O xs as fa t d ha e Q q
  unfold sortST at e
  split at e
  · split at e
    · next ps hp =>
      cases e
      obtain ⟨v, g, rfl, h⟩ := ha.one
      obtain ⟨p, vs, fs, rfl, h1, r1⟩ := h.lstv d
      rw [pairsS_eq hp] at r1
      obtain ⟨l1, z1⟩ := rls_pairsS r1
      refine ⟨p, vs, ps, rfl, .inl (.inl h1), l1, fun z hz => ?_, fun zs p' hpm hs hn => ?_⟩
      · obtain ⟨p2, vs2, fs2, e2, h2, r2⟩ := (z1 z hz).tupv d
        refine ⟨p2, e2, ?_⟩
        cases r2 with
        | cons a1 a2 =>
          cases a1
          cases a2 with
          | cons a3 a4 =>
            cases a3
            cases a4
            exact h2
      · have e : zs.map (·.2) = sortS ps := srtS_uniq hs (sortS_srt ps) (((hpm.map (·.2)).trans (by rw [zip_sndS l1])).trans (sortS_perm ps).symm)
        have r3 := pairsS_rls (K := K) (F := F) (O := O) (zs := zs) fun z hz => z1 z (hpm.mem_iff.mp hz)
        rw [e] at r3
        exact q.newL d r3 p' hn
    · cases e
  · cases e
end
section
variable {K : PySem.W.Frag} {X : Cx} {e : Expr} {tas : TA} {eas : Ea} {pos p2 : Pos}
theorem xSortS (hg : Gl X "sorted") (hm : X.mg "sorted" = none) (ha : SA K X [e] tas eas) (hst : starEach [e] X.env = (false, eval e X.env) :: starEach [] X.env := by rfl) : SE K X (.Call (.Name "sorted" p2) [e] [] pos) (tCB (rSortedPS K) tas) (cON sortST eas) := by
  cases ha.k
  exact xB cr_sortedPS sSortS hg hm (by first | rfl | decide +kernel) ha (hst := hst) (hpl := by rfl)
end
/-! x or y by truth: x a list (none too) -/
def truL (t : T) : Option Bool := match t with
  | .non => some false
  | .lst _ xs => some (!xs.isEmpty)
  | _ => none
def cOrL (a b : Ev) : Ev := fun env => match a env with
  | some (o, e) => match vw e o with
    | some t => match truL t with
      | some true => some (o, e)
      | some false => b e
      | none => none
    | none => none
  | none => none
section
variable {K : PySem.W.Frag} {X : Cx} {a b : Expr} {es : List Expr} {ta tb : TE} {ea eb : Ev} {pos : Pos}
theorem eOrL (ha : ESnd K ta ea) (hb : ESnd K tb eb) : ESnd K (tOrT K ta tb) (cOrL ea eb) := by
  intro env o env' h σ F O f a0 Q q
  simp only [cOrL] at h
  split at h
  · next o1 e1 h1 =>
    split at h
    · next t hx =>
      refine ha _ _ _ h1 σ F O f a0 _ fun v F1 O1 fp1 f1 a1 s1 r1 => ?_
      obtain ⟨g1, w1, _⟩ := r1.view a1.e hx
      split at h
      · next ht =>
        cases h
        refine ⟨true, ?_, ?_⟩
        · unfold truL at ht
          split at ht
          · cases ht
          · next xs =>
            obtain ⟨p, vs, fs, rfl, h3, r3⟩ := w1.lstv a1.d
            refine .inl ⟨vs, .inl (.inl h3), ?_⟩
            have e1 : (!xs.isEmpty) = true := Option.some.inj ht
            cases r3 <;> exact e1.symm
          · cases ht
        · rw [if_pos rfl]
          exact q v F1 O1 fp1 f1 a1 s1 r1
      · next ht =>
        refine ⟨false, ?_, ?_⟩
        · unfold truL at ht
          split at ht
          · cases w1
            exact rfl
          · next xs =>
            obtain ⟨p, vs, fs, rfl, h3, r3⟩ := w1.lstv a1.d
            refine .inl ⟨vs, .inl (.inl h3), ?_⟩
            have e1 : (!xs.isEmpty) = false := Option.some.inj ht
            cases r3 <;> exact e1.symm
          · cases ht
        · rw [if_neg Bool.false_ne_true]
          exact hb _ _ _ h σ F1 O1 f1 a1.only _ fun v F2 O2 fp2 f2 a2 s2 r2 => q v F2 O2 fp2 f2 a2 (s1.snd.trans s2) r2
      · cases h
    · cases h
  · cases h
theorem xOrL (ha : SE K X a ta ea) (hb : SE K X (.BoolOp .Or (b :: es) pos) tb eb) : SE K X (.BoolOp .Or (a :: b :: es) pos) (tOrT K ta tb) (cOrL ea eb) := by
  cases ha.k
  exact ⟨pe_orT ha.p hb.p, eOrL ha.s hb.s, rfl⟩
@[simp] theorem cOrL_def (ea eb : Ev) (env : Env) : cOrL ea eb env = (ea env).bind fun p => (vw p.2 p.1).bind fun t => match truL t with
    | some true => some (p.1, p.2)
    | some false => eb p.2
    | none => none := by
  unfold cOrL
  cases ea env with
  | none => rfl
  | some p =>
    obtain ⟨o, e⟩ := p
    simp only [Option.bind_some]
    cases vw e o <;> rfl
@[simp] theorem truL_non : truL .non = some false := rfl
@[simp] theorem truL_lst (o : Bool) (xs : List T) : truL (.lst o xs) = some (!xs.isEmpty) := rfl
end
end LP
/-! for, the body may raise -/
namespace LP
open PySem L2
def loopX (g : Tg) (b : SX) : List T → Env → Option OutX
  | [], env => some (.ok (.nx env))
  | x :: r, env => match g x env with
    | some e1 => match b e1 with
      | some (.ok (.nx e2)) => loopX g b r e2
      | some (.ok (.ct e2)) => loopX g b r e2
      | some (.ok (.bk e2)) => some (.ok (.nx e2))
      | some (.ok (.rt t e2)) => some (.ok (.rt t e2))
      | some (.ex c e2) => some (.ex c e2)
      | none => none
    | none => none
def kFor (it : It) (g : Tg) (b : SX) : SX := fun env => match it env with
  | some (items, e) => loopX g b items e
  | none => none
section
variable {K : PySem.W.Frag} {mg : Str → Option Value} {pn : List Nat} {W : WX}
theorem sKFor {wi : TI} {it : It} {tg : TG} {g : Tg} {tb : TS} {b : SX} (hi : WSnd K wi it) (hg : GSnd K pn tg g) (hb : SndX K mg pn W tb b) : SndX K mg pn W (tFor wi tg tb) (kFor it g b) := by
  intro env out h σ F O f a0 D q
  simp only [kFor] at h
  split at h
  · next items e h1 =>
    refine hi _ _ _ h1 σ F O f a0 _ fun J F1 O1 f1 a1 s1 y => ?_
    have q1 := q.after s1 Same2.refl
    refine ⟨fun i m σ' H => ∃ env' F' O' f', H = jn F' O' ∧ m = items.length - i ∧ At K σ' F' O' env' [] f' ∧ Stp F1 O1 f1 F' O' f' ∧ Same2 pn σ σ' ∧ loopX g b (items.drop i) env' = some out, ⟨items.length, e, F1, O1, f1, rfl, rfl, a1, Stp.refl, Same2.refl, h⟩, ?_⟩
    rintro i m σ2 H ⟨env2, F2, O2, f2, rfl, rfl, a2, s2, p2, h2⟩
    obtain ⟨y1, y2⟩ := y F2 O2 s2.f a2.d i
    by_cases hl : items.length ≤ i
    · rw [List.drop_eq_nil_of_le hl] at h2
      simp only [loopX] at h2
      cases h2
      exact .inl ⟨y2 hl, q1 σ2 F2 O2 f2 a2 s2 p2⟩
    · have hlt : i < items.length := Nat.lt_of_not_le hl
      rw [List.drop_eq_getElem_cons hlt] at h2
      obtain ⟨go, yl⟩ := y1 _ (List.getElem?_eq_getElem hlt)
      refine .inr ⟨go, fun σ' H' => ∃ env' F' O' f', H' = jn F' O' ∧ At K σ' F' O' env' [] f' ∧ Stp F1 O1 f1 F' O' f' ∧ Same2 pn σ σ' ∧ loopX g b (items.drop (i + 1)) env' = some out, ?_, fun x H' yx => ?_⟩
      · rintro σ' H' ⟨env', F', O', f', rfl, b1, b2, b3, b4⟩
        exact ⟨items.length - (i + 1), by omega, env', F', O', f', rfl, rfl, b1, b2, b3, b4⟩
      · obtain ⟨F3, O3, rfl, d3, s3, r3⟩ := yl x H' yx
        simp only [loopX] at h2
        split at h2
        · next e3 h3 =>
          have a3 : At K σ2 F3 O3 env2 [] f2 := ⟨d3, a2.e.mono s3.f fun a z o e => s3.none_k a o e, a2.nd⟩
          have s23 : Stp F2 O2 f2 F3 O3 f2 := by
            have := s3.frame (hs := f2)
            rw [List.append_nil] at this
            exact this
          refine hg _ _ _ h3 x σ2 F3 O3 [] f2 a3 r3 _ fun σ4 F4 O4 f4 a4 s4 p4 => ?_
          have s14 : Stp F1 O1 f1 F4 O4 f4 := (s2.trans s23).trans s4
          have p14 : Same2 pn σ σ4 := p2.trans p4
          split at h2
          · next e4 h4 => exact hb _ _ h4 σ4 F4 O4 f4 a4 _ fun σ5 F5 O5 f5 a5 s5 p5 => ⟨e4, F5, O5, f5, rfl, a5, s14.trans s5, p14.trans p5, h2⟩
          · next e4 h4 => exact hb _ _ h4 σ4 F4 O4 f4 a4 _ fun σ5 F5 O5 f5 a5 s5 p5 => ⟨e4, F5, O5, f5, rfl, a5, s14.trans s5, p14.trans p5, h2⟩
          · next e4 h4 =>
            cases h2
            exact hb _ _ h4 σ4 F4 O4 f4 a4 _ fun σ5 F5 O5 f5 a5 s5 p5 => q1 σ5 F5 O5 f5 a5 (s14.trans s5) (p14.trans p5)
          · next t e4 h4 =>
            cases h2
            exact hb _ _ h4 σ4 F4 O4 f4 a4 _ fun v σ5 F5 O5 fp5 f5 a5 s5 r5 p5 => q1 v σ5 F5 O5 fp5 f5 a5 (s14.trans s5) r5 (p14.trans p5)
          · next c e4 h4 =>
            cases h2
            exact hb _ _ h4 σ4 F4 O4 f4 a4 _ fun σ5 F5 O5 f5 a5 s5 p5 => q1 σ5 F5 O5 f5 a5 (s14.trans s5) (p14.trans p5)
          · cases h2
        · cases h2
  · cases h
end
section
variable {K : PySem.W.Frag} {X : Cx} {pos : Pos} {pn : List Nat} {tg : Expr} {gg : TG} {g : Tg} {wi : TI} {it : It} {ts : WX → TS} {s : SX}
theorem PI.nox {tg iter : Expr} {wi : TI} (h : PI X.nox tg iter wi) : PI X tg iter wi := ⟨fun pins s σ H R I hw =>
  wpAny_mono (h.run pins s σ H R (I.wish _) hw) (fun v s1 q => wpAny_mono q (fun itv s2 ⟨it, fp, tn, J, H', e, I', T, z1, z2, z3⟩ => ⟨it, fp, tn, J, H', e, I'.unwish, T, z1, fun b hb => z2 b hb, z3⟩) fun _ _ z => False.elim z) fun _ _ z => False.elim z⟩
theorem yFor {iter : Expr} {body : List Stmt} (hi : SI K X.nox tg iter wi it) (hg : SG K X.nox pn tg gg g) (hb : SYs K X pn body ts s) (hc : X.calm = true := by rfl) (hs : ∀ x, foldedSetIterable iter X.env x = pure x := by intro _; rfl) :
    SY K X pn (.For tg iter body [] pos) (fun W => tFor wi gg (ts W)) (kFor it g s) := by
  cases hi.k
  exact ⟨fun W t po => ps_for po hc (PI.nox hi.p) (PG.nox hg.p) (hb.p W t po) hs, fun W => sKFor hi.s hg.s (hb.s W), rfl⟩
end
end LP
set_option maxRecDepth 100000
/-! LP: x[j].append(e), x[j][k] = e. -/
namespace LP
open PySem L2
section
variable {K : PySem.W.Frag} {X : Cx} {F O F' O' F1 O1 F2 O2 : Hp} {σ : L2.St} {env env' : Env} {f f1 f2 fp fp1 fp2 : List Addr} {pn : List Nat}
/-- x[j][k] = y, k a slot -/
def gIxN (i j m : Nat) : Tg := fun x env => match kidL env i j, env[m]? with
  | some (t, ts, xs), some (some (.int n)) => match ixN xs.length n with
    | some jj => some (env.set i (some (rekid t (ts.set j (.lst true (xs.set jj x))))))
    | none => none
  | _, _ => none
theorem tgIxN {i j m : Nat} : GSnd K pn (gSub (tOp (rIx K) (tVar i) (tC (.int (j : Nat)))) (tVar m) rSetL) (gIxN i j m) := by
  intro x env env' h v σ F O fp f a0 r Q q
  simp only [gIxN] at h
  split at h
  · next t ts xs n hx hm =>
    split at h
    · next jj hj =>
      cases h
      obtain ⟨k1, k2, k3⟩ := kidL_of hx
      obtain ⟨p, q0, vs, ws, gs, m1, m2, m3, m4, m5, rr, w⟩ := wrN a0 r.alloc k1 k2 k3
      obtain ⟨vm, _, g0, rm, _⟩ := a0.e.get hm
      cases rm
      refine nest_ix (ts := ts) m1 (jn_or m2) m4 ⟨.int n, g0, q0, ws, n, jj, rfl, rfl, jn_O m5, by rw [rr.len]; exact hj, ?_⟩
      obtain ⟨g2, r3, c3⟩ := rr.set (i := jj) r
      obtain ⟨f', a2, s2⟩ := w _ _ g2 r3 c3
      rw [upd_jn]
      exact q σ _ _ f' a2 s2 Same2.refl
    · cases h
  · cases h
/-- x[j].append(e): e does not name x -/
def cAppN (i j : Nat) (a : Ev) : Ev := fun env => match kidL env i j with
  | some (t, ts, xs) => match a (env.set i none) with
    | some (o, e1) => match e1[i]?, sto e1 o with
      | some none, some y => if y.fz && decide (xs.length < sizeLine) then some (.t .non, e1.set i (some (rekid t (ts.set j (.lst true (xs ++ [y])))))) else none
      | _, _ => none
    | none => none
  | none => none
theorem set_same {α : Type} {l : List α} {i : Nat} {v : α} (h : l[i]? = some v) : l.set i v = l := by
  refine List.ext_getElem? fun j => ?_
  rw [List.getElem?_set]
  split
  · next e =>
    subst e
    split
    · exact h.symm
    · next n => rw [List.getElem?_eq_none (by omega)] at h; cases h
  · rfl
theorem eAppN {i j : Nat} {te : TE} {a : Ev} (ha : ESnd K te a) : ESnd K (tBM K "list" rAppend (tOp (rIx K) (tVar i) (tC (.int (j : Nat)))) (tCons te tNil)) (cAppN i j a) := by
  intro env o env' h σ F O f a0 Q q
  simp only [cAppN] at h
  split at h
  · next t ts xs hx =>
    obtain ⟨k1, k2, k3⟩ := kidL_of hx
    split at h
    · next o1 e1 h1 =>
      split at h
      · next y hi hy =>
        split at h
        · next hz =>
          cases h
          simp only [Bool.and_eq_true, decide_eq_true_eq] at hz
          obtain ⟨p, q0, vs, ws, gs, m1, m2, m3, m4, m5, _, _⟩ := wrN a0 (fun a z => by cases z) k1 k2 k3
          refine nest_ix (ts := ts) m1 (jn_or m2) m4 ⟨ty_l (jn_O m5), ?_⟩
          obtain ⟨v, fpt, f0, g1, rt, e0, cnt⟩ := a0.e.out k1
          rw [m1] at g1
          cases g1
          have nd0 : Nd (fpt ++ f0) := a0.nd.sub fun a => by rw [List.nil_append, List.count_append]; have := cnt a; omega
          have ap : ∀ a ∈ fpt, a ∉ f0 := fun a z => nd0.apart z
          refine ha _ _ _ h1 σ F O f0 ⟨a0.d, e0, nd0.right⟩ _ fun y' F1 O1 fp1 f1 a1 s1 r1 => ?_
          have ry : Rl K F1 O1 y' y [] := (r1.store a1.e hy).own0 hz.1
          have kp : ∀ a ∈ fpt, ∀ u, O a = some u → O1 a = some u := fun a z u e => s1.k a u (ap a z) e
          have rt1 : Rl K F1 O1 (.ref p) t fpt := rt.mono s1.f kp
          have hp : p ∈ fpt := by
            cases rt with
            | lstO _ _ => exact List.mem_cons_self ..
            | tupO _ _ => exact List.mem_cons_self ..
            | _ => cases k2
          obtain ⟨f2, e2, c2⟩ := a1.e.set (i := i) rt1
          rw [set_same m1] at e2
          have nd1 : Nd (fpt ++ f1) := s1.snd.nd rt.alloc nd0 a1.nd.right
          have il : i < e1.length := (List.getElem?_eq_some_iff.mp hi).1
          have a2 : At K σ F1 O1 (e1.set i (some t)) [] f2 := ⟨a1.d, e2, nd1.sub fun a => by rw [List.nil_append, List.count_append]; have := c2 a; omega⟩
          have kk : (e1.set i (some t))[i]? = some (some t) := List.getElem?_set_self il
          obtain ⟨p2, q2, vs2, ws2, gs2, n1, n2, n3, n4, n5, n6, w⟩ := wrN a2 (fun a z => by cases z) kk k2 k3
          rw [m1] at n1
          cases n1
          have ev : vs = vs2 := by
            rcases m2 with m2 | m2 <;> rcases n2 with n2 | n2 <;> rw [kp p hp _ m2] at n2 <;> cases n2 <;> rfl
          subst ev
          rw [m4] at n4
          cases n4
          refine ⟨q0, ws2, y', rfl, rfl, jn_O n5, by rw [n6.len]; exact hz.2, ?_⟩
          rw [upd_jn]
          obtain ⟨f', a3, s3⟩ := w (ws2 ++ [y']) (xs ++ [y]) (gs2 ++ ([] ++ [])) (n6.append (.cons ry .nil)) fun a => by simp only [List.count_append, List.count_nil]; omega
          rw [List.set_set] at a3
          refine q .non _ _ [] f' a3 (Stp.trans ⟨s1.f, fun a u z e => s1.k a u (fun w => z ?_) e, fun a z => ?_, s1.g⟩ s3) .non
          · rw [mem_count] at w ⊢
            have := cnt a
            omega
          · have : a ∈ fpt ∨ a ∈ f1 := by
              rw [List.nil_append, mem_count] at z
              have := c2 a
              rw [mem_count, mem_count]
              omega
            rcases this with z2 | z2
            · refine .inl ?_
              rw [mem_count] at z2 ⊢
              have := cnt a
              omega
            · rcases s1.n a (List.mem_append_right _ z2) with z3 | z3
              · refine .inl ?_
                rw [mem_count] at z3 ⊢
                have := cnt a
                omega
              · exact .inr z3
        · cases h
      · cases h
    · cases h
  · cases h
end
end LP
namespace LP
open PySem L2
section
variable {K : PySem.W.Frag} {X : Cx} {a b : Expr} {te : TE} {ea : Ev} {pos p2 p3 p5 p6 : Pos} {pn : List Nat}
theorem xAppN {i j j4 : Nat} {p4 : Pos} {x : Str} (h : PE X (.Name x p2) (tVar i)) (ha : SE K X a te ea)
    (hst : starEach [a] X.env = (false, eval a X.env) :: starEach [] X.env := by rfl)
    (hbase : attributeBase (.Subscript (.Name x p2) (.Constant (.int (j : Nat)) j4 p4) p5) "append" X.env (eval (.Subscript (.Name x p2) (.Constant (.int (j : Nat)) j4 p4) p5) X.env) = eval (.Subscript (.Name x p2) (.Constant (.int (j : Nat)) j4 p4) p5) X.env := by rfl)
    (hfew : ((backTo pos (starEach [a] X.env)).all (fun x => !x.1) && (backToKw pos (keywordEach [] X.env)).all (fun x => x.1.isSome) && decide ([a].length + ([] : List Keyword).length + (if ([] : List Keyword).isEmpty then 0 else 1) < 30)) = true := by rfl)
    (hline : (p3.endLine == pos.line) = true := by rfl) :
    SE K X (.Call (.Attribute (.Subscript (.Name x p2) (.Constant (.int (j : Nat)) j4 p4) p5) "append" p3) [a] [] pos) (tBM K "list" rAppend (tOp (rIx K) (tVar i) (tC (.int (j : Nat)))) (tCons te tNil)) (cAppN i j ea) := by
  cases ha.k
  have h0 : SE X.K X (.Constant (.int (j : Nat)) j4 p4) (tC (.int (j : Nat))) (cK (.int (j : Nat))) := xInt
  have hx : SE X.K X (.Name x p2) (tVar i) (cV i) := xV h
  have h1 : SE X.K X (.Subscript (.Name x p2) (.Constant (.int (j : Nat)) j4 p4) p5) (tOp (rIx X.K) (tVar i) (tC (.int (j : Nat)))) (cO2 ixT (cV i) (cK (.int (j : Nat)))) := xIx hx h0
  exact ⟨pe_bm PySem.F.plainAttrs_list PySem.F.slot_list_append PySem.F.type_list_append mt_append h1.p (pa_cons ha.p pa_nil hst) hbase hfew hline hst (by rfl), eAppN ha.s, rfl⟩
theorem gIxN_ {i j j4 m : Nat} {p4 : Pos} {x y : Str} (h : PE X (.Name x p2) (tVar i)) (hy : PE X (.Name y p3) (tVar m)) (hk : X.K = K := by rfl)
    (ha : ∀ v, assign (.Subscript (.Subscript (.Name x p2) (.Constant (.int (j : Nat)) j4 p4) p5) (.Name y p3) pos) X.env v = (do
      let ov ← holding [v] (eval (.Subscript (.Name x p2) (.Constant (.int (j : Nat)) j4 p4) p5) X.env)
      let iv ← holding [v, ov] (eval (.Name y p3) X.env)
      standAt pos
      holding [v, ov, iv] (setItem ov iv v)
      release [v, ov, iv] []) := by intro _; rfl) : SG K X pn (.Subscript (.Subscript (.Name x p2) (.Constant (.int (j : Nat)) j4 p4) p5) (.Name y p3) pos) (gSub (tOp (rIx K) (tVar i) (tC (.int (j : Nat)))) (tVar m) rSetL) (gIxN i j m) := by
  cases hk
  have h0 : SE X.K X (.Constant (.int (j : Nat)) j4 p4) (tC (.int (j : Nat))) (cK (.int (j : Nat))) := xInt
  have hx : SE X.K X (.Name x p2) (tVar i) (cV i) := xV h
  have h1 : SE X.K X (.Subscript (.Name x p2) (.Constant (.int (j : Nat)) j4 p4) p5) (tOp (rIx X.K) (tVar i) (tC (.int (j : Nat)))) (cO2 ixT (cV i) (cK (.int (j : Nat)))) := xIx hx h0
  exact ⟨pg_sub h1.p hy set_list ha, tgIxN, rfl⟩
end
end LP
set_option maxRecDepth 100000
/-! LP: sorted(set(texts)). -/
namespace STx
open PySem PySem.Spec PyProof.Rows L2 Froz
/-- the payload D holds just the texts l, unlike, and can be walked -/
structure Good (P : Program) (w : World) (D : SD) (l : List Str) : Prop where
  ok : TxOk P w D l
  nd : l.Nodup
  ris : Ris D.2.2.place.toList
  led : w.params.followText "set-order" = true ∨ D.2.2.led = true
section
variable {P : Program} {w : World} {A : Around} {E : Value → Shared → Prop} {s : Shared} {D : SD} {l : List Str} {k : Str} {u : Tok}
theorem tail_rl {Z : Prop} {ep : Nat} {es : Array (Int × Value)} {t : SetTable} {b : Bool} (r : Ris t.place.toList) (z : Z ∨ t.led = true) :
    Ris (tailTx ep es t b).2.2.place.toList ∧ (Z ∨ (tailTx ep es t b).2.2.led = true) := by
  unfold tailTx
  by_cases c : (!b && t.tooFull) = true
  · rw [if_pos c]
    refine ⟨relayAll_ris t es _, z.imp id fun y => ?_⟩
    show (relayAll t es _).2.1.led = true
    rw [relayAll_led]
    exact y
  · rw [if_neg c]
    exact ⟨r, z⟩
theorem Good.add (G : Good P w D l) (hk : k ∉ l) : Good P w (addTx (hashStr w k) (.str k u) D) (k :: l) := by
  have r := layNew_ris D.2.2 D.1 (hashStr w k) (.str k u) G.ris
  have z : w.params.followText "set-order" = true ∨ (layNew D.2.2 D.1 (hashStr w k) (.str k u)).2.1.led = true := by
    rw [layNew_led]
    exact G.led
  have q : Ris (addTx (hashStr w k) (.str k u) D).2.2.place.toList ∧ (w.params.followText "set-order" = true ∨ (addTx (hashStr w k) (.str k u) D).2.2.led = true) := by
    unfold addTx
    refine tail_rl ?_ ?_
    · split <;> exact r
    · split <;> exact z
  exact ⟨add_ok u G.ok, List.nodup_cons.mpr ⟨hk, G.nd⟩, q.1, q.2⟩
/-- a text that is there is added again -/
theorem dup_x {a : Addr} {T : String} {Q : Bool → Shared → Prop} (ho : s.heap.get? a = some (sObj T D)) (G : TxOk P w D l) (hk : k ∈ l) (hb : l.length < scanBound) (h : Q false s) :
    wpAny (model P w) A (setAddHashed a (.str k u) (hashStr w k)) Q E s := by
  obtain ⟨es, ep, t⟩ := D
  have e0 : (sObj T (es, ep, t)).data = .set es ep t := rfl
  have e1 : es.size < scanBound := by have := G.sz; simp only at this; omega
  obtain ⟨e, he, q⟩ := (G.mem k).mp hk
  unfold setAddHashed setAddHashedIn
  refine wpAny_holding (wpAny_bind (wpAny_setState_of ho e0 G.fit ?_))
  dsimp only
  rw [byScan_of rfl e1 G.el]
  simp only [↓reduceIte]
  unfold setAddByScan
  refine wpAny_bind (wpAny_bind (wpAny_rule (wpAny_bind (wpAny_setScan_of (knd := strKind P w) (k := k) (is_str k u) ho e0 G.fit G.el ?_))))
  cases hf : List.findIdx? (fun e => (strKind P w).is k e.2) es.toList with
  | none =>
    have c := List.findIdx?_eq_none_iff.mp hf e he
    rw [q] at c
    cases c
  | some j =>
    dsimp only
    exact wpAny_pure (wpAny_pure h)
end
section
variable {P : Program} {w : World} {A : Around}
theorem upd_loop {I : Addr} {fp wr : List Addr} {G : Array GenState → Array GenState → Prop} {n : Nat} {Pv : Nat → Value → Prop} {St : Nat → Shared → Prop} {R : Result → Shared → Prop}
    (W : WalksS P w A.in1 I fp wr G n Pv St) (S : Addr) (hSf : S ∉ fp) (xs : List Str) (hn : n = xs.length) (hb : xs.length + 1 < scanBound) (hval : ∀ i v, Pv i v → ∃ k t, xs[i]? = some k ∧ v = .str k t) :
    ∀ (m i : Nat) (s : Shared) (D : SD) (l : List Str), n - i = m → i ≤ n → St i s → s.heap.get? S = some (sObj "set" D) → Good P w D l → l.length ≤ i → (∀ x, x ∈ l ↔ x ∈ xs.take i) →
      (∀ s' D' l', Moved (S :: wr) G s s' → s'.heap.get? S = some (sObj "set" D') → Good P w D' l' → l'.length ≤ n → (∀ x, x ∈ l' ↔ x ∈ xs) → R (.ok (.ret .none)) s') →
      codeAny (model P w) A (.builtin "set.update.loop" ⟨[.ref S, .ref I], []⟩) R s := by
  have nw : S ∉ wr := fun z => hSf (W.sub _ z)
  have sb : ∀ b ∈ wr, b ∈ S :: wr := fun b z => List.mem_cons_of_mem _ z
  intro m
  induction m with
  | zero =>
    intro i s D l hm hi hst ho g hl hx hR
    obtain rfl : i = n := by omega
    refine codeAny_builtin F.entry_set_update_loop ?_
    rw [Around.under_plainId F.plain_set_update_loop _]
    show wpAny _ A.in1 (pyNext (.ref I) >>= _) _ _ s
    refine wpAny_bind (W.done s _ _ hst fun s' mv => ?_)
    show wpAny _ A.in1 (ret Value.none) _ _ s'
    refine wpAny_pure (hR s' D l (mv.mono sb) (mv.heap S _ nw ho) g hl fun x => ?_)
    rw [hx x, List.take_of_length_le (by omega)]
  | succ m ih =>
    intro i s D l hm hi hst ho g hl hx hR
    have lt : i < n := by omega
    refine codeAny_builtin F.entry_set_update_loop ?_
    rw [Around.under_plainId F.plain_set_update_loop _]
    show wpAny _ A.in1 (pyNext (.ref I) >>= _) _ _ s
    refine wpAny_bind (W.item i s _ _ lt hst fun v s' hP hst' mv => ?_)
    obtain ⟨z, t, hz, rfl⟩ := hval i v hP
    have ho' := mv.heap S _ nw ho
    show wpAny _ A.in1 (holding [Value.str z t] (setAdd S (.str z t)) >>= _) _ _ s'
    refine wpAny_bind (wpAny_holding ?_)
    unfold setAdd
    refine wpAny_holding ?_
    refine wpAny_bind ((PySem.strKind P w).pyHash (k := z) (strKind_is _ _ _ _) ?_)
    have tk : xs.take (i + 1) = xs.take i ++ [z] := by rw [List.take_add_one, hz] <;> rfl
    have go : ∀ (h' : Heap) (D' : SD) (l' : List Str), (∀ b, b ≠ S → h'.get? b = s'.heap.get? b) → h'.get? S = some (sObj "set" D') → Good P w D' l' → l'.length ≤ i + 1 → (∀ x, x ∈ l' ↔ x ∈ xs.take (i + 1)) →
        codeAny (model P w) A (.builtin "set.update.loop" ⟨[.ref S, .ref I], []⟩) R { s' with heap := h', toks := s'.toks + 1 } := fun h' D' l' k1 k2 k3 k4 k5 => by
      refine ih (i + 1) _ D' l' (by omega) lt (W.frame _ s' _ _ hst' (Nat.le_succ _) fun b hb o e => ?_) k2 k3 k4 k5 fun s2 D2 l2 m2 => ?_
      · rw [k1 b fun h : b = S => hSf (h ▸ hb)]
        exact e
      · refine hR s2 D2 l2 (Moved.trans W.gtrans ((mv.mono sb).then_heap (Nat.le_succ _) fun b o hb e => ?_) m2)
        rw [k1 b fun h : b = S => hb (h ▸ List.mem_cons_self)]
        exact e
    by_cases hk : z ∈ l
    · refine dup_x (s := { s' with toks := s'.toks + 1 }) ho' g.ok hk (by omega) ?_
      refine wpAny_pure ⟨plainId_quiet F.plain_set_update_loop _, go s'.heap D l (fun _ _ => rfl) ho' g (by omega) fun x => ?_⟩
      rw [tk, hx x, List.mem_append, List.mem_singleton]
      exact ⟨.inl, fun y => y.elim id fun y => y ▸ (hx z).mp hk⟩
    · refine add_x (s := { s' with toks := s'.toks + 1 }) ho' g.ok hk (by omega) ?_
      refine wpAny_pure ⟨plainId_quiet F.plain_set_update_loop _, go _ _ (z :: l) (fun b hb => Heap.get?_update_other _ _ (Ne.symm hb)) (get_upd _ ho' rfl) (g.add hk) (by rw [List.length_cons]; omega) fun x => ?_⟩
      rw [tk, List.mem_cons, hx x, List.mem_append, List.mem_singleton]
      exact Or.comm
end
end STx
namespace STx
open PySem PySem.Spec PyProof.Rows L2 Froz
section
variable {P : Program} {w : World} {A : Around} {E : Value → Shared → Prop} {s : Shared}
def new0 (w : World) : SD := (#[], 0, .fresh 0 0 (!w.params.followText "set-order"))
theorem good0 : Good P w (new0 w) [] := by
  refine ⟨TxOk.nil (by rfl), List.nodup_nil, List.Pairwise.nil, ?_⟩
  show _ ∨ (!w.params.followText "set-order") = true
  cases w.params.followText "set-order"
  · exact .inr rfl
  · exact .inl rfl
set_option maxHeartbeats 3200000 in
theorem call_set_txt {l : Addr} {items : Array Value} (xs : List Str) {Q : Value → Shared → Prop} (hh : A.handled = none) (hl : s.heap.IsList l items) (hit : StrsAre items.toList xs) (hb : xs.length + 1 < scanBound)
    (h : ∀ (h' : Heap) (tk : Nat) (D : SD) (L : List Str), h'.get? s.heap.objs.size = some (sObj "set" D) → Good P w D L → L.length ≤ xs.length → (∀ x, x ∈ L ↔ x ∈ xs) → (∀ b o, s.heap.get? b = some o → h'.get? b = some o) →
      Q (.ref s.heap.objs.size) { s with heap := h', toks := tk }) :
    wpAny (model P w) A (call (.type "set") [.ref l]) Q E s := by
  have isz : items.size = xs.length := by rw [← StrsAre.len_eq hit, Array.length_toList]
  obtain ⟨c1, c2, q1⟩ := F.called_set.mro
  have q2 := F.called_set.made
  have q3 := F.called_set.sub
  refine wpAny_call (codeAny_of_tree ?_)
  show wpAny _ _ (callAny (.type "set") _) _ _ _
  refine wpAny_pure ⟨Code.quiet_builtin _ (by decide +kernel), codeAny_builtin F.entry_type_call ?_⟩
  rw [Around.under_plain (weight_type_call_type "set" [.ref l] []) rfl]
  have q4 := F.called_set.notType
  have q5 := F.called_set.canCreate
  have q6 := F.typeCall_set_1 (.ref l)
  repeat (any_goals (first | assumption | wp_step))

  refine codeAny_mono (code_set_led1 (.ref l) (E := E) (Q₁ := fun v s₁ => v = .ref s.heap.objs.size ∧ s₁ = { s with heap := s.heap.push (sObj "set" (new0 w)) }) ⟨rfl, rfl⟩) fun r s₁ hr => ?_
  cases r with
  | error e => exact hr
  | ok fl =>
    cases fl with
    | ret obj =>
      obtain ⟨rfl, rfl⟩ := hr
      have hS : (s.heap.push (sObj "set" (new0 w))).get? s.heap.objs.size = some (sObj "set" (new0 w)) := Heap.get?_push_size _ rfl
      have hT : Shared.TypeIs { s with heap := s.heap.push (sObj "set" (new0 w)) } (.ref s.heap.objs.size) "set" := ⟨_, hS, rfl⟩
      have q7 := F.called_set.init.lookup
      have q8 := F.called_set.init.bind (.ref s.heap.objs.size)
      repeat (any_goals (first | assumption | wp_step))

      refine codeAny_mono (codeAny_call_builtin (R := wants (fun r s₂ => r = .none ∧ ∃ h' tk D L, s₂ = { s with heap := h', toks := tk } ∧ h'.get? s.heap.objs.size = some (sObj "set" D) ∧ Good P w D L ∧ L.length ≤ xs.length ∧ (∀ x, x ∈ L ↔ x ∈ xs) ∧
          (∀ b o, s.heap.get? b = some o → h'.get? b = some o)) E) F.called_set.init.plain F.entry_set_init (check_set_init_1 hT ?_)) fun r₂ s₂ hr₂ => ?_
      · obtain ⟨ol, hol, hcl, nl, hdl⟩ := hl
        obtain ⟨ocls, odict, odata, oslots⟩ := ol
        simp only at hcl hdl
        subst hcl; subst hdl
        have hol' : (s.heap.push (sObj "set" (new0 w))).get? l = some { cls := .type "list", dict := odict, data := .seq items nl, slots := oslots } := Heap.get?_push_of_some _ hol
        have n1 := F.sub_list_set
        have n2 := F.sub_list_frozenset
        have n3 : (Value.type "list" == Value.type "dict") = false := by decide
        have hl1 : (s.heap.push (sObj "set" (new0 w))).IsList l items := ⟨_, hol', rfl, nl, rfl⟩
        unfold Builtin.«set.__init__» noKeywords Builtin.Frozenset.updateFrom
        generalize hPI : pyIter = PI
        wp_walk
        subst hPI

        refine wpAny_pyIter_list hl1 ?_
        refine wpAny_bind (wpAny_runValue ?_)
        have ll : l < s.heap.objs.size := Heap.lt_size hol
        have hh3 : A.in1.in1.in1.handled = none := by simp [hh]
        have sz1 : (s.heap.push (sObj "set" (new0 w))).objs.size = s.heap.objs.size + 1 := Heap.size_push ..
        have nI : l ≠ (s.heap.push (sObj "set" (new0 w))).objs.size := by rw [sz1]; exact Nat.ne_of_lt (Nat.lt_succ_of_lt ll)
        have nS : s.heap.objs.size ∉ [(s.heap.push (sObj "set" (new0 w))).objs.size, l] := by
          rw [sz1]
          intro z
          rcases List.mem_cons.mp z with z | z
          · exact absurd z (Nat.ne_of_lt (Nat.lt_succ_self s.heap.objs.size))
          · have z2 := List.mem_singleton.mp z
            rw [← z2] at ll
            exact Nat.lt_irrefl _ ll
        have hval : ∀ (i : Nat) (v : Value), items[i]? = some v → ∃ k t, xs[i]? = some k ∧ v = .str k t := fun i v hv => by
          have hi : i < xs.length := by rw [← isz]; exact (Array.getElem?_eq_some_iff.mp hv).1
          obtain ⟨t, e⟩ := SS.strs_at hit i v (by rw [Array.getElem?_toList]; exact hv)
          refine ⟨xs[i], t, List.getElem?_eq_getElem hi, ?_⟩
          rw [e, List.getD_eq_getElem?_getD, List.getElem?_eq_getElem hi] <;> rfl
        refine upd_loop ((Walks.list hh3 _ l nI items).toS) s.heap.objs.size nS xs isz hb hval (items.size - 0) 0 _ (new0 w) [] (by omega) (Nat.zero_le _)
          ⟨⟨_, Heap.get?_push_size _ rfl, rfl, rfl⟩, (hl1.push _)⟩ (Heap.get?_push_of_some _ hS) good0 (Nat.le_refl _) (fun x => by simp) fun s' D' L' mv hS' g' hl' hx' => ?_
        obtain ⟨h', g2, d', tk', os'⟩ := s'
        have eg : g2 = s.gens := mv.gens
        have ed : d' = s.drawn := mv.drawn
        have eo : os' = s.os := mv.os
        subst eg; subst ed; subst eo
        show wpAny _ _ _ _ _ _
        refine wpAny_pure ?_
        show wpAny _ _ (ret Value.none) _ _ _
        refine wpAny_pure ⟨rfl, h', tk', D', L', rfl, hS', g', by rw [← isz]; exact hl', hx', fun b o e => ?_⟩
        have b0 : b < s.heap.objs.size := Heap.lt_size e
        refine mv.heap b o (fun z => ?_) (Heap.get?_push_of_some _ (Heap.get?_push_of_some _ e))
        rcases List.mem_cons.mp z with z | z
        · rw [z] at b0
          exact Nat.lt_irrefl _ b0
        · have z2 := List.mem_singleton.mp z
          rw [sz1] at z2
          rw [z2] at b0
          exact Nat.not_succ_lt_self b0

      · cases r₂ with
        | error e => exact hr₂
        | ok fl₂ =>
          cases fl₂ with
          | ret r =>
            obtain ⟨rfl, h', tk, D', L', rfl, a1, a2, a3, a4, a5⟩ := hr₂
            repeat (any_goals (first | assumption | wp_step))
            exact h _ _ _ _ a1 a2 a3 a4 a5
          | _ => exact hr₂.elim
    | _ => exact hr.elim
/-- the texts of the entries -/
theorem strs_of : ∀ (l : List Value), (∀ v ∈ l, ∃ k t, v = Value.str k t) → ∃ xs : List Str, StrsAre l xs
  | [], _ => ⟨[], .nil⟩
  | v :: r, h => by
    obtain ⟨k, t, rfl⟩ := h v (List.mem_cons_self ..)
    obtain ⟨xs, z⟩ := strs_of r fun u hu => h u (List.mem_cons_of_mem _ hu)
    exact ⟨k :: xs, .cons k t z⟩
theorem strs_mem : ∀ {l : List Value} {xs : List Str}, StrsAre l xs → ∀ k, k ∈ xs ↔ ∃ t, Value.str k t ∈ l
  | _, _, .nil => fun k => by simp
  | _, _, .cons x t z => fun k => by
    rw [List.mem_cons, strs_mem z k]
    constructor
    · rintro (rfl | ⟨u, hu⟩)
      · exact ⟨t, List.mem_cons_self ..⟩
      · exact ⟨u, List.mem_cons_of_mem _ hu⟩
    · rintro ⟨u, hu⟩
      rcases List.mem_cons.mp hu with e | e
      · cases e
        exact .inl rfl
      · exact .inr ⟨u, e⟩
theorem perm_of : ∀ {l m : List Str}, l.Nodup → (∀ k ∈ l, k ∈ m) → m.length ≤ l.length → l.Perm m
  | [], m, _, _, h => by
    cases m with
    | nil => exact List.Perm.refl _
    | cons x r => simp at h
  | x :: r, m, nd, hs, h => by
    obtain ⟨n1, n2⟩ := List.nodup_cons.mp nd
    have hx := hs x (List.mem_cons_self ..)
    have p := List.perm_cons_erase hx
    have e := List.length_erase_of_mem hx
    have h2 : (m.erase x).length ≤ r.length := by
      rw [List.length_cons] at h
      omega
    exact ((perm_of n2 (fun k hk => (List.mem_erase_of_ne fun (z : k = x) => n1 (z ▸ hk)).mpr (hs k (List.mem_cons_of_mem _ hk))) h2).cons x).trans p.symm
theorem sorted_txt {a : Addr} {D : SD} {L : List Str} {Q : Value → Shared → Prop} (ho : s.heap.get? a = some (sObj "set" D)) (G : Good P w D L) (hh : A.handled = none) (h64 : L.length < 64)
    (hQ : ∀ s' p (out : Array Value) (c : Nat) (ys : List Str), (∀ b o, s.heap.get? b = some o → s'.heap.get? b = some o) → s'.gens = s.gens → s'.os = s.os → s.heap.objs.size ≤ p →
      s'.heap.get? p = some (seqObj "list" out c) → StrsAre out.toList ys → ys.Perm L → sortedS ys = true → Q (.ref p) s') :
    wpAny (model P w) A (call (.builtin "sorted") [.ref a]) Q E s := by
  obtain ⟨es, ep, t⟩ := D
  have esz : es.size = L.length := G.ok.sz
  refine Calls.call_function_entry kind_sorted plain_sorted entry_sorted (args_sorted1 _) ?_
  unfold Builtin.«sorted»
  refine wpAny_bind (m := checkCount "sorted" 1 1 _) (wpAny_pure ?_)
  refine wpAny_bind (collect_set (A := A.in1) hh ⟨_, ho, rfl, rfl⟩ G.ok.fit (by show es.size < scanBound; unfold scanBound; omega) G.ris G.led fun s1 vs k1 hz g1 o1 pm => ?_)
  have hvl : vs.length = L.length := by rw [pm.length_eq, List.length_map, Array.length_toList]; exact esz
  have hv : ∀ v ∈ vs, ∃ k t, v = Value.str k t := fun v hv => by
    obtain ⟨e, he, q⟩ := List.mem_map.mp (pm.mem_iff.mp hv)
    obtain ⟨⟨k, h1, _⟩, _⟩ := G.ok.el e he
    have : ∃ t, e.2 = Value.str k t := by
      revert h1
      show Value.isStrOf k e.2 = true → _
      cases e.2 <;> simp [Value.isStrOf]
    obtain ⟨t, ht⟩ := this
    exact ⟨k, t, q ▸ ht⟩
  obtain ⟨xs, hx⟩ := strs_of vs hv
  have xl : xs.length = L.length := by rw [← StrsAre.len_eq hx]; exact hvl
  have xm : ∀ k, k ∈ xs ↔ k ∈ L := fun k => by
    rw [strs_mem hx k, G.ok.mem k]
    constructor
    · rintro ⟨t, ht⟩
      obtain ⟨e, he, q⟩ := List.mem_map.mp (pm.mem_iff.mp ht)
      exact ⟨e, he, by rw [q]; exact is_str k t⟩
    · rintro ⟨e, he, q⟩
      have : ∃ t, e.2 = Value.str k t := by
        revert q
        show Value.isStrOf k e.2 = true → _
        cases e.2 <;> simp [Value.isStrOf]
      obtain ⟨t, ht⟩ := this
      exact ⟨t, pm.mem_iff.mpr (List.mem_map.mpr ⟨e, he, ht⟩)⟩
  have xp : xs.Perm L := (perm_of G.nd (fun k hk => (xm k).mpr hk) (by omega)).symm
  refine wpAny_bind (wpAny_newList ?_ (by rw [hvl, sizeLine_eq]; omega))
  have hoL : (s1.heap.push (seqObj "list" vs.toArray 0)).get? s1.heap.objs.size = some (seqObj "list" vs.toArray 0) := Heap.get?_push_size _ rfl
  refine wpAny_bind (wpAny_holding (wpAny_call_entry slot_list_sort ⟨_, hoL, rfl⟩ entry_list_sort
    (list_sort_treeK strKind_oneLt hoL hx.keysOf (fun v₁ v₂ rest e => keyKind_strs (by rw [← e]; exact hx)) (by rw [hvl]; exact h64) fun st' hp hs => ⟨_, rfl, ?_⟩) (args_list_sort _)))
  obtain ⟨ys, b1, b2, b3⟩ := sorted_out_str hx hp hs
  obtain ⟨c, hc⟩ := sortedHeap_at (vs := vs) (out := (arrOf st').map (·.2)) hoL
  refine wpAny_pure ⟨_, rfl, hQ _ s1.heap.objs.size _ c ys (fun b u e => ?_) g1 o1 hz hc b1 (b2.trans xp) b3⟩
  have q := k1 b u e
  have lt := Heap.lt_size q
  show (sortedHeap (s1.heap.push (seqObj "list" vs.toArray 0)) s1.heap.objs.size vs _).get? b = some u
  rw [sortedHeap_old (Nat.ne_of_lt lt) (by rw [size_push']; exact Nat.lt_succ_of_lt lt)]
  exact Heap.get?_push_of_some _ q
end
end STx
namespace L2
open PySem PySem.Spec PyProof.Rows
/-- sorted(set(xs)), xs a list of texts -/
def rSortSet (K : PySem.W.Frag) : List V → Hp → VK → Prop := fun vs H Q => ∃ (l : Addr) (xs : List PySem.Str), vs = [.ref l] ∧ SqL K H l (xs.map V.str) ∧ xs.length < 64 ∧
  ∀ (ys : List PySem.Str) (p : Addr), ys.Pairwise SrtS.sLt → (∀ k, k ∈ ys ↔ k ∈ xs) → H p = none → Q (.ref p) (upd H p (.lst (ys.map V.str)))
theorem rising_pw : ∀ {l : List PySem.Str} {p : PySem.Str}, risingS p l = true → (p :: l).Nodup → (p :: l).Pairwise SrtS.sLt
  | [], p, _, _ => List.pairwise_singleton ..
  | x :: r, p, h, nd => by
    unfold risingS at h
    rw [Bool.and_eq_true] at h
    obtain ⟨n1, n2⟩ := List.nodup_cons.mp nd
    have q := rising_pw h.2 n2
    have e : SrtS.sLt p x := by
      have h1 := h.1
      rw [ltCps_eq] at h1
      rcases SrtS.sLt_tri p x with z | z | z
      · exact z
      · exact absurd (z ▸ List.mem_cons_self ..) n1
      · have : decide (x.cps.toList < p.cps.toList) = true := decide_eq_true z
        rw [this] at h1
        cases h1
    refine List.pairwise_cons.mpr ⟨fun y hy => ?_, q⟩
    rcases List.mem_cons.mp hy with rfl | hy
    · exact e
    · exact SrtS.sLt_tr e ((List.pairwise_cons.mp q).1 y hy)
theorem sorted_pw {l : List PySem.Str} (h : sortedS l = true) (nd : l.Nodup) : l.Pairwise SrtS.sLt := by
  cases l with
  | nil => exact .nil
  | cons x r => exact rising_pw h nd
section
variable {X : Cx} {a : Expr} {ta : TE} {p p2 q pos : Pos}
theorem pe_sortSet (hc : X.calm = true) (hg : Gl X "sorted") (hm : X.mg "sorted" = none) (hg2 : Gl X "set") (hm2 : X.mg "set" = none) (ha : PE X a ta)
    (na : starEach [a] X.env = (false, eval a X.env) :: starEach [] X.env := by rfl) : PE X (.Call (.Name "sorted" p) [.Call (.Name "set" p2) [a] [] q] [] pos) (tCB (rSortSet X.K) (tCons ta tNil)) := by
  refine ⟨fun pins s σ H Q I h => ?_⟩
  refine Call_ (ld_blt I hg hm (by first | rfl | decide +kernel) ?_)
  refine PyProof.Rows.callWith_builtin1 (PyProof.Rows.args_cons ?_ rfl) rfl rfl
  refine Call_ (ld_blt I hg2 hm2 PyProof.Rows.boot_set ?_)
  refine PyProof.Rows.callWith_type1 (PyProof.Rows.args_cons (thn (ha.run pins s σ H _ I h) fun v s1 ⟨x, H1, I1, r1, q1⟩ => PyProof.Rows.args_nil ?_) na) na rfl
  obtain ⟨l, xs, e, hq, h64, q1⟩ := q1
  cases e
  cases r1
  obtain ⟨its, r, pl, hz⟩ := I1.list hq
  refine STx.call_set_txt xs (I1.ok.hd hc) pl.isList (by simpa using strsAre_of r) (by unfold scanBound; omega) fun h' tk D L hD g hl hx kk => ?_
  refine PyProof.Rows.args_nil ?_
  refine STx.sorted_txt (s := { s1 with heap := h', toks := tk }) hD g (I1.ok.hd hc) (by omega) fun s' p out c ys k gg o hp hgt hi pm hs => ?_
  have nd : ys.Nodup := pm.nodup_iff.mpr g.nd
  have yl : ys.length < 64 := by rw [pm.length_eq]; omega
  have hlen : (ys.map V.str).length ≤ sizeLine := by rw [List.length_map, sizeLine_eq]; omega
  have I2 : Inv X pins σ H1 { s1 with heap := h', toks := tk } := I1.kept fun b o e => kk b o e
  have hn : H1 p = none := I2.hok.fresh hp
  have J : Inv X pins σ (upd H1 p (.lst (ys.map V.str))) { s1 with heap := s'.heap, gens := s'.gens, drawn := s'.drawn, toks := s'.toks } :=
    Inv.call (s := { s1 with heap := h', toks := tk }) I2 (ch := []) (Un.laid k hp hn) (I2.hok.laid k hp ⟨hlen, out.toList, c, vals_of_strs hi, hgt⟩) (by rw [gg]; exact I2.bare) (fun _ z => nomatch z)
  have e : s' = { s1 with heap := s'.heap, gens := s'.gens, drawn := s'.drawn, toks := s'.toks } := by
    cases s'
    cases s1
    cases o
    rfl
  rw [e]
  exact ⟨.ref p, _, J, rfl, q1 ys p (sorted_pw hs nd) (fun k => by rw [pm.mem_iff]; exact hx k) hn⟩
end
end L2
namespace LP
open PySem L2
/-- all texts -/
def strsL : List T → Option (List Str)
  | [] => some []
  | .str i :: r => match strsL r with
    | some ns => some (i :: ns)
    | none => none
  | _ :: _ => none
theorem strsL_map (ns : List Str) : strsL (ns.map T.str) = some ns := by
  induction ns with
  | nil => rfl
  | cons n r ih => simp only [List.map_cons, strsL, ih]
theorem strsL_eq : ∀ {ts : List T} {ns : List Str}, strsL ts = some ns → ts = ns.map T.str
  | [], ns, h => by cases h; rfl
  | t :: r, ns, h => by
    cases t with
    | str i =>
      simp only [strsL] at h
      split at h
      · next ms hm =>
        cases h
        rw [strsL_eq hm]
        rfl
      · cases h
    | _ => cases h
section
variable {K : PySem.W.Frag} {F O : Hp}
theorem rls_strs : ∀ {vs : List V} {ss : List Str} {f : List Addr}, Rls K F O vs (ss.map T.str) f → vs = ss.map V.str
  | _, [], _, h => by cases h; rfl
  | _, s :: r, _, h => by
    cases h with
    | cons h1 h2 =>
      cases h1
      rw [rls_strs h2]
      rfl
theorem strs_rls : ∀ (ss : List Str), Rls K F O (ss.map V.str) (ss.map T.str) []
  | [] => .nil
  | s :: r => .cons (f := []) (fs := []) (.str s) (strs_rls r)
/-- the texts, sorted, each once -/
def insU (x : Str) : List Str → List Str
  | [] => [x]
  | y :: r => if SrtS.sLt x y then x :: y :: r else if x = y then y :: r else y :: insU x r
def setS : List Str → List Str
  | [] => []
  | x :: r => insU x (setS r)
theorem mem_insU (x k : Str) : ∀ l, k ∈ insU x l ↔ k = x ∨ k ∈ l
  | [] => by simp [insU]
  | y :: r => by
    unfold insU
    split
    · simp
    · split
      · next h => subst h; simp
      · rw [List.mem_cons, mem_insU x k r, List.mem_cons]
        exact ⟨fun h => by rcases h with h | h | h <;> simp [h], fun h => by rcases h with h | h | h <;> simp [h]⟩
theorem mem_setS (k : Str) : ∀ l, k ∈ setS l ↔ k ∈ l
  | [] => by simp [setS]
  | x :: r => by rw [setS, mem_insU, mem_setS k r, List.mem_cons]
theorem insU_pw (x : Str) : ∀ {l}, l.Pairwise SrtS.sLt → (insU x l).Pairwise SrtS.sLt
  | [], _ => List.pairwise_singleton ..
  | y :: r, h => by
    obtain ⟨h1, h2⟩ := List.pairwise_cons.mp h
    unfold insU
    split
    · next c => exact List.pairwise_cons.mpr ⟨fun z hz => by
        rcases List.mem_cons.mp hz with rfl | hz
        · exact c
        · exact SrtS.sLt_tr c (h1 z hz), h⟩
    · next c =>
      split
      · exact h
      · next c2 =>
        refine List.pairwise_cons.mpr ⟨fun z hz => ?_, insU_pw x h2⟩
        rcases (mem_insU x z r).mp hz with rfl | hz
        · rcases SrtS.sLt_tri z y with q | q | q
          · exact absurd q c
          · exact absurd q c2
          · exact q
        · exact h1 z hz
theorem setS_pw : ∀ l, (setS l).Pairwise SrtS.sLt
  | [] => .nil
  | x :: r => insU_pw x (setS_pw r)
theorem pw_uniq : ∀ {a b : List Str}, a.Pairwise SrtS.sLt → b.Pairwise SrtS.sLt → (∀ k, k ∈ a ↔ k ∈ b) → a = b
  | [], [], _, _, _ => rfl
  | [], y :: r, _, _, h => by have := (h y).mpr (List.mem_cons_self ..); cases this
  | x :: r, [], _, _, h => by have := (h x).mp (List.mem_cons_self ..); cases this
  | x :: r, y :: t, ha, hb, h => by
    obtain ⟨a1, a2⟩ := List.pairwise_cons.mp ha
    obtain ⟨b1, b2⟩ := List.pairwise_cons.mp hb
    have e : x = y := by
      rcases List.mem_cons.mp ((h x).mp (List.mem_cons_self ..)) with z | z
      · exact z
      · rcases List.mem_cons.mp ((h y).mpr (List.mem_cons_self ..)) with z2 | z2
        · exact z2.symm
        · exact absurd (SrtS.sLt_tr (b1 x z) (a1 y z2)) (SrtS.sLt_irr _)
    subst e
    rw [pw_uniq a2 b2 fun k => ?_]
    constructor
    · intro hk
      rcases List.mem_cons.mp ((h k).mp (List.mem_cons_of_mem _ hk)) with z | z
      · subst z; exact absurd (a1 k hk) (SrtS.sLt_irr _)
      · exact z
    · intro hk
      rcases List.mem_cons.mp ((h k).mpr (List.mem_cons_of_mem _ hk)) with z | z
      · subst z; exact absurd (b1 k hk) (SrtS.sLt_irr _)
      · exact z
def sortSetT : List T → Option T
  | [.lst _ xs] => match strsL xs with
    | some ss => if ss.length < 64 then some (.lst true ((setS ss).map T.str)) else none
    | none => none
  | _ => none
theorem sSortSet : OSndN K (rSortSet K) sortSetT := by
  intro F O xs as fa t d ha e Q q
  unfold sortSetT at e
  split at e
  · split at e
    · next ss hp =>
      split at e
      · next h64 =>
        cases e
        obtain ⟨v, g, rfl, h⟩ := ha.one
        obtain ⟨p, vs, fs, rfl, h1, r1⟩ := h.lstv d
        rw [strsL_eq hp] at r1
        obtain rfl := rls_strs r1
        refine ⟨p, ss, rfl, .inl (.inl h1), h64, fun ys p' hs hm hn => ?_⟩
        obtain rfl : ys = setS ss := pw_uniq hs (setS_pw ss) fun k => by rw [hm k, mem_setS]
        exact q.newL d (strs_rls _) p' hn
      · cases e
    · cases e
  · cases e
@[simp] theorem sortSetT_map (o : Bool) (ss : List Str) (h : ss.length < 64) : sortSetT [.lst o (ss.map T.str)] = some (.lst true ((setS ss).map T.str)) := by
  simp [sortSetT, strsL_map, h]
end
section
variable {K : PySem.W.Frag} {X : Cx} {e : Expr} {te : TE} {ev : Ev} {pos p2 p3 p4 : Pos}
theorem xSortSet (hg : Gl X "sorted") (hm : X.mg "sorted" = none) (hg2 : Gl X "set") (hm2 : X.mg "set" = none) (ha : SE K X e te ev) (hc : X.calm = true := by rfl) (na : starEach [e] X.env = (false, eval e X.env) :: starEach [] X.env := by rfl) :
    SE K X (.Call (.Name "sorted" p2) [.Call (.Name "set" p3) [e] [] p4] [] pos) (tCB (rSortSet K) (tCons te tNil)) (cON sortSetT (aCons ev aNil)) := by
  cases ha.k
  exact ⟨pe_sortSet hc hg hm hg2 hm2 ha.p na, eON (eaCons ha.s eaNil) sSortSet, rfl⟩
end
end LP
set_option maxRecDepth 100000
/-! LP: the signs of a text; d.get(k, x). -/
namespace LP
open PySem L2
def sgT (c : Nat) : T := .str ⟨#[c]⟩
def iSt (a : Ev) : It := fun env => match a env with
  | some (o, e) => match vw e o with
    | some (.str s) => some (s.cps.toList.map sgT, e)
    | _ => none
  | none => none
/-- d.get(k, x), all three slots -/
def cGet2 (i j k : Nat) : Ev := fun env => match env[i]?, env[j]?, env[k]? with
  | some (some (.dic _ ks xs)), some (some y), some (some z) => match keyT y with
    | some kk => match getT ks xs kk with
      | some t => if t.fz then some (.t t, env) else none
      | none => if z.fz then some (.t z, env) else none
    | none => none
  | _, _, _ => none
section
variable {K : PySem.W.Frag} {F O : Hp}
theorem yieldsS {x : Str} : Yields K (L2.Its x) F (x.cps.toList.map sgT) := by
  intro F' O' s d i
  refine ⟨fun t e => ?_, fun hl => ?_⟩
  · rw [List.getElem?_map] at e
    have hi : i < x.cps.size := by
      cases h : x.cps.toList[i]? with
      | none => rw [h] at e; cases e
      | some c => exact (by simpa using (List.getElem?_eq_some_iff.mp h).1)
    refine ⟨hi, fun v H' y => ?_⟩
    obtain ⟨rfl, c, hc, rfl⟩ := y
    rw [Array.getElem?_toList, hc] at e
    cases e
    exact ⟨F', O', rfl, d, Stp.refl, .str _⟩
  · rw [List.length_map, Array.length_toList] at hl
    exact hl
theorem wStr {ta : TE} {a : Ev} (ha : ESnd K ta a) : WSnd K (L2.iStr ta) (iSt a) := by
  intro env items env' h σ F O f a0 R q
  simp only [iSt] at h
  split at h
  · next o e h1 =>
    split at h
    · next xs hx =>
      cases h
      refine ha _ _ _ h1 σ F O f a0 _ fun v F1 O1 fp1 f1 a1 s1 r1 => ?_
      obtain ⟨g1, w1, _⟩ := r1.view a1.e hx
      cases w1
      exact ⟨_, rfl, q _ F1 O1 f1 a1.only s1.snd yieldsS⟩
    · cases h
  · cases h
theorem Rls.getT_none {κ : Type} [DecidableEq κ] {k : κ} : ∀ {ks : List κ} {vs : List V} {ts : List T} {g : List Addr}, Rls K F O vs ts g → ks.length = vs.length → LP.getT ks ts k = none → valV (ks.zip vs) k = none
  | [], _, _, _, _, _, _ => rfl
  | _ :: _, _, _, _, .nil, n, _ => by cases n
  | k' :: ks, v :: vs, _, _, .cons hv r, n, h => by
    rw [LP.getT] at h
    rw [List.zip_cons_cons]
    by_cases e : k' = k
    · rw [if_pos e] at h
      cases h
    · rw [if_neg e] at h
      rw [valV_neg e]
      exact Rls.getT_none r (by simpa using n) h
theorem eGet2 {i j k : Nat} : ESnd K (tDGet2 (tVar i) (tVar j) (tVar k)) (cGet2 i j k) := by
  intro env o env' h σ F O f a0 Q q
  simp only [cGet2] at h
  split at h
  · next oo ks xs y z hi hj hk =>
    split at h
    · next kk hkk =>
      obtain ⟨vd, gd, g0, rd, _⟩ := a0.e.get hi
      obtain ⟨vy, gy, g1, ry, _⟩ := a0.e.get hj
      obtain ⟨vz, gz, g2, rz, _⟩ := a0.e.get hk
      obtain ⟨rfl, _⟩ := ry.key hkk
      have fin : ∀ (a : Addr) (vs : List V) (g : List Addr), vd = .ref a → jn F O a = some (.dK (ks.zip vs)) → ks.length = vs.length → Rls K F O vs xs g → tDGet2 (tVar i) (tVar j) (tVar k) σ (jn F O) Q := fun a vs g ea hj n r => by
        subst ea
        refine ⟨_, g0, a, rfl, .inl ⟨_, .inl hj⟩, _, g1, _, g2, valV (ks.zip vs) kk, .inl ⟨_, kk, .inl hj, rfl, rfl⟩, ?_⟩
        split at h
        · next t ht =>
          split at h
          · next hz =>
            cases h
            obtain ⟨v, gg, h1, h2⟩ := r.getT n ht
            rw [h1]
            exact q v F O [] f a0 Stp.refl (h2.own0 hz)
          · cases h
        · next ht =>
          split at h
          · next hz =>
            cases h
            rw [r.getT_none n ht]
            exact q vz F O [] f a0 Stp.refl (rz.own0 hz)
          · cases h
      cases rd with
      | dicF h n r => exact fin _ _ _ rfl (a0.d.jn_F h) n r
      | dicO h n r => exact fin _ _ _ rfl (jn_O h) n r
    · cases h
  · cases h
end
section
variable {K : PySem.W.Frag} {X : Cx} {tg e : Expr} {te : TE} {ev : Ev} {pos p1 p2 p3 p4 : Pos}
theorem iStr_ (h : SE K X e te ev) : SI K X tg e (L2.iStr te) (iSt ev) := by
  cases h.k
  exact ⟨pi_str h.p, wStr h.s, rfl⟩
theorem xGet2 {i j k : Nat} {x y z : Str} (hu : X.A.units + 64 < cLine) (hx : PE X (.Name x p1) (tVar i)) (hy : PE X (.Name y p2) (tVar j)) (hz : PE X (.Name z p3) (tVar k))
    (m : M2 X (.Name x p1) "get" p4 (.Name y p2) (.Name z p3) pos := by exact ⟨rfl, rfl, rfl, rfl⟩) (hk : X.K = K := by rfl) :
    SE K X (.Call (.Attribute (.Name x p1) "get" p4) [.Name y p2, .Name z p3] [] pos) (tDGet2 (tVar i) (tVar j) (tVar k)) (cGet2 i j k) := by
  cases hk
  exact ⟨pe_dget2 (by omega) hx hy hz m, eGet2, rfl⟩
@[simp] theorem iSt_def (a : Ev) (env : Env) : iSt a env = (a env).bind fun p => match vw p.2 p.1 with
    | some (.str s) => some (s.cps.toList.map sgT, p.2)
    | _ => none := by
  unfold iSt
  cases a env with
  | none => rfl
  | some p => rfl
end
end LP
namespace LP
open PySem L2
/-- a divisor below 2 ^ 9000 -/
noncomputable def okDv (j : Int) : Bool := Classical.choose (⟨decide (0 < j ∧ j.natAbs.log2 < 9000), rfl⟩ : ∃ b : Bool, b = decide (0 < j ∧ j.natAbs.log2 < 9000))
theorem okDv_eq (j : Int) : okDv j = decide (0 < j ∧ j.natAbs.log2 < 9000) := Classical.choose_spec (⟨decide (0 < j ∧ j.natAbs.log2 < 9000), rfl⟩ : ∃ b : Bool, b = decide (0 < j ∧ j.natAbs.log2 < 9000))
theorem okDv_of {j : Int} (h : 0 < j) (h1 : j ≤ 1000000000000000) : okDv j = true := by
  rw [okDv_eq]
  refine decide_eq_true ⟨h, ?_⟩
  have : j.natAbs < 2 ^ 50 := by omega
  have := (Nat.log2_lt (n := j.natAbs) (k := 50) (by omega)).mpr this
  omega
noncomputable def divWT := opI fun i j => if okDv j then some (i / j) else none
section
variable {K : PySem.W.Frag} {X : Cx} {a b : Expr} {ta tb : TE} {ea eb : Ev} {pos : Pos}
theorem xDivW (ha : SE K X a ta ea) (hb : SE K X b tb eb) : SE K X (.BinOp a .FloorDiv b pos) (tOp (rI CDivW fun i j => .int (i / j)) ta tb) (cO2 divWT ea eb) := by
  cases ha.k
  refine xOp op_fdivW (sI fun i j k h => ?_) ha hb
  split at h
  · next c =>
    cases h
    rw [okDv_eq] at c
    exact ⟨of_decide_eq_true (p := 0 < j ∧ j.natAbs.log2 < 9000) c, rfl⟩
  · cases h
end
@[simp] theorem divWT_ints (i j : Int) (h : okDv j = true) : divWT (.int i) (.int j) = some (.int (i / j)) := by
  simp [divWT, opI, h]
end LP
namespace LP
open PySem L2
section
variable {P : Program} {w : World} {K : PySem.W.Frag} {mg : Str → Option Value} {base : Heap}
/-- a def's promise of nothing: where its recursion begins -/
theorem fn_none {x qual : Str} {st : Stmt} {fa : Addr} {fd : FuncData} {N ps : List Str} {k n : Nat} (Fu : Fun K x qual st fa fd) (Sc : FnScope N ps (defScope st)) : FnOk P w K mg base CX0 (k + 1) fa fd ps (spF K n fun _ => none) := by
  refine Fu.ok Sc (fun vs H Q E h => ?_) (fun cdv A outer s H vs Q E hr h => ?_)
  · obtain ⟨_, _, _, _, _, _, _, _, _, _, _, hg, _⟩ := h
    cases hg
  · obtain ⟨_, _, _, _, _, _, _, _, _, _, _, hg, _⟩ := h
    cases hg
end
end LP
namespace LP
open PySem L2
section
variable {K : PySem.W.Frag} {X : Cx} {e : Expr} {te : TE} {ev : Ev}
theorem yLend (h : ST K X e (tTest te) (cTest ev)) (hs : SE K X e te ev) : ST K X e (tTest te) (cTest (cLend ev)) := by
  cases h.k
  exact ⟨h.p, tTest_ (eLend hs.s), rfl⟩
end
end LP
namespace LP
open PySem L2
section
variable {K : PySem.W.Frag} {X : Cx} {a b c e : Expr} {es : List Expr} {ta tb tc te : TE} {tas : TA} {ea eb ec ev : Ev} {eas : Ea} {tt tu : TT} {et eu : Et} {pos p2 p3 : Pos} {pn : List Nat} {tg : Expr} {tgs : List Expr} {gg : TG} {ggs : TGs} {g : Tg} {gs : Tgs} {wi : TI} {it : It}
theorem zSetLcL {i : Nat} {y : Str} {py spos : Pos} {elt iter : Expr} {ifs : List Expr} {scope : Scope} (own : List (Str × Nat)) {n : Nat} {pm : List Nat} (hc : X.calm = true) (hN : X.N.Nodup) (hy : X.N[i]? = some y) (hyl : X.env.scope.names.lookup y = some .local)
    (hsw : swapsWith (.ListComp elt [⟨tg, iter, ifs, 0⟩] scope pos) (some (.Name y py)) spos.line X.env = pure true) (hi : SI K X tg iter wi it) (ok : BlkOk X.N X.env.scope scope own)
    (hg : ∀ (s : Shared) (H : Hp) (C : Addr) (cl : List (Str × Addr)) (fp : List Addr), SG K (X.blk s H scope (PySem.compEnvC scope cl C X.env) fp) pm tg gg g)
    (ht : ∀ (s : Shared) (H : Hp) (C : Addr) (cl : List (Str × Addr)) (fp : List Addr), STs K (X.blk s H scope (PySem.compEnvC scope cl C X.env) fp) ifs tt et)
    (he : ∀ (s : Shared) (H : Hp) (C : Addr) (cl : List (Str × Addr)) (fp : List Addr), SE K (X.blk s H scope (PySem.compEnvC scope cl C X.env) fp) elt te ev)
    (hpn : i ∉ pn := by decide) (hp : ((List.range n).all fun i => decide (i ∈ own.map (·.2)) || decide (i ∈ pm)) = true := by decide) (hs : ∀ x, foldedSetIterable iter X.env x = pure x := by intro _; rfl) :
    SS K X pn (.Assign [.Name y py] (.ListComp elt [⟨tg, iter, ifs, 0⟩] scope pos) spos) (tAsg (tLc wi gg tt te (own.map (·.2))) (gName i)) (cAsg (cFr (cLend (cLc n (own.map (·.2)) it g et ev))) (gN i)) := by
  cases hi.k
  exact ⟨ps_setLc hc hN hy hyl hsw hi.p ok (fun s H C cl fp => (hg s H C cl fp).p) (fun s H C cl fp => (ht s H C cl fp).p) (fun s H C cl fp => (he s H C cl fp).p) hs,
    sAsg (eFr (eLend (eLc (all_pn hp) hi.s (hg X.s_0 X.H_0 0 [] []).s (ht X.s_0 X.H_0 0 [] []).s (he X.s_0 X.H_0 0 [] []).s))) (tgN hpn), rfl⟩
end
end LP
set_option maxRecDepth 100000
/-! LP: min, max of tuples of ints. -/
namespace LP
open PySem L2
def lexI : List Int → List Int → Bool
  | [], [] => false
  | [], _ :: _ => true
  | _ :: _, [] => false
  | x :: r, y :: t => decide (x < y) || (!decide (y < x) && lexI r t)
def dTI (ns : List Int) : PyData := .tuple (ns.map .int)
theorem lexI_toks : ∀ a b : List Int, PyProof.Rows.lexLt PyProof.Rows.itemOrd (PySem.W.keyToksAll (a.map .int)) (PySem.W.keyToksAll (b.map .int)) = lexI a b
  | [], [] => by simp [PySem.W.keyToksAll, PyProof.Rows.lexLt, PyProof.Rows.itemLt, lexI]
  | [], y :: t => by simp [PySem.W.keyToksAll, PyProof.Rows.lexLt, PyProof.Rows.itemLt, lexI]
  | x :: r, [] => by simp [PySem.W.keyToksAll, PyProof.Rows.lexLt, PyProof.Rows.itemLt, lexI]
  | x :: r, y :: t => by
    have ih := lexI_toks r t
    simp [PySem.W.keyToksAll, PySem.W.keyToks, PyProof.Rows.lexLt, PyProof.Rows.itemLt, lexI, ih]
theorem dataLt_I (a b : List Int) : PySem.W.dataLt (dTI a) (dTI b) = lexI a b := by
  unfold PySem.W.dataLt dTI
  rw [PySem.W.keyToks, PySem.W.keyToks]
  exact lexI_toks a b
theorem alike_I : ∀ a b : List Int, PySem.W.alikeAll (a.map .int) (b.map .int) = true
  | [], _ => by rw [List.map_nil, PySem.W.alikeAll]
  | _ :: _, [] => by rw [List.map_cons, List.map_nil, PySem.W.alikeAll]
  | x :: r, y :: t => by rw [List.map_cons, List.map_cons, PySem.W.alikeAll, alike_I r t]; rfl
theorem depth_ints : ∀ a : List Int, PyData.depthAll (a.map .int) ≤ 1
  | [] => by simp [PyData.depthAll]
  | x :: r => by
    have := depth_ints r
    simp only [List.map_cons, PyData.depthAll, PyData.depth]
    omega
theorem depth_I : ∀ ps : List (List Int), PyData.depthAll (ps.map dTI) ≤ 2
  | [] => by simp [PyData.depthAll]
  | p :: r => by
    have h1 := depth_I r
    have h2 := depth_ints p
    simp only [List.map_cons, PyData.depthAll, dTI, PyData.depth] at h1 ⊢
    omega
theorem alikeAll_I (ps : List (List Int)) : PySem.W.AlikeAll (ps.map dTI) := ⟨fun x hx y hy => by
  obtain ⟨a, _, rfl⟩ := List.mem_map.mp hx
  obtain ⟨b, _, rfl⟩ := List.mem_map.mp hy
  simp only [dTI, PySem.W.alike]
  exact alike_I a b, fun x hx => by
  obtain ⟨a, _, rfl⟩ := List.mem_map.mp hx
  unfold dTI
  exact fun z => nomatch z⟩
/-- the first of the least, of the greatest -/
def bestI (mx : Bool) (p : List Int) (ps : List (List Int)) : List Int := ps.foldl (fun a y => if (if mx = true then lexI a y else lexI y a) = true then y else a) p
def rMinI (K : PySem.W.Frag) (mx : Bool) : List V → Hp → VK → Prop := fun (vs : List V) (H : Hp) (Q : VK) => ∃ (a : Addr) (xs : List V) (p : List Int) (ps : List (List Int)), vs = [.ref a] ∧ SqL K H a xs ∧ DpAll K H xs ((p :: ps).map dTI) ∧ ∀ (i : Nat) (x : V), xs[i]? = some x → (p :: ps)[i]? = some (bestI mx p ps) → Q x H
theorem mapI_inj : ∀ {a b : List Int}, a.map PyData.int = b.map PyData.int → a = b
  | [], [], _ => rfl
  | [], _ :: _, h => by cases h
  | _ :: _, [], h => by cases h
  | x :: r, y :: t, h => by
    rw [List.map_cons, List.map_cons] at h
    injection h with h1 h2
    injection h1 with h1
    rw [h1, mapI_inj h2]
theorem best_at (mx : Bool) (p : List Int) (ps : List (List Int)) (i : Nat) (h : ((p :: ps).map dTI).getD i .none = (ps.map dTI).foldl (fun a y => if (if mx = true then PySem.W.dataLt a y else PySem.W.dataLt y a) = true then y else a) (dTI p)) (hi : i < (p :: ps).length) : (p :: ps)[i]? = some (bestI mx p ps) := by
  have e : ∀ (qs : List (List Int)) (q : List Int), (qs.map dTI).foldl (fun a y => if (if mx = true then PySem.W.dataLt a y else PySem.W.dataLt y a) = true then y else a) (dTI q) = dTI (bestI mx q qs) := by
    intro qs
    induction qs with
    | nil => intro q; rfl
    | cons y r ih =>
      intro q
      rw [List.map_cons, List.foldl_cons]
      unfold bestI
      rw [List.foldl_cons]
      rw [show (if (if mx = true then PySem.W.dataLt (dTI q) (dTI y) else PySem.W.dataLt (dTI y) (dTI q)) = true then dTI y else dTI q) = dTI (if (if mx = true then lexI q y else lexI y q) = true then y else q) by
        rw [dataLt_I, dataLt_I]
        cases mx
        · by_cases z : lexI y q = true <;> simp [z]
        · by_cases z : lexI q y = true <;> simp [z]]
      exact ih _
  rw [e] at h
  rw [List.getElem?_eq_getElem hi]
  rw [List.getD_eq_getElem?_getD, List.getElem?_map, List.getElem?_eq_getElem hi] at h
  simp only [Option.map_some, Option.getD_some] at h
  congr 1
  unfold dTI at h
  injection h with h
  exact mapI_inj h
theorem DpAll_len {K : PySem.W.Frag} {H : Hp} : ∀ {vs : List V} {ds : List PyData}, DpAll K H vs ds → vs.length = ds.length
  | _, _, .nil => rfl
  | _, _, .cons _ h => by rw [List.length_cons, List.length_cons, DpAll_len h]
section
variable {X : Cx}
theorem cr_minI (hc : X.calm = true) (hu : X.A.units + 64 < cLine) : CallR X (.builtin "min") (rMinI X.K false) := by
  intro pins s σ H vs us Q I r h
  obtain ⟨a, xs, p, ps, rfl, hs, hd, q⟩ := h
  obtain ⟨its, rv, hl, _⟩ := I.list hs
  rw [Vals.ref1 r]
  obtain ⟨as, hr⟩ := Dp.readsAll I _ _ _ hd rv
  have hr' : PySem.ReadsAll s.heap its.toArray.toList ((p :: ps).map dTI) as := hr
  have hn : its.length = ps.length + 1 := by have := rv.length; have h2 := DpAll_len hd; simp only [List.length_map, List.length_cons] at h2; omega
  have hdp := depth_I (p :: ps)
  refine call_min_walkH (PySem.W.iter_listW (A := X.A.in1) (I.ok.hd hc) hl.isList fun s₂ e W st hfp hw hk => ?_)
  refine ⟨_, _, _, _, _, _, _, s.heap, _, rfl, W, st, hfp, by rw [List.size_toArray]; omega, hw, hk, PySem.W.cmpIn_lt (A := X.A.in1) hr' (alikeAll_I _) (by show X.A.units + 1 + _ < _; omega), fun v s' hP m => ?_⟩
  obtain ⟨h', tk, rfl, hk'⟩ := PySem.W.moved_old e rfl m
  have e2 := PySem.W.argBest_fold PySem.W.dataLt PyData.none (dTI p) (ps.map dTI) ps.length (by rw [List.length_map]; exact Nat.le_refl _)
  have e1 : its.toArray.size - 1 = ps.length := by rw [List.size_toArray]; omega
  rw [e1] at hP
  simp only [List.map_cons] at hP
  have hb := best_at false p ps _ (by
    rw [show ps.length = (ps.map dTI).length by rw [List.length_map]] at e2
    rw [List.take_length] at e2
    have := e2.2
    rw [List.length_map] at this
    exact this) (by have := e2.1; simp only [List.length_cons]; exact Nat.lt_succ_of_le this)
  have hlen : xs.length = its.length := rv.length
  generalize argBest _ ps.length = i at *
  have hi : i < xs.length := by have := e2.1; omega
  obtain ⟨u, hu1, hu2⟩ := rv.get (List.getElem?_eq_getElem hi)
  rw [List.getElem?_toArray] at hP
  have hv : u = v := by
    have := hu1.symm.trans hP
    exact Option.some.inj this
  subst hv
  exact ⟨_, H, I.kept hk', hu2, q i _ (List.getElem?_eq_getElem hi) hb⟩
theorem cr_maxI (hc : X.calm = true) (hu : X.A.units + 64 < cLine) : CallR X (.builtin "max") (rMinI X.K true) := by
  intro pins s σ H vs us Q I r h
  obtain ⟨a, xs, p, ps, rfl, hs, hd, q⟩ := h
  obtain ⟨its, rv, hl, _⟩ := I.list hs
  rw [Vals.ref1 r]
  obtain ⟨as, hr⟩ := Dp.readsAll I _ _ _ hd rv
  have hr' : PySem.ReadsAll s.heap its.toArray.toList ((p :: ps).map dTI) as := hr
  have hn : its.length = ps.length + 1 := by have := rv.length; have h2 := DpAll_len hd; simp only [List.length_map, List.length_cons] at h2; omega
  have hdp := depth_I (p :: ps)
  refine call_max_walkH (PySem.W.iter_listW (A := X.A.in1) (I.ok.hd hc) hl.isList fun s₂ e W st hfp hw hk => ?_)
  refine ⟨_, _, _, _, _, _, _, s.heap, _, rfl, W, st, hfp, by rw [List.size_toArray]; omega, hw, hk, PySem.W.cmpIn_gt (A := X.A.in1) hr' (alikeAll_I _) (by show X.A.units + 1 + _ < _; omega), fun v s' hP m => ?_⟩
  obtain ⟨h', tk, rfl, hk'⟩ := PySem.W.moved_old e rfl m
  have e2 := PySem.W.argBest_fold (fun a b => PySem.W.dataLt b a) PyData.none (dTI p) (ps.map dTI) ps.length (by rw [List.length_map]; exact Nat.le_refl _)
  have e1 : its.toArray.size - 1 = ps.length := by rw [List.size_toArray]; omega
  rw [e1] at hP
  simp only [List.map_cons] at hP
  have hb := best_at true p ps _ (by
    rw [show ps.length = (ps.map dTI).length by rw [List.length_map]] at e2
    rw [List.take_length] at e2
    have := e2.2
    rw [List.length_map] at this
    exact this) (by have := e2.1; simp only [List.length_cons]; exact Nat.lt_succ_of_le this)
  have hlen : xs.length = its.length := rv.length
  generalize argBest _ ps.length = i at *
  have hi : i < xs.length := by have := e2.1; omega
  obtain ⟨u, hu1, hu2⟩ := rv.get (List.getElem?_eq_getElem hi)
  rw [List.getElem?_toArray] at hP
  have hv : u = v := by
    have := hu1.symm.trans hP
    exact Option.some.inj this
  subst hv
  exact ⟨_, H, I.kept hk', hu2, q i _ (List.getElem?_eq_getElem hi) hb⟩
end
def tI (ns : List Int) : T := .tup false (ns.map T.int)
def tupsI : List T → Option (List (List Int))
  | [] => some []
  | .tup false ts :: r => match intsL ts with
    | some ns => match tupsI r with
      | some ps => some (ns :: ps)
      | none => none
    | none => none
  | _ :: _ => none
def minTI (mx : Bool) : List T → Option T
  | [.lst _ xs] => match tupsI xs with
    | some (p :: ps) => some (tI (bestI mx p ps))
    | _ => none
  | _ => none
theorem intsL_map : ∀ ns : List Int, intsL (ns.map T.int) = some ns
  | [] => rfl
  | n :: r => by rw [List.map_cons, intsL, intsL_map r]
theorem intsL_eq : ∀ {ts : List T} {ns : List Int}, intsL ts = some ns → ts = ns.map T.int
  | [], ns, h => by cases h; rfl
  | .int i :: r, ns, h => by
    rw [intsL] at h
    cases hr : intsL r with
    | none => rw [hr] at h; cases h
    | some qs =>
      rw [hr] at h
      cases h
      rw [intsL_eq hr]
      rfl
theorem tupsI_map : ∀ ps : List (List Int), tupsI (ps.map tI) = some ps
  | [] => rfl
  | p :: r => by
    rw [List.map_cons]
    unfold tI
    rw [tupsI, intsL_map p]
    have := tupsI_map r
    unfold tI at this
    rw [this]
theorem tupsI_eq : ∀ {ts : List T} {ps : List (List Int)}, tupsI ts = some ps → ts = ps.map tI
  | [], ps, h => by cases h; rfl
  | .tup false xs :: r, ps, h => by
    rw [tupsI] at h
    cases hx : intsL xs with
    | none => rw [hx] at h; cases h
    | some ns =>
      rw [hx] at h
      cases hr : tupsI r with
      | none => rw [hr] at h; cases h
      | some qs =>
        rw [hr] at h
        cases h
        rw [tupsI_eq hr, intsL_eq hx]
        rfl
@[simp] theorem minTI_map (mx o : Bool) (p : List Int) (ps : List (List Int)) : minTI mx [.lst o ((p :: ps).map tI)] = some (tI (bestI mx p ps)) := by
  rw [minTI, tupsI_map]
theorem tI_fz (ns : List Int) : (tI ns).fz = true := by
  unfold tI
  have : fzL (ns.map T.int) = true := by
    induction ns with
    | nil => rfl
    | cons n r ih => rw [List.map_cons, fzL, ih]; rfl
  simp [T.fz, this]
theorem tI_er (ns : List Int) : (tI ns).er = tI ns := er_of_fz (tI_fz ns)
theorem pyL_ints : ∀ ns : List Int, pyL (ns.map T.int) = ns.map PyData.int
  | [] => rfl
  | n :: r => by rw [List.map_cons, pyL, pyL_ints r]; rfl
theorem ndL_ints : ∀ ns : List Int, ndL (ns.map T.int) = true
  | [] => rfl
  | n :: r => by rw [List.map_cons, ndL, ndL_ints r]; rfl
section
variable {K : PySem.W.Frag} {F O : Hp}
theorem rls_tI : ∀ {vs : List V} {ps : List (List Int)} {f : List Addr}, Dis F O → Rls K F O vs (ps.map tI) f → DpAll K (jn F O) vs (ps.map dTI)
  | vs, [], f, d, h => by cases h; exact .nil
  | vs, p :: r, f, d, h => by
    cases h with
    | cons h1 h2 =>
      have := h1.dp d (by unfold tI; simp [T.nd, ndL_ints])
      rw [show (tI p).py = dTI p by unfold tI dTI; rw [T.py, pyL_ints]] at this
      exact .cons this (rls_tI d h2)
theorem rls_at : ∀ {vs : List V} {ts : List T} {f : List Addr} {i : Nat} {v : V} {t : T}, Rls K F O vs ts f → vs[i]? = some v → ts[i]? = some t → ∃ g, Rl K F O v t g
  | _, _, _, _, _, _, .nil, h, _ => by simp at h
  | _, _, _, 0, _, _, .cons h1 h2, h, e => by
    have e1 := Option.some.inj h
    have e2 := Option.some.inj e
    subst e1; subst e2
    exact ⟨_, h1⟩
  | _, _, _, i + 1, _, _, .cons h1 h2, h, e => rls_at (i := i) h2 (by simpa using h) (by simpa using e)
theorem sMinI (mx : Bool) : OSndN K (rMinI K mx) (minTI mx) := by
  intro F O xs as fa t d ha e Q q
  unfold minTI at e
  split at e
  · split at e
    · next p ps hp =>
      cases e
      obtain ⟨v, g, rfl, h⟩ := ha.one
      obtain ⟨p', vs, fs, rfl, h1, r1⟩ := h.lstv d
      rw [tupsI_eq hp] at r1
      refine ⟨p', vs, p, ps, rfl, .inl (.inl h1), rls_tI d r1, fun i x hx hb => ?_⟩
      obtain ⟨g, r⟩ := rls_at r1 hx (by rw [List.getElem?_map, hb]; rfl)
      exact q.sc d (r.own0 (tI_fz _))
    · cases e
  · cases e
end
section
variable {K : PySem.W.Frag} {X : Cx} {e : Expr} {tas : TA} {eas : Ea} {pos p2 : Pos}
theorem xMinI (hu : X.A.units + 64 < cLine) (hc : X.calm = true) (hg : Gl X "min") (hm : X.mg "min" = none) (ha : SA K X [e] tas eas) (hst : starEach [e] X.env = (false, eval e X.env) :: starEach [] X.env := by rfl) : SE K X (.Call (.Name "min" p2) [e] [] pos) (tCB (rMinI K false) tas) (cON (minTI false) eas) := by
  cases ha.k
  exact xB (cr_minI hc hu) (sMinI false) hg hm b_min ha (hst := hst) (hpl := by rfl)
theorem xMaxI (hu : X.A.units + 64 < cLine) (hc : X.calm = true) (hg : Gl X "max") (hm : X.mg "max" = none) (ha : SA K X [e] tas eas) (hst : starEach [e] X.env = (false, eval e X.env) :: starEach [] X.env := by rfl) : SE K X (.Call (.Name "max" p2) [e] [] pos) (tCB (rMinI K true) tas) (cON (minTI true) eas) := by
  cases ha.k
  exact xB (cr_maxI hc hu) (sMinI true) hg hm b_max ha (hst := hst) (hpl := by rfl)
end
/-! a constant tuple of the module -/
def KTp (K : PySem.W.Frag) (a : Addr) (vs : List V) : Prop := ∃ (o : Obj) (its : Array Value) (n : Nat), (K.lookup a = some o ∧ o.cls = .type "tuple" ∧ o.dict = none) ∧ o.data = .seq its n ∧ its.size ≤ sizeLine ∧ Vals vs its.toList
theorem KTp.mk {K : PySem.W.Frag} {a : Addr} {vs : List V} {its : Array Value} {n : Nat} {sl : Array (Option Value)} (l : K.lookup a = some ⟨.type "tuple", none, .seq its n, sl⟩) (h : its.size ≤ 64) (rv : Vals vs its.toList) : KTp K a vs := ⟨_, its, n, ⟨l, rfl, rfl⟩, rfl, by rw [sizeLine_eq]; omega, rv⟩
theorem KTp.sq {K : PySem.W.Frag} {a : Addr} {vs : List V} (h : KTp K a vs) (H : Hp) : SqT K H a vs := by
  obtain ⟨o, its, n, ⟨h1, h2, h3⟩, h4, h5, h6⟩ := h
  exact .inr ⟨o, its, n, h1, h2, h4, h5, h6⟩
theorem xGT {K : PySem.W.Frag} {X : Cx} {pos : Pos} {x : Str} {vs : List V} {ts : List T} (hg : Gl X x) (hm : ∃ a, X.mg x = some (.ref a) ∧ KTp K a vs) (hr : ∀ F O, Rls K F O vs ts []) (hd : (x == ("__debug__" : Str)) = false := by decide) (hk : X.K = K := by rfl) : SE K X (.Name x pos) (tC (.ref hm.choose)) (cK (.tup false ts)) := by
  cases hk
  exact ⟨pe_glob hg hm.choose_spec.1 rfl hd, eK fun F O => .tupF (hm.choose_spec.2.sq F) (hr F O), rfl⟩
/-! for x in reversed(a list) -/
section
variable {K : PySem.W.Frag} {X : Cx} {F O : Hp} {tg : Expr} {a : Expr} {ta : TE} {ea : Ev} {p2 pos : Pos}
def iRvL (a : Ev) : It := fun env => match a env with
  | some (o, e) => match vw e o with
    | some (.lst false xs) => some (xs.reverse, e)
    | _ => none
  | none => none
@[simp] theorem iRvL_def (a : Ev) (env : Env) : iRvL a env = (a env).bind fun p => (vw p.2 p.1).bind fun t => match t with
    | .lst false xs => some (xs.reverse, p.2)
    | _ => none := by
  unfold iRvL
  cases a env with
  | none => rfl
  | some p =>
    simp only [Option.bind_some]
    cases vw p.2 p.1 with
    | none => rfl
    | some t => cases t with
      | lst o xs => cases o <;> rfl
      | _ => rfl
theorem yieldsV {F : Hp} {a : Addr} {vs : List V} {items : List T} (h : F a = some (.lst vs)) (r : Rls K F O vs items []) : Yields K (Itv K a vs.length) F items.reverse := by
  intro F' O' s d i
  have hq : SqL K (jn F' O') a vs := .inl (.inl (d.jn_F (s _ _ h)))
  refine ⟨fun t e => ?_, fun hl => by rw [List.length_reverse, ← r.len] at hl; exact hl⟩
  have hl : i < items.length := by
    have := List.getElem?_eq_some_iff.mp e
    obtain ⟨z, _⟩ := this
    rwa [List.length_reverse] at z
  rw [List.getElem?_reverse hl] at e
  obtain ⟨v, h1, h2⟩ := r.nth e
  rw [← r.len] at h1
  have hl2 : i < vs.length := by rw [r.len]; exact hl
  refine ⟨⟨hl2, vs, v, hq, h1⟩, fun x H' y => ?_⟩
  obtain ⟨rfl, y⟩ := y
  have e2 := y vs hq
  rw [h1] at e2
  cases e2
  exact ⟨F', O', rfl, d, Stp.refl, h2.mono s fun a z => by cases z⟩
theorem wRvL {a : Ev} (ha : ESnd K ta a) : WSnd K (RT.iRevA K ta) (iRvL a) := by
  intro env items env' h σ F O f a0 R q
  simp only [iRvL] at h
  split at h
  · next o e h1 =>
    split at h
    · next xs hx =>
      cases h
      refine ha _ _ _ h1 σ F O f a0 _ fun v F1 O1 fp1 f1 a1 s1 r1 => ?_
      obtain ⟨g1, w1, w0⟩ := r1.view a1.e hx
      cases w1 with
      | lstF hf r => exact ⟨_, _, rfl, .inl ⟨.inl (.inl (a1.d.jn_F hf)), q _ F1 O1 f1 a1.only s1.snd (yieldsV hf r)⟩⟩
    · cases h
  · cases h
theorem iRvL_ (hg : Gl X "reversed") (hm : X.mg "reversed" = none) (ha : SE K X a ta ea) (hs : starEach [a] X.env = (false, eval a X.env) :: starEach [] X.env := by rfl) :
    SI K X tg (.Call (.Name "reversed" p2) [a] [] pos) (RT.iRevA K ta) (iRvL ea) := by
  cases ha.k
  exact ⟨RT.pi_revA hg hm ha.p hs, wRvL ha.s, rfl⟩
end
end LP
set_option maxRecDepth 100000
/-! LP: lists of ints compared, a tuple's index, reverse. -/
namespace LP
open PySem L2
section
variable {K : PySem.W.Frag} {X : Cx} {F O : Hp}
def rGeI (K : PySem.W.Frag) : R2 := fun x y H Q => ∃ a b : List Int, Dp K H x (.list (a.map .int)) ∧ Dp K H y (.list (b.map .int)) ∧ Q (.bl (!lexI a b)) H
theorem op_geI {X : Cx} (hu : X.A.units + 64 < cLine) : OpR X (compareOp .GtE) (rGeI X.K) := by
  intro pins s σ H x y v u Q I rx ry h
  obtain ⟨a, b, hd, he, q⟩ := h
  obtain ⟨as, r1⟩ := Dp.reads I _ x v hd rx
  obtain ⟨bs, r2⟩ := Dp.reads I _ y u he ry
  have d1 := depth_ints a
  refine PySem.W.ge_data r1 r2 (by rw [PySem.W.alike]; exact alike_I a b) (fun z => nomatch z) ?_ ⟨.bl _, H, I, ?_, q⟩
  · have := Nat.min_le_left (PyData.list (a.map .int)).depth (PyData.list (b.map .int)).depth
    have e : (PyData.list (a.map .int)).depth = 1 + PyData.depthAll (a.map .int) := by simp only [PyData.depth]; omega
    omega
  · show Value.bool _ = Value.bool _
    rw [show PySem.W.dataLt (.list (a.map .int)) (.list (b.map .int)) = lexI a b by
      unfold PySem.W.dataLt
      rw [PySem.W.keyToks, PySem.W.keyToks]
      exact lexI_toks a b]
def geLT : T → T → Option T
  | .lst _ xs, .lst _ ys => match intsL xs, intsL ys with
    | some a, some b => some (.bl (!lexI a b))
    | _, _ => none
  | _, _ => none
@[simp] theorem geLT_ints (o p : Bool) (a b : List Int) : geLT (.lst o (a.map T.int)) (.lst p (b.map T.int)) = some (.bl (!lexI a b)) := by
  rw [geLT, intsL_map, intsL_map]
theorem sGeI : OSnd2 K (rGeI K) geLT := by
  intro F O x y a b fa fb t d ha hb e Q q
  unfold geLT at e
  split at e
  · split at e
    · next n m hn hm =>
      cases e
      rw [intsL_eq hn] at ha
      rw [intsL_eq hm] at hb
      have h1 := ha.dp d (by simp [T.nd, ndL_ints])
      have h2 := hb.dp d (by simp [T.nd, ndL_ints])
      rw [T.py, pyL_ints] at h1 h2
      exact ⟨n, m, h1, h2, q.sc d (.bl _)⟩
    · cases e
  · cases e
end
section
variable {K : PySem.W.Frag} {X : Cx} {a b : Expr} {ta tb : TE} {ea eb : Ev} {pos : Pos}
theorem xGeL (hu : X.A.units + 64 < cLine) (ha : SE K X a ta ea) (hb : SE K X b tb eb) : SE K X (.Compare a [.GtE] [b] pos) (tOp (rGeI K) ta tb) (cO2 geLT ea eb) := by
  cases ha.k
  exact xCmp (op_geI hu) sGeI ha hb (nomark _)
theorem yGeL (hu : X.A.units + 64 < cLine) (ha : SE K X a ta ea) (hb : SE K X b tb eb) : ST K X (.Compare a [.GtE] [b] pos) (tTest (tOp (rGeI K) ta tb)) (cTest (cO2 geLT ea eb)) := by
  cases ha.k
  exact yCmp (op_geI hu) sGeI ha hb (nomark _)
end
/-! t.index(x) -/
section
variable {K : PySem.W.Frag} {X : Cx} {F O : Hp}
def rTix (K : PySem.W.Frag) : V → List V → Hp → VK → Prop := fun x xs H Q => ∃ p, ∃ ys : List Str, ∃ z j, x = .ref p ∧ xs = [.str z] ∧ SqT K H p (ys.map V.str) ∧ ys[j]? = some z ∧ (∀ m, m < j → ys[m]? ≠ some z) ∧ Q (.int (j : Nat)) H
def fstAt (z : Str) : List Str → Option Nat
  | [] => none
  | y :: r => if y = z then some 0 else (fstAt z r).map (· + 1)
theorem fstAt_spec {z : Str} : ∀ {ys : List Str} {j : Nat}, fstAt z ys = some j → ys[j]? = some z ∧ ∀ m, m < j → ys[m]? ≠ some z
  | [], j, h => by cases h
  | y :: r, j, h => by
    rw [fstAt] at h
    split at h
    · next e =>
      cases h
      exact ⟨by rw [e]; rfl, fun m hm => by omega⟩
    · next e =>
      cases hr : fstAt z r with
      | none => rw [hr] at h; cases h
      | some i =>
        rw [hr] at h
        cases h
        obtain ⟨h1, h2⟩ := fstAt_spec hr
        refine ⟨by simpa using h1, fun m (hm : m < i + 1) => ?_⟩
        cases m with
        | zero =>
          intro w
          exact e (by simpa using w)
        | succ m =>
          have := h2 m (by omega)
          simpa using this
def tixT : T → T → Option T
  | .tup false xs, .str z => match strsL xs with
    | some ys => match fstAt z ys with
      | some j => some (.int (j : Nat))
      | none => none
    | none => none
  | _, _ => none
/-- k.index(e): k a tuple of texts that stays -/
def cTix (k : T) (a : Ev) : Ev := fun env => match a env with
  | some (o, e) => match vw e o with
    | some x => match tixT k x with
      | some t => some (.t t, e)
      | none => none
    | none => none
  | none => none
@[simp] theorem cTix_def (k : T) (a : Ev) (env : Env) : cTix k a env = (a env).bind fun p => (vw p.2 p.1).bind fun x => (tixT k x).bind fun t => some (.t t, p.2) := by
  unfold cTix
  cases a env with
  | none => rfl
  | some p =>
    simp only [Option.bind_some]
    cases vw p.2 p.1 with
    | none => rfl
    | some x => simp only [Option.bind_some]; cases tixT k x <;> rfl
theorem eTix {w : Addr} {ys : List Str} {ta : TE} {a : Ev} (hk : KTp K w (ys.map V.str)) (ha : ESnd K ta a) : ESnd K (tBM K "tuple" (rTix K) (tC (.ref w)) (tCons ta tNil)) (cTix (.tup false (ys.map T.str)) a) := by
  intro env o env' h σ F O f a0 Q q
  simp only [cTix] at h
  split at h
  · next o1 e1 h1 =>
    split at h
    · next x hx =>
      split at h
      · next t ht =>
        cases h
        have hq : ∀ H, SqT K H w (ys.map V.str) := hk.sq
        refine ⟨.inr (.inl ⟨rfl, by obtain ⟨o, its, n, h, _⟩ := hk; exact ⟨o, h⟩⟩), ?_⟩
        refine ha _ _ _ h1 σ F O f a0 _ fun v F1 O1 fp1 f1 a1 s1 r1 => ?_
        obtain ⟨g1, w1, _⟩ := r1.view a1.e hx
        unfold tixT at ht
        split at ht
        · next xs z he =>
          injection he with e1 e2
          subst e2
          rw [strsL_map] at ht
          simp only at ht
          split at ht
          · next j hj =>
            cases ht
            cases w1
            obtain ⟨j1, j2⟩ := fstAt_spec hj
            exact ⟨w, ys, z, j, rfl, rfl, hq _, j1, j2, q _ F1 O1 [] f1 (a1.only) s1.snd (.int _)⟩
          · cases ht
        · cases ht
      · cases h
    · cases h
  · cases h
theorem xTix {e : Expr} {te : TE} {ev : Ev} {p2 p3 pos : Pos} {x : Str} {ys : List Str} (hg : Gl X x) (hm : ∃ a, X.mg x = some (.ref a) ∧ KTp K a (ys.map V.str)) (ha : SE K X e te ev) (hd : (x == ("__debug__" : Str)) = false := by decide)
    (hst : starEach [e] X.env = (false, eval e X.env) :: starEach [] X.env := by rfl)
    (hbase : attributeBase (.Name x p2) "index" X.env (eval (.Name x p2) X.env) = eval (.Name x p2) X.env := by rfl)
    (hfew : ((backTo pos (starEach [e] X.env)).all (fun x => !x.1) && (backToKw pos (keywordEach [] X.env)).all (fun x => x.1.isSome) && decide ([e].length + ([] : List Keyword).length + (if ([] : List Keyword).isEmpty then 0 else 1) < 30)) = true := by rfl)
    (hline : (p3.endLine == pos.line) = true := by rfl) :
    SE K X (.Call (.Attribute (.Name x p2) "index" p3) [e] [] pos) (tBM K "tuple" (rTix K) (tC (.ref hm.choose)) (tCons te tNil)) (cTix (.tup false (ys.map T.str)) ev) := by
  cases ha.k
  exact ⟨pe_bm PySem.F.plainAttrs_tuple PySem.F.slot_tuple_index PySem.F.type_tuple_index mt_tup_index (pe_glob hg hm.choose_spec.1 rfl hd) (pa_cons ha.p pa_nil hst) hbase hfew hline hst (by rfl), eTix hm.choose_spec.2 ha.s, rfl⟩
end
/-! x.reverse() -/
section
variable {K : PySem.W.Frag} {X : Cx} {F O : Hp}
theorem Rls.rev : ∀ {vs : List V} {ts : List T} {g : List Addr}, Rls K F O vs ts g → ∃ g2, Rls K F O vs.reverse ts.reverse g2 ∧ ∀ a, g2.count a = g.count a
  | _, _, _, .nil => ⟨[], .nil, fun _ => rfl⟩
  | _, _, _, .cons (v := v) (t := t) (f := f) h r => by
    obtain ⟨g2, h1, h2⟩ := Rls.rev r
    refine ⟨g2 ++ (f ++ []), ?_, fun a => ?_⟩
    · rw [List.reverse_cons, List.reverse_cons]
      exact h1.append (.cons h .nil)
    · have := h2 a
      simp only [List.count_append, List.count_nil]
      omega
def cRvs (i : Nat) : Ev := fun env => match env[i]? with
  | some (some (.lst true xs)) => some (.t .non, env.set i (some (.lst true xs.reverse)))
  | _ => none
@[simp] theorem cRvs_def (i : Nat) (env : Env) : cRvs i env = (ownL env i).bind fun xs => some (.t .non, env.set i (some (.lst true xs.reverse))) := by
  unfold cRvs
  split
  · next xs h => rw [at_ownL h]; rfl
  · next h => rw [at_nownL h]; rfl
theorem eRvs {i : Nat} : ESnd K (tBM0 K "list" rReverse (tVar i)) (cRvs i) := by
  intro env o env' h σ F O f a0 Q q
  simp only [cRvs] at h
  split at h
  · next xs h0 =>
    cases h
    obtain ⟨p, vs, fs, g0, k0, r2, w⟩ := wr a0 (fun a z => by cases z) h0
    obtain ⟨g2, r3, c3⟩ := r2.rev
    refine ⟨.ref p, g0, .inl ⟨rfl, vs, .inl (.inl (jn_O k0))⟩, p, vs, rfl, rfl, jn_O k0, ?_⟩
    rw [upd_jn]
    obtain ⟨f', a2, s2, _⟩ := w vs.reverse xs.reverse g2 r3 fun a => by have := c3 a; rw [List.count_nil]; omega
    exact q .non _ _ [] f' a2 s2 .non
  · cases h
theorem xRvs {i : Nat} {x : Str} {p2 p3 pos : Pos} (h : PE X (.Name x p2) (tVar i)) (hbase : attributeBase (.Name x p2) "reverse" X.env (eval (.Name x p2) X.env) = eval (.Name x p2) X.env := by rfl) (hline : (p3.endLine == pos.line) = true := by rfl) (hk : X.K = K := by rfl) :
    SE K X (.Call (.Attribute (.Name x p2) "reverse" p3) [] [] pos) (tBM0 K "list" rReverse (tVar i)) (cRvs i) := by
  cases hk
  exact ⟨pe_bm0 PySem.F.plainAttrs_list PySem.F.slot_list_reverse PySem.F.type_list_reverse mt_reverse h hbase hline, eRvs, rfl⟩
end
end LP
set_option maxRecDepth 100000
/-! LP: range(0, n, 13), x.pop() dropped, a loop while a slot's list is lent. -/
namespace LP
open PySem L2
section
variable {K : PySem.W.Frag} {X : Cx} {F O F' O' F1 O1 F2 O2 : Hp} {σ : L2.St} {env env' : Env} {f f1 f2 fp fp1 fp2 : List Addr} {pn : List Nat}
def rngS (n : Nat) : List T := (List.range n).map fun i : Nat => T.int (13 * (i : Int))
@[simp] theorem rngS_len (n : Nat) : (rngS n).length = n := by unfold rngS; rw [List.length_map, List.length_range]
theorem rngS_at {n i : Nat} {t : T} (e : (rngS n)[i]? = some t) : i < n ∧ t = .int (13 * (i : Int)) := by
  unfold rngS at e
  rw [List.getElem?_map] at e
  cases q : (List.range n)[i]? with
  | none => rw [q] at e; cases e
  | some j =>
    rw [q] at e
    obtain ⟨h1, h2⟩ := List.getElem?_eq_some_iff.mp q
    rw [List.length_range] at h1
    rw [List.getElem_range] at h2
    subst h2
    exact ⟨h1, (Option.some.inj e).symm⟩
theorem RgC13 {n : Nat} (h : n ≤ 100000) : RgC 0 (13 * (n : Int)) 13 n := by
  have e : Builtin.Range.rangeSize 0 (13 * (n : Int)) 13 = n := by
    unfold Builtin.Range.rangeSize
    simp
    omega
  refine ⟨by decide, by decide, ?_, e⟩
  have ft : ∀ x : Int, -10000000 ≤ x → x ≤ 10000000 → Builtin.Range.rangeFitsLong x = true := fun x h1 h2 => by
    have := PySem.W.small_down (a := x) (b := 0) (by omega) (by omega) (by omega) (by omega)
    unfold Builtin.Range.small at this
    rw [Bool.and_eq_true, Bool.and_eq_true, Bool.and_eq_true, Bool.and_eq_true] at this
    exact this.1.1.1.1
  unfold Builtin.Range.small
  rw [e, ft 0 (by omega) (by omega), ft (13 * (n : Int)) (by omega) (by omega), ft 13 (by omega) (by omega), ft (n : Int) (by omega) (by omega), if_pos (by decide), ft (13 * (n : Int) + (13 - 1)) (by omega) (by omega), Bool.or_true]
  rfl
noncomputable def iRs (a : Ea) : It := fun env => match a env with
  | some (os, e) => match vws e os with
    | some [.int i, .int j, .int k] => if i = 0 ∧ k = 13 ∧ 0 ≤ j ∧ j ≤ 100000 ∧ j % 13 = 0 then some (rngS (j / 13).toNat, e) else none
    | _ => none
  | none => none
theorem yieldsS13 {F : Hp} {n : Nat} : Yields K (Itc 0 13 n) F (rngS n) := by
  intro F' O' s d i
  refine ⟨fun t e => ?_, fun hl => by rw [rngS_len] at hl; exact hl⟩
  obtain ⟨h1, rfl⟩ := rngS_at e
  refine ⟨h1, fun x H' y => ?_⟩
  obtain ⟨rfl, rfl⟩ := y
  refine ⟨F', O', rfl, d, Stp.refl, ?_⟩
  have q : (0 : Int) + (i : Int) * 13 = 13 * (i : Int) := by omega
  rw [q]
  exact .int _
theorem wRs {ta : TA} {a : Ea} (ha : ASnd K ta a) : WSnd K (iRng3 ta) (iRs a) := by
  intro env items env' h σ F O f a0 R q
  simp only [iRs] at h
  split at h
  · next o e h1 =>
    split at h
    · next i j k hx =>
      split at h
      · next z =>
        cases h
        obtain ⟨rfl, rfl, z1, z2, z3⟩ := z
        refine ha _ _ _ h1 σ F O f a0 _ fun v F1 O1 fp1 f1 a1 s1 r1 => ?_
        obtain ⟨g1, w1⟩ := r1.views a1.e hx
        cases w1 with
        | cons w w' =>
          cases w
          cases w' with
          | cons w w' =>
            cases w
            cases w' with
            | cons w w' =>
              cases w
              cases w'
              have ej : j = 13 * ((j / 13).toNat : Int) := by omega
              refine ⟨0, j, 13, (j / 13).toNat, rfl, ?_, q _ F1 O1 f1 a1.only s1.snd yieldsS13⟩
              have := RgC13 (n := (j / 13).toNat) (by omega)
              rwa [← ej] at this
      · cases h
    · cases h
  · cases h
@[simp] theorem iRs_def (a : Ea) (env : Env) : iRs a env = (a env).bind fun p => match vws p.2 p.1 with
    | some [.int i, .int j, .int k] => if i = 0 ∧ k = 13 ∧ 0 ≤ j ∧ j ≤ 100000 ∧ j % 13 = 0 then some (rngS (j / 13).toNat, p.2) else none
    | _ => none := by
  unfold iRs
  cases a env <;> rfl
/-- x.pop(), what is popped let go -/
def cPopS (i : Nat) : S := fun env => match env[i]? with
  | some (some (.lst true xs)) => if 0 < xs.length then some (.nx (env.set i (some (.lst true xs.dropLast)))) else none
  | _ => none
@[simp] theorem cPopS_def (i : Nat) (env : Env) : cPopS i env = (ownL env i).bind fun xs => if 0 < xs.length then some (.nx (env.set i (some (.lst true xs.dropLast)))) else none := by
  unfold cPopS
  split
  · next xs h => rw [at_ownL h]; rfl
  · next h => rw [at_nownL h]; rfl
theorem sPop {i : Nat} : SSnd K pn (tDrop (tBM0 K "list" rPop (tVar i))) (cPopS i) := by
  intro env out h σ F O f a0 D q
  simp only [cPopS] at h
  split at h
  · next xs h0 =>
    split at h
    · next hl =>
      cases h
      obtain ⟨p, vs, fs, g0, k0, r2, w⟩ := wr a0 (fun a z => by cases z) h0
      have hv : vs.length - 1 < vs.length := by rw [r2.len]; omega
      refine ⟨.ref p, g0, .inl ⟨rfl, vs, .inl (.inl (jn_O k0))⟩, p, vs, vs[vs.length - 1], rfl, rfl, jn_O k0, List.getElem?_eq_getElem hv, ?_⟩
      obtain ⟨g1, g2, q1, q2, q3⟩ := Rls.take (n := vs.length - 1) r2
      rw [upd_jn]
      obtain ⟨f', a2, s2, _⟩ := w vs.dropLast xs.dropLast g1 (by
        rw [List.dropLast_eq_take, List.dropLast_eq_take, ← r2.len]
        exact q1) fun a => by have := q3 a; rw [List.count_nil]; omega
      exact q σ _ _ f' a2 s2 Same2.refl
    · cases h
  · cases h
theorem zPop {i : Nat} {x : Str} {p2 p3 pos pos' : Pos} (h : PE X (.Name x p2) (tVar i)) (hbase : attributeBase (.Name x p2) "pop" X.env (eval (.Name x p2) X.env) = eval (.Name x p2) X.env := by rfl) (hline : (p3.endLine == pos.line) = true := by rfl) (hk : X.K = K := by rfl)
    (hs : swapsWith (.Call (.Attribute (.Name x p2) "pop" p3) [] [] pos) none pos'.line X.env = pure false := by rfl) :
    SS K X pn (.Expr (.Call (.Attribute (.Name x p2) "pop" p3) [] [] pos) pos') (tDrop (tBM0 K "list" rPop (tVar i))) (cPopS i) := by
  cases hk
  exact ⟨ps_expr (pe_bm0 PySem.F.plainAttrs_list PySem.F.slot_list_pop PySem.F.type_list_pop mt_pop h hbase hline) hs, sPop, rfl⟩
end
section
variable {K : PySem.W.Frag} {X : Cx} {tg a b c : Expr} {tas : TA} {eas : Ea} {p2 pos : Pos}
theorem iRs_ (hg : Gl X "range") (hm : X.mg "range" = none) (h : SA K X [a, b, c] tas eas) (hs : starEach [a, b, c] X.env = (false, eval a X.env) :: starEach [b, c] X.env := by rfl) (hpl : (backTo pos (starEach [b, c] X.env)).any (·.1) = false := by rfl) :
    SI K X tg (.Call (.Name "range" p2) [a, b, c] [] pos) (iRng3 tas) (iRs eas) := by
  cases h.k
  exact ⟨pi_range3 hg hm h.p hs hpl, wRs h.s, rfl⟩
end
end LP
set_option maxRecDepth 100000
/-! LP: paths of constant indices through owned lists and tuples: append and clear at their end. -/
namespace LP
open PySem L2
section
variable {K : PySem.W.Frag} {X : Cx} {F O F' O' F1 O1 F2 O2 : Hp} {σ : L2.St} {env env' : Env} {f f1 f2 fp fp1 fp2 : List Addr} {pn : List Nat}
theorem Rls.updAt2 : ∀ {vs : List V} {ts : List T} {f : List Addr} {j : Nat} {t : T}, Rls K F O vs ts f → ts[j]? = some t → ∃ (v : V) (g h : List Addr), vs[j]? = some v ∧ Rl K F O v t g ∧ (∀ a, g.count a + h.count a = f.count a) ∧
    ∀ (F' O' : Hp) (t' : T) (g' : List Addr), Same F F' → (∀ a ∈ h, ∀ o, O a = some o → O' a = some o) → Rl K F' O' v t' g' → ∃ f', Rls K F' O' vs (ts.set j t') f' ∧ ∀ a, f'.count a = g'.count a + h.count a
  | _, _, _, _, _, .nil, e => by simp at e
  | _, _, _, 0, t', .cons (v := v) (t := t0) (f := f0) (fs := fs) h r, e => by
    have e2 : t0 = t' := by simpa using e
    subst e2
    refine ⟨v, f0, fs, rfl, h, fun a => by rw [List.count_append], fun F' O' t' g' s k x => ⟨g' ++ fs, .cons x (r.mono s k), fun a => by rw [List.count_append]⟩⟩
  | _, _, _, j + 1, _, .cons (v := v) (t := t0) (f := f0) (fs := fs) h r, e => by
    obtain ⟨u, g, l, h1, h2, h3, h4⟩ := Rls.updAt2 (j := j) r (by simpa using e)
    refine ⟨u, g, f0 ++ l, by simpa using h1, h2, fun a => by have := h3 a; rw [List.count_append, List.count_append]; omega, fun F' O' t' g' s k x => ?_⟩
    obtain ⟨f', h5, h6⟩ := h4 F' O' t' g' s (fun a z => k a (List.mem_append_right _ z)) x
    exact ⟨f0 ++ f', .cons (h.mono s fun a z => k a (List.mem_append_left _ z)) h5, fun a => by have := h6 a; rw [List.count_append, List.count_append]; omega⟩
/-- along a path of constant indices -/
def gtP : T → List Int → Option T
  | t, [] => some t
  | t, j :: r => match kids t with
    | some ts => match ixN ts.length j with
      | some k => match ts[k]? with
        | some u => gtP u r
        | none => none
      | none => none
    | none => none
def stP : T → List Int → T → T
  | _, [], u => u
  | t, j :: r, u => match kids t with
    | some ts => match ixN ts.length j with
      | some k => match ts[k]? with
        | some x => rekid t (ts.set k (stP x r u))
        | none => t
      | none => t
    | none => t
def Wlk (H : Hp) : V → List Int → V → Prop
  | v, [], w => v = w
  | v, j :: r, w => ∃ p vs u, v = .ref p ∧ (H p = some (.lst vs) ∨ H p = some (.tup vs)) ∧ L2.atI vs j = some u ∧ Wlk H u r w
theorem Wlk.mono {H H' : Hp} (k : ∀ a o, H a = some o → H' a = some o) : ∀ {pth : List Int} {v w : V}, Wlk H v pth w → Wlk H' v pth w
  | [], _, _, h => h
  | _ :: _, _, _, ⟨p, vs, u, h1, h2, h3, h4⟩ => ⟨p, vs, u, h1, h2.imp (k _ _) (k _ _), h3, Wlk.mono k h4⟩
theorem Wlk.det {H : Hp} : ∀ {pth : List Int} {v w w' : V}, Wlk H v pth w → Wlk H v pth w' → w = w'
  | [], _, _, _, h, h' => h.symm.trans h'
  | _ :: _, _, _, _, ⟨p, vs, u, h1, h2, h3, h4⟩, ⟨p', vs', u', k1, k2, k3, k4⟩ => by
    rw [h1] at k1
    cases k1
    have : vs = vs' := by rcases h2 with h2 | h2 <;> rcases k2 with k2 | k2 <;> rw [h2] at k2 <;> cases k2 <;> rfl
    subst this
    rw [h3] at k3
    cases k3
    exact h4.det k4
theorem Wlk.snoc {H : Hp} : ∀ {pth : List Int} {v w : V} {j : Int}, Wlk H v (pth ++ [j]) w → ∃ p vs, Wlk H v pth (.ref p) ∧ (H p = some (.lst vs) ∨ H p = some (.tup vs)) ∧ L2.atI vs j = some w
  | [], _, _, _, ⟨p, vs, u, h1, h2, h3, h4⟩ => by
    cases (show u = _ from h4)
    exact ⟨p, vs, h1, h2, h3⟩
  | _ :: r, _, _, j, ⟨p, vs, u, h1, h2, h3, h4⟩ => by
    obtain ⟨q, ws, k1, k2, k3⟩ := Wlk.snoc (pth := r) h4
    exact ⟨q, ws, ⟨p, vs, u, h1, h2, h3, k1⟩, k2, k3⟩
theorem Rl.deep : ∀ {pth : List Int} {v : V} {t u : T} {f : List Addr}, Rl K F O v t f → gtP t pth = some u → ∃ (w : V) (g h : List Addr), Wlk O v pth w ∧ Rl K F O w u g ∧ (∀ a, g.count a + h.count a = f.count a) ∧
    ∀ (F' O' : Hp) (u' : T) (g' : List Addr), Same F F' → (∀ a ∈ h, ∀ o, O a = some o → O' a = some o) → Rl K F' O' w u' g' → ∃ f', Rl K F' O' v (stP t pth u') f' ∧ ∀ a, f'.count a = g'.count a + h.count a
  | [], v, t, u, f, r, e => by
    cases (Option.some.inj e : t = u)
    exact ⟨v, f, [], rfl, r, fun a => by rw [List.count_nil]; omega, fun F' O' u' g' s k x => ⟨g', x, fun a => by rw [List.count_nil]; omega⟩⟩
  | j :: pth, v, t, u, f, r, e => by
    unfold gtP at e
    split at e
    · next ts hk =>
      split at e
      · next k hi =>
        split at e
        · next x hx =>
          have core : ∀ (p : Addr) (vs : List V) (fs : List Addr), v = .ref p → f = p :: fs → (O p = some (.lst vs) ∨ O p = some (.tup vs)) → Rls K F O vs ts fs → (∀ (F' O' : Hp) (ts' : List T) (fs' : List Addr), O' p = O p → Rls K F' O' vs ts' fs' → Rl K F' O' (.ref p) (rekid t ts') (p :: fs')) →
              ∃ (w : V) (g h : List Addr), Wlk O v (j :: pth) w ∧ Rl K F O w u g ∧ (∀ a, g.count a + h.count a = f.count a) ∧
              ∀ (F' O' : Hp) (u' : T) (g' : List Addr), Same F F' → (∀ a ∈ h, ∀ o, O a = some o → O' a = some o) → Rl K F' O' w u' g' → ∃ f', Rl K F' O' v (stP t (j :: pth) u') f' ∧ ∀ a, f'.count a = g'.count a + h.count a := by
            intro p vs fs ev ef hp rs mk
            subst ev
            subst ef
            obtain ⟨v1, g1, h1, q1, q2, q3, q4⟩ := rs.updAt2 hx
            obtain ⟨w, g, h2, k1, k2, k3, k4⟩ := Rl.deep q2 e
            refine ⟨w, g, p :: (h1 ++ h2), ⟨p, vs, v1, rfl, hp, by unfold L2.atI; rw [rs.len, hi]; exact q1, k1⟩, k2, fun a => ?_, fun F' O' u' g' s k x => ?_⟩
            · have := q3 a
              have := k3 a
              rw [List.count_cons, List.count_cons, List.count_append]
              omega
            · obtain ⟨f1, z1, z2⟩ := k4 F' O' u' g' s (fun a z => k a (List.mem_cons_of_mem _ (List.mem_append_right _ z))) x
              obtain ⟨f2, z3, z4⟩ := q4 F' O' _ f1 s (fun a z => k a (List.mem_cons_of_mem _ (List.mem_append_left _ z))) z1
              refine ⟨p :: f2, ?_, fun a => ?_⟩
              · have hOp : O' p = O p := by
                  rcases hp with hp | hp <;> rw [hp] <;> exact k p (List.mem_cons_self ..) _ hp
                have := mk F' O' _ f2 hOp z3
                unfold stP
                rw [hk]
                simp only [hi, hx]
                exact this
              · have := z2 a
                have := z4 a
                rw [List.count_cons, List.count_cons, List.count_append]
                omega
          cases r with
          | lstO ho r => cases hk; exact core _ _ _ rfl rfl (.inl ho) r fun F' O' ts' fs' z x => .lstO (z.trans ho) x
          | tupO ho r => cases hk; exact core _ _ _ rfl rfl (.inr ho) r fun F' O' ts' fs' z x => .tupO (z.trans ho) x
          | _ => cases hk
        · cases e
      · cases e
    · cases e
/-- what a path's expression does -/
structure SPt (K : PySem.W.Frag) (X : Cx) (e : Expr) (te : TE) (i : Nat) (pth : List Int) : Prop where
  p : PE X e te
  s : ∀ {σ : L2.St} {H : Hp} {v w : V}, σ[i]? = some (some v) → Wlk H v pth w → ∀ Q : VK, Q w H → te σ H Q
  k : X.K = K := by rfl
structure SIxC (K : PySem.W.Frag) (X : Cx) (e : Expr) (te : TE) (j : Int) : Prop where
  p : PE X e te
  s : ∀ {σ : L2.St} {H : Hp} (Q : VK), Q (.int j) H → te σ H Q
  k : X.K = K := by rfl
/-- the list at the path's end is another: what is known then -/
theorem wrP {i : Nat} {pth : List Int} {t : T} {xs : List T} (a1 : At K σ F O env [] f) (e : env[i]? = some (some t)) (hg : gtP t pth = some (.lst true xs)) :
    ∃ v q ws gs, σ[i]? = some (some v) ∧ Wlk O v pth (.ref q) ∧ O q = some (.lst ws) ∧ Rls K F O ws xs gs ∧
      ∀ (ws' : List V) (xs' : List T) (gs' : List Addr), Rls K F O ws' xs' gs' → (∀ a, gs'.count a ≤ gs.count a) →
      ∃ f', At K σ F (upd O q (.lst ws')) (env.set i (some (stP t pth (.lst true xs')))) [] f' ∧ Stp F O f F (upd O q (.lst ws')) f' := by
  obtain ⟨v, _, h1, h2, _⟩ := a1.e.get e
  obtain ⟨fq, f0, h3, h4, h5⟩ := a1.e.upd h1 e
  obtain ⟨w, g, h, k1, k2, k3, k4⟩ := h3.deep hg
  cases k2 with
  | lstO ho rr =>
    next q ws gs =>
    refine ⟨v, q, ws, gs, h1, k1, ho, rr, fun ws' xs' gs' r' c => ?_⟩
    have n : ∀ a, ((if q = a then 1 else 0) + gs.count a + h.count a + f0.count a) ≤ 1 := fun a => by
      have n1 := a1.nd a
      have n2 := h4 a
      have n3 := k3 a
      rw [List.nil_append] at n1
      rw [List.count_cons] at n3
      by_cases z : q = a <;> simp [z] at n3 ⊢ <;> omega
    have zq := n q
    rw [if_pos rfl] at zq
    have np : ∀ {l : List Addr}, l.count q = 0 → ∀ a ∈ l, ∀ o, O a = some o → upd O q (.lst ws') a = some o := fun z a w o e => by
      rw [upd_ne fun y => by rw [y, mem_count] at w; omega]
      exact e
    have cq := c q
    obtain ⟨fs', s1, s2⟩ := k4 F (upd O q (.lst ws')) (.lst true xs') (q :: gs') (Same.refl F) (np (by omega)) (.lstO upd_same (r'.mono (Same.refl F) (np (by omega))))
    obtain ⟨f', h6, h7⟩ := h5 F (upd O q (.lst ws')) _ fs' (Same.refl F) (np (by omega)) s1
    have h8 : ∀ a, f'.count a = (if q = a then 1 else 0) + gs'.count a + h.count a + f0.count a := fun a => by
      have n1 := h7 a
      have n2 := s2 a
      rw [List.count_cons] at n2
      by_cases z : q = a <;> simp [z] at n2 ⊢ <;> omega
    have h9 : ∀ a, f.count a = (if q = a then 1 else 0) + gs.count a + h.count a + f0.count a := fun a => by
      have n2 := h4 a
      have n3 := k3 a
      rw [List.count_cons] at n3
      by_cases z : q = a <;> simp [z] at n3 ⊢ <;> omega
    refine ⟨f', ⟨a1.d.updO (a1.d.noF ho), h6, fun a => ?_⟩, ⟨Same.refl F, fun a o z e => ?_, fun a z => .inl ?_, fun a z => ?_⟩⟩
    · rw [List.nil_append]
      have := h8 a
      have := n a
      have := c a
      omega
    · rw [upd_ne fun y => z ?_]
      · exact e
      · rw [y, mem_count]
        have := h9 q
        rw [if_pos rfl] at this
        omega
    · rw [mem_count] at z ⊢
      have e1 := h8 a
      have e2 := h9 a
      have e3 := c a
      omega
    · rw [← upd_jn]
      by_cases w : a = q
      · rw [w, upd_same]; exact fun z => nomatch z
      · rw [upd_ne w]; exact z
theorem jnO_mono : ∀ a o, O a = some o → jn F O a = some o := fun _ _ h => jn_O h
/-- a plain thing is reckoned, all lent: nothing owned changes -/
theorem lendS {ta : TE} {a : Ev} (ha : ESnd K ta a) {r : T} {e : Env} (h1 : a (erE env) = some (.t r, e)) (hr : scT r = true) (a0 : At K σ F O env [] f) {Q : VK}
    (q : ∀ v F1 O1, At K σ F1 O1 env [] f → Stp F O f F1 O1 f → (∀ a u, O a = some u → O1 a = some u) → Rl K F1 O1 v r [] → Q v (jn F1 O1)) : ta σ (jn F O) Q := by
  have al := a0.e.alloc
  have j := jn_toF (F := F) al
  have e1 := a0.e.erase a0.d al fun a z => z
  have d1 : Dis (toF F O f) (offO O f) := a0.d.toF
  rw [← j]
  refine ha _ _ _ h1 σ _ _ [] ⟨d1, e1, Nd.nil⟩ _ fun v F1 O1 fp f1 a1 s1 r1 => ?_
  have r1 : Rl K F1 O1 v r fp := r1
  have hF : ∀ a ∈ f, F1 a = O a := fun a z => by
    obtain ⟨u, hu⟩ := al a z
    have : toF F O f a = some u := by unfold toF; rw [if_pos z]; exact hu
    rw [s1.f a u this, hu]
  have hO : ∀ a ∈ f, O1 a = none := fun a z => by
    obtain ⟨u, hu⟩ := al a z
    exact a1.d.noO ((hF a z).trans hu)
  have rb : Rl K (backF F1 f) (backO O O1 f) v r [] := by
    cases r <;> first | (simp [scT] at hr; done) | (cases r1; constructor)
  have jj : jn (backF F1 f) (backO O O1 f) = jn F1 O1 := by
    funext a
    by_cases z : a ∈ f
    · obtain ⟨u, hu⟩ := al a z
      rw [jn_O (show backO O O1 f a = some u by unfold backO; rw [if_pos z]; exact hu), a1.d.jn_F ((hF a z).trans hu)]
    · unfold jn backO backF
      rw [if_neg z, if_neg z]
  have sF : Same F (backF F1 f) := fun a u e => by
    have z : a ∉ f := fun z => by
      obtain ⟨w, hw⟩ := al a z
      rw [a0.d.noO e] at hw
      cases hw
    unfold backF
    rw [if_neg z]
    exact s1.f a u (a0.d.same_toF al a u e)
  have kO : ∀ a u, O a = some u → backO O O1 f a = some u := fun a u e => by
    unfold backO
    by_cases z : a ∈ f
    · rw [if_pos z]; exact e
    · rw [if_neg z]
      exact s1.k a u (fun w => by cases w) (show offO O f a = some u by unfold offO; rw [if_neg z]; exact e)
  have dd : Dis (backF F1 f) (backO O O1 f) := fun a => by
    unfold backF backO
    by_cases z : a ∈ f
    · rw [if_pos z]; exact .inl rfl
    · rw [if_neg z, if_neg z]; exact a1.d a
  rw [← jj]
  refine q v _ _ ⟨dd, a0.e.mono sF fun a _ u e => kO a u e, a0.nd⟩ ⟨sF, fun a u _ e => kO a u e, fun a z => .inl z, fun a z => ?_⟩ kO rb
  rw [jj]
  refine s1.g a ?_
  rw [j]
  exact z
/-- x[..][..].append(y), y plain -/
def cAppS (i : Nat) (pth : List Int) (a : Ev) : Ev := fun env => match env[i]? with
  | some (some t) => match gtP t pth with
    | some (.lst true xs) => match a (erE env) with
      | some (.t y, _) => if scT y = true ∧ xs.length < sizeLine then some (.t .non, env.set i (some (stP t pth (.lst true (xs ++ [y]))))) else none
      | _ => none
    | _ => none
  | _ => none
theorem eAppS {i : Nat} {pth : List Int} {e0 : Expr} {te ta : TE} {a : Ev} (hp : SPt K X e0 te i pth) (ha : ESnd K ta a) : ESnd K (tBM K "list" rAppend te (tCons ta tNil)) (cAppS i pth a) := by
  intro env o env' h σ F O f a0 Q q
  unfold cAppS at h
  split at h
  · next t ht =>
    split at h
    · next xs hx =>
      split at h
      · next y e1 h1 =>
        split at h
        · next hc =>
          obtain ⟨hs, hz⟩ := hc
          cases h
          obtain ⟨v, q0, ws, gs, m1, m2, m3, m4, _⟩ := wrP a0 ht hx
          refine hp.s m1 (m2.mono jnO_mono) _ ⟨ty_l (jn_O m3), lendS ha h1 hs a0 fun y1 F1 O1 a1 s1 k1 r1 => ?_⟩
          obtain ⟨v', q2, ws2, gs2, n1, n2, n3, n4, w⟩ := wrP a1 ht hx
          rw [m1] at n1
          cases n1
          have eq : V.ref q0 = V.ref q2 := (m2.mono k1).det n2
          cases eq
          refine ⟨q0, ws2, y1, rfl, rfl, jn_O n3, by rw [n4.len]; exact hz, ?_⟩
          rw [upd_jn]
          obtain ⟨f', a2, s2⟩ := w (ws2 ++ [y1]) (xs ++ [y]) (gs2 ++ ([] ++ [])) (n4.append (.cons r1 .nil)) fun a => by simp only [List.count_append, List.count_nil]; omega
          exact q .non _ _ [] f' a2 (s1.trans s2) .non
        · cases h
      · cases h
    · cases h
  · cases h
/-- x[..][..].append((c, d)), c and d constants -/
def cAppQ (i : Nat) (pth : List Int) (y : T) : Ev := fun env => match env[i]? with
  | some (some t) => match gtP t pth with
    | some (.lst true xs) => if xs.length < sizeLine then some (.t .non, env.set i (some (stP t pth (.lst true (xs ++ [y]))))) else none
    | _ => none
  | _ => none
theorem eAppQ {i : Nat} {pth : List Int} {e0 : Expr} {te : TE} {v1 v2 : V} {t1 t2 : T} (hp : SPt K X e0 te i pth) (g1 : ∀ F O, Rl K F O v1 t1 []) (g2 : ∀ F O, Rl K F O v2 t2 []) : ESnd K (tBM K "list" rAppend te (tCons (tTup (tCons (tC v1) (tCons (tC v2) tNil))) tNil)) (cAppQ i pth (.tup false [t1, t2])) := by
  intro env o env' h σ F O f a0 Q q
  unfold cAppQ at h
  split at h
  · next t ht =>
    split at h
    · next xs hx =>
      split at h
      · next hz =>
        cases h
        obtain ⟨v, q0, ws, gs, m1, m2, m3, m4, _⟩ := wrP a0 ht hx
        refine hp.s m1 (m2.mono jnO_mono) _ ⟨ty_l (jn_O m3), (show 2 ≤ sizeLine by decide), fun p' hp' => ?_⟩
        have sm : Same F (upd F p' (.tup [v1, v2])) := same_new (jn_none hp').1
        have a1 : At K σ (upd F p' (.tup [v1, v2])) O env [] f := ⟨a0.d.updF (jn_none hp').2, a0.e.mono sm fun _ _ _ e => e, a0.nd⟩
        obtain ⟨v', q2, ws2, gs2, n1, n2, n3, n4, w⟩ := wrP a1 ht hx
        rw [m1] at n1
        cases n1
        have eq : V.ref q0 = V.ref q2 := m2.det n2
        cases eq
        rw [upd_jnF (jn_none hp').2]
        refine ⟨q0, ws2, .ref p', rfl, rfl, jn_O n3, by rw [n4.len]; exact hz, ?_⟩
        rw [upd_jn]
        have rt : Rl K (upd F p' (.tup [v1, v2])) O (.ref p') (.tup false [t1, t2]) [] := .tupF (.inl (.inl upd_same)) (.cons (f := []) (fs := []) (g1 _ _) (.cons (f := []) (fs := []) (g2 _ _) .nil))
        obtain ⟨f', a2, s2⟩ := w (ws2 ++ [.ref p']) (xs ++ [.tup false [t1, t2]]) (gs2 ++ ([] ++ [])) (n4.append (.cons rt .nil)) fun a => by simp only [List.count_append, List.count_nil]; omega
        exact q .non _ _ [] f' a2 ((stp_new hp').trans s2) .non
      · cases h
    · cases h
  · cases h
/-- x[..][..].clear() -/
def cClrQ (i : Nat) (pth : List Int) : Ev := fun env => match env[i]? with
  | some (some t) => match gtP t pth with
    | some (.lst true _) => some (.t .non, env.set i (some (stP t pth (.lst true []))))
    | _ => none
  | _ => none
theorem eClrQ {i : Nat} {pth : List Int} {e0 : Expr} {te : TE} (hp : SPt K X e0 te i pth) : ESnd K (tBM0 K "list" rClear te) (cClrQ i pth) := by
  intro env o env' h σ F O f a0 Q q
  unfold cClrQ at h
  split at h
  · next t ht =>
    split at h
    · next xs hx =>
      cases h
      obtain ⟨v, q0, ws, gs, m1, m2, m3, m4, w⟩ := wrP a0 ht hx
      refine hp.s m1 (m2.mono jnO_mono) _ ⟨ty_l (jn_O m3), q0, ws, rfl, rfl, jn_O m3, ?_⟩
      rw [upd_jn]
      obtain ⟨f', a2, s2⟩ := w [] [] [] .nil fun a => by rw [List.count_nil]; omega
      exact q .non _ _ [] f' a2 s2 .non
    · cases h
  · cases h
end
section
variable {K : PySem.W.Frag} {X : Cx} {a b e e2 : Expr} {ta tb te t2 : TE} {ea eb : Ev} {pos p2 p3 p5 p6 : Pos} {i : Nat} {pth : List Int}
theorem ptV {x : Str} (h : PE X (.Name x pos) (tVar i)) (hk : X.K = K := by rfl) : SPt K X (.Name x pos) (tVar i) i [] := by
  cases hk
  exact ⟨h, fun h1 h2 Q q => ⟨_, h1, by cases (h2 : _ = _); exact q⟩, rfl⟩
theorem icI {j : Int} {k : Nat} (hk : X.K = K := by rfl) : SIxC K X (.Constant (.int j) k pos) (tC (.int j)) j := by
  cases hk
  exact ⟨pe_int, fun Q q => q, rfl⟩
theorem icN {j : Int} (h : SIxC K X a ta j) : SIxC K X (.UnaryOp .USub a pos) (tUn (rU fun i => .int (-i)) ta) (-j) := by
  cases h.k
  have h0 : SE X.K X a ta (fun env => none) := ⟨h.p, fun env o env' h => (by cases h), rfl⟩
  exact ⟨(xNeg h0).p, fun Q q => h.s _ ⟨j, rfl, q⟩, rfl⟩
theorem ptIx {j : Int} (h : SPt K X e te i pth) (hj : SIxC K X e2 t2 j) (hp : ∀ c k, subscripted e2 false c k = operate [c, k] (getItem c k) := by intro _ _; rfl) : SPt K X (.Subscript e e2 pos) (tOp (rIx K) te t2) i (pth ++ [j]) := by
  cases h.k
  have h0 : SE X.K X e te (fun env => none) := ⟨h.p, fun env o env' h => (by cases h), rfl⟩
  have h1 : SE X.K X e2 t2 (fun env => none) := ⟨hj.p, fun env o env' h => (by cases h), rfl⟩
  refine ⟨(xIx h0 h1 hp).p, fun {σ H v w} hs hw Q q => ?_, rfl⟩
  obtain ⟨p, vs, k1, k2, k3⟩ := hw.snoc
  refine h.s hs k1 _ (hj.s _ ?_)
  rcases k2 with k2 | k2
  · exact .inl ⟨_, _, _, _, rfl, rfl, .inl (.inl k2), k3, q⟩
  · exact .inr (.inl ⟨_, _, _, _, rfl, rfl, .inl (.inl k2), k3, q⟩)
theorem xAppS (h : SPt K X e te i pth) (ha : SE K X a ta ea)
    (hbase : attributeBase e "append" X.env (eval e X.env) = eval e X.env := by rfl)
    (hst : starEach [a] X.env = (false, eval a X.env) :: starEach [] X.env := by rfl)
    (hfew : ((backTo pos (starEach [a] X.env)).all (fun x => !x.1) && (backToKw pos (keywordEach [] X.env)).all (fun x => x.1.isSome) && decide ([a].length + ([] : List Keyword).length + (if ([] : List Keyword).isEmpty then 0 else 1) < 30)) = true := by rfl)
    (hline : (p3.endLine == pos.line) = true := by rfl) (hstar : starEach [a] X.env = [(false, eval a X.env)] := by rfl) :
    SE K X (.Call (.Attribute e "append" p3) [a] [] pos) (tBM K "list" rAppend te (tCons ta tNil)) (cAppS i pth ea) := by
  cases ha.k
  exact ⟨pe_bm PySem.F.plainAttrs_list PySem.F.slot_list_append PySem.F.type_list_append mt_append h.p (pa_cons ha.p pa_nil hst) hbase hfew hline hst (by rfl), eAppS h ha.s, rfl⟩
theorem xAppQ {v1 v2 : V} {t1 t2 : T} {k6 : Nat} (h : SPt K X e te i pth) (ha : SE K X a (tC v1) (cK t1)) (g1 : ∀ F O, Rl K F O v1 t1 []) (hb : SE K X b (tC v2) (cK t2)) (g2 : ∀ F O, Rl K F O v2 t2 [])
    (hs1 : starEach [b] X.env = (false, eval b X.env) :: starEach [] X.env := by rfl) (hs2 : starEach [a, b] X.env = (false, eval a X.env) :: starEach [b] X.env := by rfl)
    (hst : starEach [.Tuple [a, b] k6 p6] X.env = (false, eval (.Tuple [a, b] k6 p6) X.env) :: starEach [] X.env := by rfl)
    (hbase : attributeBase e "append" X.env (eval e X.env) = eval e X.env := by rfl)
    (hfew : ((backTo pos (starEach [.Tuple [a, b] k6 p6] X.env)).all (fun x => !x.1) && (backToKw pos (keywordEach [] X.env)).all (fun x => x.1.isSome) && decide ([Expr.Tuple [a, b] k6 p6].length + ([] : List Keyword).length + (if ([] : List Keyword).isEmpty then 0 else 1) < 30)) = true := by rfl)
    (hline : (p3.endLine == pos.line) = true := by rfl) :
    SE K X (.Call (.Attribute e "append" p3) [.Tuple [a, b] k6 p6] [] pos) (tBM K "list" rAppend te (tCons (tTup (tCons (tC v1) (tCons (tC v2) tNil))) tNil)) (cAppQ i pth (.tup false [t1, t2])) := by
  cases ha.k
  exact ⟨pe_bm PySem.F.plainAttrs_list PySem.F.slot_list_append PySem.F.type_list_append mt_append h.p (pa_cons (pe_tup (pa_cons ha.p (pa_cons hb.p pa_nil hs1) hs2)) pa_nil hst) hbase hfew hline hst (by rfl), eAppQ h g1 g2, rfl⟩
theorem xClrQ (h : SPt K X e te i pth)
    (hbase : attributeBase e "clear" X.env (eval e X.env) = eval e X.env := by rfl) (hline : (p3.endLine == pos.line) = true := by rfl) :
    SE K X (.Call (.Attribute e "clear" p3) [] [] pos) (tBM0 K "list" rClear te) (cClrQ i pth) := by
  cases h.k
  exact ⟨pe_bm0 PySem.F.plainAttrs_list PySem.F.slot_list_clear PySem.F.type_list_clear mt_clear h.p hbase hline, eClrQ h, rfl⟩
end
def pthL (t : T) (pth : List Int) : Option (List T) := match gtP t pth with
  | some (.lst true xs) => some xs
  | _ => none
def slotT (env : Env) (i : Nat) : Option T := match env[i]? with
  | some (some t) => some t
  | _ => none
@[simp] theorem cAppS_def (i : Nat) (pth : List Int) (a : Ev) (env : Env) : cAppS i pth a env = (slotT env i).bind fun t => (pthL t pth).bind fun xs => (a (erE env)).bind fun p => match p.1 with
    | .t y => if scT y = true ∧ xs.length < sizeLine then some (.t .non, env.set i (some (stP t pth (.lst true (xs ++ [y]))))) else none
    | _ => none := by
  unfold cAppS slotT pthL
  split
  · next t h =>
    simp only [h, Option.bind_some]
    split
    · next xs h2 =>
      simp only [h2, Option.bind_some]
      cases a (erE env) with
      | none => rfl
      | some p => obtain ⟨o, e⟩ := p; cases o <;> rfl
    · next h2 =>
      rfl
  · next h =>
    rfl
@[simp] theorem cAppQ_def (i : Nat) (pth : List Int) (y : T) (env : Env) : cAppQ i pth y env = (slotT env i).bind fun t => (pthL t pth).bind fun xs => if xs.length < sizeLine then some (.t .non, env.set i (some (stP t pth (.lst true (xs ++ [y]))))) else none := by
  unfold cAppQ slotT pthL
  split
  · next t h =>
    simp only [h, Option.bind_some]
    split
    · next xs h2 => simp only [h2, Option.bind_some]
    · next h2 =>
      rfl
  · next h =>
    rfl
@[simp] theorem cClrQ_def (i : Nat) (pth : List Int) (env : Env) : cClrQ i pth env = (slotT env i).bind fun t => (pthL t pth).bind fun xs => some (.t .non, env.set i (some (stP t pth (.lst true [])))) := by
  unfold cClrQ slotT pthL
  split
  · next t h =>
    simp only [h, Option.bind_some]
    split
    · next xs h2 => simp only [h2, Option.bind_some]
    · next h2 =>
      rfl
  · next h =>
    rfl
end LP
set_option maxRecDepth 100000
/-! LP: paths with slots as indices: append, pop, store at their end. -/
namespace LP
open PySem L2
def intAt (env : Env) (m : Nat) : Option Int := match env[m]? with
  | some (some (.int n)) => some n
  | _ => none
section
variable {K : PySem.W.Frag} {X : Cx} {F O F' O' F1 O1 F2 O2 : Hp} {σ : L2.St} {env env' : Env} {f f1 f2 fp fp1 fp2 : List Addr} {pn : List Nat}
theorem intAt_get {m : Nat} {n : Int} (r : RlE K F O σ env f) (h : intAt env m = some n) : σ[m]? = some (some (.int n)) := by
  unfold intAt at h
  split at h
  · next k hk =>
    cases h
    obtain ⟨v, fp, h1, h2, _⟩ := r.get hk
    cases h2
    exact h1
  · cases h
structure SPv (K : PySem.W.Frag) (X : Cx) (e : Expr) (te : TE) (i : Nat) (rp : Env → Option (List Int)) : Prop where
  p : PE X e te
  s : ∀ {F O : Hp} {σ : L2.St} {env : Env} {f : List Addr} {js : List Int} {H : Hp} {v w : V}, RlE K F O σ env f → rp env = some js → σ[i]? = some (some v) → Wlk H v js w → ∀ Q : VK, Q w H → te σ H Q
  k : X.K = K := by rfl
theorem Rls.eraseIdx : ∀ {vs : List V} {ts : List T} {g : List Addr} (k : Nat), Rls K F O vs ts g → ∃ g', Rls K F O (vs.eraseIdx k) (ts.eraseIdx k) g' ∧ ∀ a, g'.count a ≤ g.count a
  | _, _, _, _, .nil => ⟨[], .nil, fun a => Nat.le_refl _⟩
  | _, _, _, 0, .cons (f := f0) (fs := fs) h r => ⟨fs, r, fun a => by rw [List.count_append]; omega⟩
  | _, _, _, k + 1, .cons (f := f0) (fs := fs) h r => by
    obtain ⟨g', h1, h2⟩ := Rls.eraseIdx k r
    exact ⟨f0 ++ g', .cons h h1, fun a => by have := h2 a; rw [List.count_append, List.count_append]; omega⟩
/-- x[..][m] = y, y free -/
def gIxV (i : Nat) (rp : Env → Option (List Int)) (m : Nat) : Tg := fun x env => match env[i]?, rp env, intAt env m with
  | some (some t), some js, some n => match gtP t js with
    | some (.lst true xs) => match ixN xs.length n with
      | some jj => if x.fz = true then some (env.set i (some (stP t js (.lst true (xs.set jj x))))) else none
      | none => none
    | _ => none
  | _, _, _ => none
theorem tgIxV {i m : Nat} {rp : Env → Option (List Int)} {e0 : Expr} {te : TE} (hp : SPv K X e0 te i rp) : GSnd K pn (gSub te (tVar m) rSetL) (gIxV i rp m) := by
  intro x env env' h v σ F O fp f a0 r Q q
  unfold gIxV at h
  split at h
  · next t js n ht hr hm =>
    split at h
    · next xs hx =>
      split at h
      · next jj hj =>
        split at h
        · next hz =>
          cases h
          have r0 := r.own0 hz
          have e0 : fp = [] := r.noown hz
          subst e0
          obtain ⟨vv, q0, ws, gs, m1, m2, m3, m4, w⟩ := wrP a0 ht hx
          refine hp.s a0.e hr m1 (m2.mono jnO_mono) _ ⟨.int n, intAt_get a0.e hm, q0, ws, n, jj, rfl, rfl, jn_O m3, by rw [m4.len]; exact hj, ?_⟩
          obtain ⟨g2, r3, c3⟩ := m4.set (i := jj) r0
          obtain ⟨f', a2, s2⟩ := w _ _ g2 r3 fun a => by have := c3 a; rw [List.count_nil] at this; omega
          rw [upd_jn]
          exact q σ _ _ f' a2 s2 Same2.refl
        · cases h
      · cases h
    · cases h
  · cases h
/-- x[..].pop(m) -/
noncomputable def cPopV (i : Nat) (rp : Env → Option (List Int)) (m : Nat) : S := fun env => match env[i]?, rp env, intAt env m with
  | some (some t), some js, some n => match gtP t js with
    | some (.lst true xs) => match ixN xs.length n with
      | some k => if inR n = true then some (.nx (env.set i (some (stP t js (.lst true (xs.eraseIdx k)))))) else none
      | none => none
    | _ => none
  | _, _, _ => none
theorem sPopV {i m : Nat} {rp : Env → Option (List Int)} {e0 : Expr} {te : TE} (hp : SPv K X e0 te i rp) : SSnd K pn (tDrop (tBM K "list" rPopAt te (tCons (tVar m) tNil))) (cPopV i rp m) := by
  intro env out h σ F O f a0 D q
  unfold cPopV at h
  split at h
  · next t js n ht hr hm =>
    split at h
    · next xs hx =>
      split at h
      · next k hk =>
        split at h
        · next hz =>
          cases h
          rw [inR_eq] at hz
          simp only [Bool.and_eq_true, decide_eq_true_eq] at hz
          obtain ⟨vv, q0, ws, gs, m1, m2, m3, m4, w⟩ := wrP a0 ht hx
          rw [← m4.len] at hk
          obtain ⟨b1, b2, _, _⟩ := ixN_seq hk
          refine hp.s a0.e hr m1 (m2.mono jnO_mono) _ ⟨ty_l (jn_O m3), .int n, intAt_get a0.e hm, q0, ws, n, k, ws[k], rfl, rfl, jn_O m3, Int.le_trans (by decide) hz.1, Int.lt_trans hz.2 (by decide), b1, List.getElem?_eq_getElem b2, ?_⟩
          obtain ⟨g2, r3, c3⟩ := m4.eraseIdx k
          obtain ⟨f', a2, s2⟩ := w _ _ g2 r3 c3
          rw [upd_jn]
          exact q σ _ _ f' a2 s2 Same2.refl
        · cases h
      · cases h
    · cases h
  · cases h
/-- x[..].append(e): e does not name x -/
def cAppV (i : Nat) (rp : Env → Option (List Int)) (a : Ev) : Ev := fun env => match env[i]?, rp env with
  | some (some t), some js => match gtP t js with
    | some (.lst true xs) => match a (env.set i none) with
      | some (o, e1) => match e1[i]?, sto e1 o with
        | some none, some y => if y.fz && decide (xs.length < sizeLine) then some (.t .non, e1.set i (some (stP t js (.lst true (xs ++ [y]))))) else none
        | _, _ => none
      | none => none
    | _ => none
  | _, _ => none
theorem eAppV {i : Nat} {rp : Env → Option (List Int)} {e0 : Expr} {te ta : TE} {a : Ev} (hp : SPv K X e0 te i rp) (ha : ESnd K ta a) : ESnd K (tBM K "list" rAppend te (tCons ta tNil)) (cAppV i rp a) := by
  intro env o env' h σ F O f a0 Q q
  unfold cAppV at h
  split at h
  · next t js ht hr =>
    split at h
    · next xs hx =>
      split at h
      · next o1 e1 h1 =>
        split at h
        · next y hi hy =>
          split at h
          · next hz =>
            cases h
            simp only [Bool.and_eq_true, decide_eq_true_eq] at hz
            obtain ⟨v, fpt, f0, g1, rt, e0, cnt⟩ := a0.e.out ht
            -- the heap of what slot i owns
            obtain ⟨OR, hOR⟩ : ∃ OR : Hp, OR = fun a => if a ∈ fpt then O a else none := ⟨_, rfl⟩
            have rr : Rl K F OR v t fpt := rt.mono (Same.refl F) fun a z u e => by rw [hOR]; show (if a ∈ fpt then O a else none) = _; rw [if_pos z]; exact e
            have or1 : ∀ a u, OR a = some u → O a = some u := fun a u e => by
              rw [hOR] at e
              change (if a ∈ fpt then O a else none) = _ at e
              split at e
              · exact e
              · cases e
            have or2 : ∀ a u, OR a = some u → a ∈ fpt := fun a u e => by
              rw [hOR] at e
              change (if a ∈ fpt then O a else none) = _ at e
              split at e
              · assumption
              · cases e
            obtain ⟨w0, gg, hh, d1, d2, d3, _⟩ := rr.deep hx
            cases d2 with
            | @lstO q0 vs0 _ gs0 hoq rrs =>
            refine hp.s a0.e hr g1 (d1.mono fun a u e => jn_O (or1 a u e)) _ ⟨ty_l (jn_O (or1 _ _ hoq)), ?_⟩
            have nd0 : Nd (fpt ++ f0) := a0.nd.sub fun a => by rw [List.nil_append, List.count_append]; have := cnt a; omega
            have ap : ∀ a ∈ fpt, a ∉ f0 := fun a z => nd0.apart z
            refine ha _ _ _ h1 σ F O f0 ⟨a0.d, e0, nd0.right⟩ _ fun y' F1 O1 fp1 f1 a1 s1 r1 => ?_
            have ry : Rl K F1 O1 y' y [] := (r1.store a1.e hy).own0 hz.1
            have kp : ∀ a ∈ fpt, ∀ u, O a = some u → O1 a = some u := fun a z u e => s1.k a u (ap a z) e
            have rt1 : Rl K F1 O1 v t fpt := rt.mono s1.f kp
            obtain ⟨f2, e2, c2⟩ := a1.e.set (i := i) rt1
            rw [set_same g1] at e2
            have nd1 : Nd (fpt ++ f1) := s1.snd.nd rt.alloc nd0 a1.nd.right
            have il : i < e1.length := (List.getElem?_eq_some_iff.mp hi).1
            have a2 : At K σ F1 O1 (e1.set i (some t)) [] f2 := ⟨a1.d, e2, nd1.sub fun a => by rw [List.nil_append, List.count_append]; have := c2 a; omega⟩
            have kk : (e1.set i (some t))[i]? = some (some t) := List.getElem?_set_self il
            obtain ⟨v2, q2, ws2, gs2, n1, n2, n3, n6, w⟩ := wrP a2 kk hx
            rw [g1] at n1
            cases n1
            have eq : V.ref q0 = V.ref q2 := (d1.mono fun a u e => kp a (or2 a u e) u (or1 a u e)).det n2
            cases eq
            refine ⟨q0, ws2, y', rfl, rfl, jn_O n3, by rw [n6.len]; exact hz.2, ?_⟩
            rw [upd_jn]
            obtain ⟨f', a3, s3⟩ := w (ws2 ++ [y']) (xs ++ [y]) (gs2 ++ ([] ++ [])) (n6.append (.cons ry .nil)) fun a => by simp only [List.count_append, List.count_nil]; omega
            rw [List.set_set] at a3
            refine q .non _ _ [] f' a3 (Stp.trans ⟨s1.f, fun a u z e => s1.k a u (fun w => z ?_) e, fun a z => ?_, s1.g⟩ s3) .non
            · rw [mem_count] at w ⊢
              have := cnt a
              omega
            · have : a ∈ fpt ∨ a ∈ f1 := by
                rw [mem_count] at z
                have := c2 a
                rw [mem_count, mem_count]
                omega
              rcases this with z2 | z2
              · refine .inl ?_
                rw [mem_count] at z2 ⊢
                have := cnt a
                omega
              · rcases s1.n a (List.mem_append_right _ z2) with z3 | z3
                · refine .inl ?_
                  rw [mem_count] at z3 ⊢
                  have := cnt a
                  omega
                · exact .inr z3
          · cases h
        · cases h
      · cases h
    · cases h
  · cases h
end
section
variable {K : PySem.W.Frag} {X : Cx} {a b e e2 : Expr} {ta tb te t2 : TE} {ea eb : Ev} {pos pos' p2 p3 p5 p6 : Pos} {i m : Nat} {pth : List Int} {rp : Env → Option (List Int)} {pn : List Nat}
theorem pvC (h : SPt K X e te i pth) : SPv K X e te i (fun _ => some pth) := by
  cases h.k
  exact ⟨h.p, fun _ hr hs hw Q q => h.s hs (by cases hr; exact hw) Q q, rfl⟩
theorem pvIx {y : Str} (h : SPv K X e te i rp) (hy : PE X (.Name y p2) (tVar m)) (hp : PlainIx (.Name y p2) := by exact fun _ _ => rfl) :
    SPv K X (.Subscript e (.Name y p2) pos) (tOp (rIx K) te (tVar m)) i (fun env => (rp env).bind fun js => (intAt env m).map fun n => js ++ [n]) := by
  cases h.k
  have h0 : SE X.K X e te (fun env => none) := ⟨h.p, fun env o env' h => (by cases h), rfl⟩
  have h1 : SE X.K X (.Name y p2) (tVar m) (cV m) := xV hy
  refine ⟨(xIx h0 h1 hp).p, fun {F O σ env f js H v w} hr hj hs hw Q q => ?_, rfl⟩
  cases h3 : rp env with
  | none => rw [h3] at hj; cases hj
  | some js0 =>
    rw [h3] at hj
    cases h4 : intAt env m with
    | none => rw [h4] at hj; cases hj
    | some n =>
      rw [h4] at hj
      cases hj
      obtain ⟨p, vs, k1, k2, k3⟩ := hw.snoc
      refine h.s hr h3 hs k1 _ ⟨_, intAt_get hr h4, ?_⟩
      rcases k2 with k2 | k2
      · exact .inl ⟨_, _, _, _, rfl, rfl, .inl (.inl k2), k3, q⟩
      · exact .inr (.inl ⟨_, _, _, _, rfl, rfl, .inl (.inl k2), k3, q⟩)
theorem xAppV (h : SPv K X e te i rp) (ha : SE K X a ta ea)
    (hbase : attributeBase e "append" X.env (eval e X.env) = eval e X.env := by rfl)
    (hst : starEach [a] X.env = (false, eval a X.env) :: starEach [] X.env := by rfl)
    (hfew : ((backTo pos (starEach [a] X.env)).all (fun x => !x.1) && (backToKw pos (keywordEach [] X.env)).all (fun x => x.1.isSome) && decide ([a].length + ([] : List Keyword).length + (if ([] : List Keyword).isEmpty then 0 else 1) < 30)) = true := by rfl)
    (hline : (p3.endLine == pos.line) = true := by rfl) :
    SE K X (.Call (.Attribute e "append" p3) [a] [] pos) (tBM K "list" rAppend te (tCons ta tNil)) (cAppV i rp ea) := by
  cases ha.k
  exact ⟨pe_bm PySem.F.plainAttrs_list PySem.F.slot_list_append PySem.F.type_list_append mt_append h.p (pa_cons ha.p pa_nil hst) hbase hfew hline hst (by rfl), eAppV h ha.s, rfl⟩
theorem zPopV {y : Str} (h : SPv K X e te i rp) (hy : PE X (.Name y p2) (tVar m))
    (hbase : attributeBase e "pop" X.env (eval e X.env) = eval e X.env := by rfl)
    (hst : starEach [.Name y p2] X.env = (false, eval (.Name y p2) X.env) :: starEach [] X.env := by rfl)
    (hfew : ((backTo pos (starEach [.Name y p2] X.env)).all (fun x => !x.1) && (backToKw pos (keywordEach [] X.env)).all (fun x => x.1.isSome) && decide ([Expr.Name y p2].length + ([] : List Keyword).length + (if ([] : List Keyword).isEmpty then 0 else 1) < 30)) = true := by rfl)
    (hline : (p3.endLine == pos.line) = true := by rfl)
    (hs : swapsWith (.Call (.Attribute e "pop" p3) [.Name y p2] [] pos) none pos'.line X.env = pure false := by rfl) :
    SS K X pn (.Expr (.Call (.Attribute e "pop" p3) [.Name y p2] [] pos) pos') (tDrop (tBM K "list" rPopAt te (tCons (tVar m) tNil))) (cPopV i rp m) := by
  cases h.k
  exact ⟨ps_expr (pe_bm PySem.F.plainAttrs_list PySem.F.slot_list_pop PySem.F.type_list_pop mt_popAt h.p (pa_cons hy pa_nil hst) hbase hfew hline hst (by rfl)) hs, sPopV h, rfl⟩
theorem gIxV_ {y : Str} (h : SPv K X e te i rp) (hy : PE X (.Name y p3) (tVar m))
    (ha : ∀ v, assign (.Subscript e (.Name y p3) pos) X.env v = (do
      let ov ← holding [v] (eval e X.env)
      let iv ← holding [v, ov] (eval (.Name y p3) X.env)
      standAt pos
      holding [v, ov, iv] (setItem ov iv v)
      release [v, ov, iv] []) := by intro _; rfl) : SG K X pn (.Subscript e (.Name y p3) pos) (gSub te (tVar m) rSetL) (gIxV i rp m) := by
  cases h.k
  exact ⟨pg_sub h.p hy set_list ha, tgIxV h, rfl⟩
end
@[simp] theorem gIxV_def (i : Nat) (rp : Env → Option (List Int)) (m : Nat) (x : T) (env : Env) : gIxV i rp m x env = (slotT env i).bind fun t => (rp env).bind fun js => (intAt env m).bind fun n => (pthL t js).bind fun xs => (ixN xs.length n).bind fun jj => if x.fz = true then some (env.set i (some (stP t js (.lst true (xs.set jj x))))) else none := by
  unfold gIxV slotT pthL
  rcases h : env[i]? with _ | _ | t
  · rfl
  · rfl
  · simp only [Option.bind_some]
    cases h1 : rp env with
    | none => rfl
    | some js =>
      cases h2 : intAt env m with
      | none => rfl
      | some n =>
        simp only [Option.bind_some]
        rcases h3 : gtP t js with _ | u
        · rfl
        · cases u with
          | lst o xs =>
            cases o
            · rfl
            · simp only [Option.bind_some]
              cases ixN xs.length n <;> rfl
          | _ => rfl
@[simp] theorem cPopV_def (i : Nat) (rp : Env → Option (List Int)) (m : Nat) (env : Env) : cPopV i rp m env = (slotT env i).bind fun t => (rp env).bind fun js => (intAt env m).bind fun n => (pthL t js).bind fun xs => (ixN xs.length n).bind fun k => if inR n = true then some (.nx (env.set i (some (stP t js (.lst true (xs.eraseIdx k)))))) else none := by
  unfold cPopV slotT pthL
  rcases h : env[i]? with _ | _ | t
  · rfl
  · rfl
  · simp only [Option.bind_some]
    cases h1 : rp env with
    | none => rfl
    | some js =>
      cases h2 : intAt env m with
      | none => rfl
      | some n =>
        simp only [Option.bind_some]
        rcases h3 : gtP t js with _ | u
        · rfl
        · cases u with
          | lst o xs =>
            cases o
            · rfl
            · simp only [Option.bind_some]
              cases ixN xs.length n <;> rfl
          | _ => rfl
@[simp] theorem cAppV_def (i : Nat) (rp : Env → Option (List Int)) (a : Ev) (env : Env) : cAppV i rp a env = (slotT env i).bind fun t => (rp env).bind fun js => (pthL t js).bind fun xs => (a (env.set i none)).bind fun p => match p.2[i]?, sto p.2 p.1 with
    | some none, some y => if y.fz && decide (xs.length < sizeLine) then some (.t .non, p.2.set i (some (stP t js (.lst true (xs ++ [y]))))) else none
    | _, _ => none := by
  unfold cAppV slotT pthL
  rcases h : env[i]? with _ | _ | t
  · rfl
  · rfl
  · simp only [Option.bind_some]
    cases h1 : rp env with
    | none => rfl
    | some js =>
      simp only [Option.bind_some]
      rcases h3 : gtP t js with _ | u
      · rfl
      · cases u with
        | lst o xs =>
          cases o
          · rfl
          · simp only [Option.bind_some]
            rcases a (env.set i none) with _ | ⟨o, e1⟩ <;> rfl
        | _ => rfl
end LP
set_option maxRecDepth 100000
/-! LP: texts: sep.join, a text times an int, one sign in a text, len(set(texts)), split, int(text). -/
namespace L2
open PySem PySem.Spec PyProof.Rows
/-- a text so many times -/
def repS (a : Str) (k : Int) : Str := ⟨(List.replicate k.toNat a.cps).foldl (· ++ ·) #[]⟩
def rMulS : R2 := fun x y H Q => ∃ (a : Str) (k : Int), x = .str a ∧ y = .int k ∧ -1000000000 < k ∧ k < 1000000000 ∧ a.length * k.toNat ≤ 1000000 ∧ Q (.str (repS a k)) H
theorem foldl_len : ∀ (n : Nat) (x z : Array Nat), ((List.replicate n x).foldl (· ++ ·) z).size = z.size + n * x.size
  | 0, x, z => by simp
  | n + 1, x, z => by
    rw [List.replicate_succ, List.foldl_cons, foldl_len n x, Array.size_append, Nat.add_mul]
    omega
theorem foldl_nil : ∀ (n : Nat) (x z : Array Nat), x.size = 0 → (List.replicate n x).foldl (· ++ ·) z = z
  | 0, x, z, _ => rfl
  | n + 1, x, z, h => by
    have e : x = #[] := Array.size_eq_zero_iff.mp h
    rw [List.replicate_succ, List.foldl_cons, foldl_nil n x _ h, e, Array.append_empty]
theorem repS_len (a : Str) (k : Int) : (repS a k).length = k.toNat * a.length := by
  have := foldl_len k.toNat a.cps #[]
  show ((List.replicate k.toNat a.cps).foldl (· ++ ·) #[]).size = k.toNat * a.cps.size
  rw [this]
  simp
theorem op_mulS {X : Cx} : OpR X (binaryOp .Mult) rMulS := by
  intro pins s σ H x y v u Q I rx ry h
  obtain ⟨a, k, rfl, rfl, h1, h2, h3, q⟩ := h
  obtain ⟨t, rfl⟩ := rx
  obtain ⟨t', rfl⟩ := ry
  have hz : (1000000 : Nat) ≤ sizeLine := by decide
  have hl : a.length * k.toNat ≤ sizeLine := Nat.le_trans h3 hz
  refine PySem.P.mul_str ?_ (fun c1 c2 => ?_) (fun _ _ => ?_) ?_
  · have z1 : ¬ k < -(2 ^ 63 : Int) := by omega
    have z2 : ¬ k ≥ 2 ^ 63 := by omega
    rw [decide_eq_false z1, decide_eq_false z2]; rfl
  · intro w
    have kp : 0 < k := by omega
    have w2 : ((2 : Int) ^ 63 - 1) / k < (a.length : Int) := w
    have w3 := (Int.ediv_lt_iff_lt_mul kp).mp w2
    have w4 : (a.length : Int) * k = ((a.length * k.toNat : Nat) : Int) := by
      rw [Int.natCast_mul, Int.toNat_of_nonneg (by omega)]
    rw [w4] at w3
    omega
  · show decide (_ > sizeLine) = false
    exact decide_eq_false (by omega)
  · split
    · next c =>
      refine ⟨by show (Str.empty).length ≤ _; exact Nat.zero_le _, .str _, H, I.tok _, ⟨_, rfl⟩, ?_⟩
      have e : repS a k = Str.empty := by
        unfold repS
        rw [show k.toNat = 0 by omega]
        rfl
      rw [← e]
      exact q
    · next c =>
      split
      · next c2 =>
        refine ⟨.str _, H, I, ⟨_, rfl⟩, ?_⟩
        have e : repS a k = a := by
          rw [Bool.or_eq_true, beq_iff_eq, beq_iff_eq] at c2
          unfold repS
          rcases c2 with c2 | c2
          · subst c2
            show (⟨(List.replicate 1 a.cps).foldl (· ++ ·) #[]⟩ : Str) = a
            simp
          · rw [foldl_nil _ _ _ c2]
            have : a.cps = #[] := Array.size_eq_zero_iff.mp c2
            cases a
            simp only at this
            rw [this]
        rw [← e]
        exact q
      · refine ⟨?_, .str _, H, I.tok _, ⟨_, rfl⟩, q⟩
        have := repS_len a k
        show (repS a k).length ≤ sizeLine
        rw [this, Nat.mul_comm]
        exact hl
/-- len(set(xs)), xs a list of texts -/
def rLenSetT (K : PySem.W.Frag) : List V → Hp → VK → Prop := fun vs H Q => ∃ (l : Addr) (xs : List PySem.Str), vs = [.ref l] ∧ SqL K H l (xs.map V.str) ∧ xs.length < 64 ∧
  ∀ n : Nat, (∃ L : List PySem.Str, L.Nodup ∧ (∀ k, k ∈ L ↔ k ∈ xs) ∧ L.length = n) → Q (.int n) H
theorem pe_lenSetT {X : Cx} {a : Expr} {ta : TE} {p p2 q pos : Pos} (hc : X.calm = true) (hg : Gl X "len") (hm : X.mg "len" = none) (hg2 : Gl X "set") (hm2 : X.mg "set" = none) (ha : PE X a ta)
    (na : starEach [a] X.env = (false, eval a X.env) :: starEach [] X.env := by rfl) : PE X (.Call (.Name "len" p) [.Call (.Name "set" p2) [a] [] q] [] pos) (tCB (rLenSetT X.K) (tCons ta tNil)) := by
  refine ⟨fun pins s σ H Q I h => ?_⟩
  refine Call_ (ld_blt I hg hm boot_len ?_)
  refine PyProof.Rows.callWith_builtin1 (PyProof.Rows.args_cons ?_ rfl) rfl rfl
  refine Call_ (ld_blt I hg2 hm2 boot_set ?_)
  refine PyProof.Rows.callWith_type1 (PyProof.Rows.args_cons (thn (ha.run pins s σ H _ I h) fun v s1 ⟨x, H1, I1, r1, q1⟩ => PyProof.Rows.args_nil ?_) na) na rfl
  obtain ⟨l, xs, e, hq, h64, q1⟩ := q1
  cases e
  cases r1
  obtain ⟨its, r, pl, hz⟩ := I1.list hq
  refine STx.call_set_txt xs (I1.ok.hd hc) pl.isList (by simpa using strsAre_of r) (by unfold scanBound; omega) fun h' tk D L hD g hl hx kk => ?_
  refine PyProof.Rows.args_nil ?_
  have I2 : Inv X pins σ H1 { s1 with heap := h', toks := tk } := I1.kept fun b o e => kk b o e
  have hs := g.ok.sz
  refine call_len_set (es := D.1) (ep := D.2.1) (t := D.2.2) hD ⟨rfl, rfl, rfl⟩ rfl g.ok.fit (by rw [hs]; omega) ⟨.int L.length, H1, I2.tok _, ⟨_, by rw [hs]⟩, q1 L.length ⟨L, g.nd, hx, rfl⟩⟩
end L2
namespace LP
open PySem L2
/-! a text times an int -/
noncomputable def repST : T → T → Option T := fun a b => match a, b with
  | .str s, .int k => if okRep s.length k = true ∧ s.length * k.toNat ≤ 1000000 then some (.str (repS s k)) else none
  | _, _ => none
section
variable {K : PySem.W.Frag} {X : Cx} {a b : Expr} {ta tb : TE} {ea eb : Ev} {pos : Pos}
theorem sRepS : OSnd2 K rMulS repST := by
  intro F O x y a b fa fb t d ha hb e Q q
  unfold repST at e
  split at e
  · split at e
    · next h =>
      cases e
      obtain ⟨h0, h4⟩ := h
      simp only [okRep_eq, Bool.and_eq_true, decide_eq_true_eq] at h0
      obtain ⟨⟨h2, h3⟩, _⟩ := h0
      cases ha
      cases hb
      exact ⟨_, _, rfl, rfl, h2, h3, h4, q.sc d (.str _)⟩
    · cases e
  · cases e
theorem xRepS (ha : SE K X a ta ea) (hb : SE K X b tb eb) : SE K X (.BinOp a .Mult b pos) (tOp rMulS ta tb) (cO2 repST ea eb) := by
  cases ha.k
  exact xOp op_mulS sRepS ha hb
@[simp] theorem repST_def (s : Str) (k : Int) : repST (.str s) (.int k) = if okRep s.length k = true ∧ s.length * k.toNat ≤ 1000000 then some (.str (repS s k)) else none := rfl
/-! one sign in a text -/
def rInSg : R2 := fun x y H Q => ∃ (c : Nat) (z : Str), x = .str ⟨#[c]⟩ ∧ y = .str z ∧ Q (.bl (decide (c ∈ z.cps.toList))) H
def rNotInSg : R2 := fun x y H Q => ∃ (c : Nat) (z : Str), x = .str ⟨#[c]⟩ ∧ y = .str z ∧ Q (.bl (!decide (c ∈ z.cps.toList))) H
def inST (neg : Bool) : T → T → Option T
  | .str s, .str z => match s.cps.toList with
    | [c] => some (.bl (if neg = true then !decide (c ∈ z.cps.toList) else decide (c ∈ z.cps.toList)))
    | _ => none
  | _, _ => none
theorem sInS : OSnd2 K rInSg (inST false) := by
  intro F O x y a b fa fb t d ha hb e Q q
  unfold inST at e
  split at e
  · next s z =>
    split at e
    · next c hs =>
      cases e
      cases ha
      cases hb
      have es : s = ⟨#[c]⟩ := by
        cases s with
        | mk cps =>
          have : cps = #[c] := Array.toList_inj.mp hs
          rw [this]
      exact ⟨c, z, by rw [es], rfl, q.sc d (.bl _)⟩
    · cases e
  · cases e
theorem sNotInS : OSnd2 K rNotInSg (inST true) := by
  intro F O x y a b fa fb t d ha hb e Q q
  unfold inST at e
  split at e
  · next s z =>
    split at e
    · next c hs =>
      cases e
      cases ha
      cases hb
      have es : s = ⟨#[c]⟩ := by
        cases s with
        | mk cps =>
          have : cps = #[c] := Array.toList_inj.mp hs
          rw [this]
      exact ⟨c, z, by rw [es], rfl, q.sc d (.bl _)⟩
    · cases e
  · cases e
theorem xInS (ha : SE K X a ta ea) (hb : SE K X b tb eb) (hm : behindInMarks .In b = false) : SE K X (.Compare a [.In] [b] pos) (tOp rInSg ta tb) (cO2 (inST false) ea eb) := by
  cases ha.k
  exact xCmp op_in_sign sInS ha hb hm
theorem xNotInS (ha : SE K X a ta ea) (hb : SE K X b tb eb) (hm : behindInMarks .NotIn b = false) : SE K X (.Compare a [.NotIn] [b] pos) (tOp rNotInSg ta tb) (cO2 (inST true) ea eb) := by
  cases ha.k
  exact xCmp op_notIn_sign sNotInS ha hb hm
theorem yInS (ha : SE K X a ta ea) (hb : SE K X b tb eb) (hm : behindInMarks .In b = false) : ST K X (.Compare a [.In] [b] pos) (tTest (tOp rInSg ta tb)) (cTest (cO2 (inST false) ea eb)) := by
  cases ha.k
  exact yCmp op_in_sign sInS ha hb hm
theorem yNotInS (ha : SE K X a ta ea) (hb : SE K X b tb eb) (hm : behindInMarks .NotIn b = false) : ST K X (.Compare a [.NotIn] [b] pos) (tTest (tOp rNotInSg ta tb)) (cTest (cO2 (inST true) ea eb)) := by
  cases ha.k
  exact yCmp op_notIn_sign sNotInS ha hb hm
@[simp] theorem inST_one (neg : Bool) (c : Nat) (z : Str) : inST neg (.str ⟨#[c]⟩) (.str z) = some (.bl (if neg = true then !decide (c ∈ z.cps.toList) else decide (c ∈ z.cps.toList))) := rfl
/-! len(set(texts)) -/
def lenSetT : List T → Option T
  | [.lst _ xs] => match strsL xs with
    | some ss => if ss.length < 64 then some (.int ((setS ss).length : Nat)) else none
    | none => none
  | _ => none
theorem setS_nd (l : List Str) : (setS l).Nodup := (setS_pw l).imp fun h e => by rw [e] at h; exact SrtS.sLt_irr _ h
theorem sLenSet : OSndN K (rLenSetT K) lenSetT := by
  intro F O xs as fa t d ha e Q q
  unfold lenSetT at e
  split at e
  · split at e
    · next ss hp =>
      split at e
      · next h64 =>
        cases e
        obtain ⟨v, g, rfl, h⟩ := ha.one
        obtain ⟨p, vs, fs, rfl, h1, r1⟩ := h.lstv d
        rw [strsL_eq hp] at r1
        obtain rfl := rls_strs r1
        refine ⟨p, ss, rfl, .inl (.inl h1), h64, fun n ⟨L, nd, hm, hn⟩ => ?_⟩
        have pm : L.Perm (setS ss) := (List.perm_ext_iff_of_nodup nd (setS_nd ss)).mpr fun k => by rw [hm k, mem_setS]
        rw [← hn, pm.length_eq]
        exact q.sc d (.int _)
      · cases e
    · cases e
  · cases e
@[simp] theorem lenSetT_map (o : Bool) (ss : List Str) (h : ss.length < 64) : lenSetT [.lst o (ss.map T.str)] = some (.int ((setS ss).length : Nat)) := by
  simp [lenSetT, strsL_map, h]
end
section
variable {K : PySem.W.Frag} {X : Cx} {e : Expr} {te : TE} {ev : Ev} {pos p2 p3 p4 : Pos}
theorem xLenSet (hg : Gl X "len") (hm : X.mg "len" = none) (hg2 : Gl X "set") (hm2 : X.mg "set" = none) (ha : SE K X e te ev) (hc : X.calm = true := by rfl) (na : starEach [e] X.env = (false, eval e X.env) :: starEach [] X.env := by rfl) :
    SE K X (.Call (.Name "len" p2) [.Call (.Name "set" p3) [e] [] p4] [] pos) (tCB (rLenSetT K) (tCons te tNil)) (cON lenSetT (aCons ev aNil)) := by
  cases ha.k
  exact ⟨pe_lenSetT hc hg hm hg2 hm2 ha.p na, eON (eaCons ha.s eaNil) sLenSet, rfl⟩
end
/-! sep.join(xs) -/
def joinT (s : Str) : T → Option T
  | .lst _ xs => match strsL xs with
    | some ys => if (ys.map (·.length)).sum + ys.length * s.length ≤ 16777216 then some (.str (Txt.join s ys)) else none
    | none => none
  | _ => none
def cJoin (s : Str) (a : Ev) : Ev := cO1 (joinT s) a
@[simp] theorem joinT_map (s : Str) (o : Bool) (ys : List Str) : joinT s (.lst o (ys.map T.str)) = if (ys.map (·.length)).sum + ys.length * s.length ≤ 16777216 then some (.str (Txt.join s ys)) else none := by
  simp only [joinT, strsL_map]
section
variable {K : PySem.W.Frag} {X : Cx} {o e : Expr} {te : TE} {ev : Ev} {pos apos : Pos} {s : Str}
def rJoin (K : PySem.W.Frag) : V → List V → Hp → VK → Prop := fun x xs H Q => ∃ a p, ∃ ys : List Str, x = .str a ∧ xs = [.ref p] ∧ (SqL K H p (ys.map V.str) ∨ SqT K H p (ys.map V.str)) ∧
  (ys.map (·.length)).sum + ys.length * a.length ≤ 16777216 ∧ Q (.str (Txt.join a ys)) H
theorem eJoin (he : ESnd K te ev) : ESnd K (tM1 (rJoin K) (tC (.str s)) te) (cJoin s ev) := by
  intro env o env' h σ F O f a0 Q q
  simp only [cJoin, cO1] at h
  split at h
  · next o1 e1 h1 =>
    split at h
    · next x hx =>
      split at h
      · next t ht =>
        cases h
        refine ⟨⟨s, rfl⟩, ?_⟩
        refine he _ _ _ h1 σ F O f a0 _ fun v F1 O1 fp1 f1 a1 s1 r1 => ?_
        obtain ⟨g1, w1, _⟩ := r1.view a1.e hx
        unfold joinT at ht
        split at ht
        · next o2 xs =>
          split at ht
          · next ys hy =>
            split at ht
            · next hz =>
              cases ht
              obtain ⟨p, vs, fs, rfl, h2, r2⟩ := w1.lstv a1.d
              rw [strsL_eq hy] at r2
              obtain rfl := rls_strs r2
              exact ⟨s, p, ys, rfl, rfl, .inl (.inl (.inl h2)), hz, q _ F1 O1 [] f1 a1.only s1.snd (.str _)⟩
            · cases ht
          · cases ht
        · cases ht
      · cases h
    · cases h
  · cases h
theorem xJoin (hs : SE K X o (tC (.str s)) (cK (.str s))) (he : SE K X e te ev) (hst : starEach [e] X.env = [(false, eval e X.env)] := by rfl) (hbase : attributeBase o "join" X.env (eval o X.env) = eval o X.env := by rfl) (hline : (apos.endLine == pos.line) = true := by rfl) :
    SE K X (.Call (.Attribute o "join" apos) [e] [] pos) (tM1 (rJoin K) (tC (.str s)) te) (cJoin s ev) := by
  cases hs.k
  exact ⟨pe_join hs.p he.p hst hbase hline, eJoin he.s, rfl⟩
end
@[simp] theorem cJoin_def (s : Str) (a : Ev) (env : Env) : cJoin s a env = cO1 (joinT s) a env := rfl
/-! str(int) -/
def strI (i : Int) : Str := toString i
def strT : List T → Option T
  | [.int i] => if i.natAbs < 1000000000000 then some (.str (strI i)) else none
  | _ => none
section
variable {K : PySem.W.Frag} {X : Cx} {e : Expr} {tas : TA} {eas : Ea} {pos p2 : Pos}
def rStrI : List V → Hp → VK → Prop := fun xs H Q => ∃ i : Int, xs = [.int i] ∧ i.natAbs.log2 < 1920 ∧ Q (.str (toString i)) H
theorem sStrI : OSndN K rStrI strT := by
  intro F O xs as fa t d ha e Q q
  unfold strT at e
  split at e
  · split at e
    · next i hi =>
      cases e
      obtain ⟨v, g, rfl, h⟩ := ha.one
      cases h
      refine ⟨_, rfl, ?_, q.sc d (.str _)⟩
      by_cases z : i.natAbs = 0
      · rw [z]; decide
      · have h1 : i.natAbs < 2 ^ 40 := Nat.lt_trans hi (by decide)
        have h2 := (Nat.log2_lt z).mpr h1
        omega
    · cases e
  · cases e
theorem b_strT : bootBuiltins "str" = some (.type "str") := by decide +kernel
theorem xStr1 (hg : Gl X "str") (hm : X.mg "str" = none) (ha : SA K X [e] tas eas) (hst : starEach [e] X.env = (false, eval e X.env) :: starEach [] X.env := by rfl) :
    SE K X (.Call (.Name "str" p2) [e] [] pos) (tCB rStrI tas) (cON strT eas) := by
  cases ha.k
  exact xBT call_str_int sStrI hg hm b_strT ha (hst := hst) (hpl := rfl)
end
@[simp] theorem strT_int (i : Int) : strT [.int i] = if i.natAbs < 1000000000000 then some (.str (strI i)) else none := rfl
end LP
set_option maxRecDepth 100000
/-! LP: what is never reached; split; int(text). -/
namespace LP
open PySem L2
section
variable {K : PySem.W.Frag} {X : Cx} {pn : List Nat} {st : Stmt}
/-- a statement that is never reached -/
def cBad : S := fun _ => none
theorem zBad (hk : X.K = K := by rfl) : SS K X pn st (fun _ _ _ => False) cBad := by
  cases hk
  refine ⟨⟨fun _ _ _ _ _ _ h => h.elim⟩, ?_, rfl⟩
  intro env out h
  exact absurd h (by simp [cBad])
end
@[simp] theorem cBad_def (env : Env) : cBad env = none := rfl
/-! x.split(sep) -/
def splitT (s : Str) : T → Option T
  | .str a => if (s.length == 0) = false ∧ a.length ≤ 100000 then some (.lst true ((Txt.split a s).map T.str)) else none
  | _ => none
def cSplit (s : Str) (a : Ev) : Ev := cO1 (splitT s) a
@[simp] theorem splitT_str (s a : Str) : splitT s (.str a) = if (s.length == 0) = false ∧ a.length ≤ 100000 then some (.lst true ((Txt.split a s).map T.str)) else none := rfl
@[simp] theorem cSplit_def (s : Str) (a : Ev) (env : Env) : cSplit s a env = cO1 (splitT s) a env := rfl
section
variable {K : PySem.W.Frag} {X : Cx} {o e : Expr} {te : TE} {ev : Ev} {pos apos : Pos} {s : Str}
def rSplit : V → List V → Hp → VK → Prop := fun x xs H Q => ∃ a b, x = .str a ∧ xs = [.str b] ∧ (b.length == 0) = false ∧ a.length + 2 ≤ sizeLine ∧ rNewStrs (Txt.split a b) H Q
theorem eSplit (he : ESnd K te ev) : ESnd K (tM1 rSplit te (tC (.str s))) (cSplit s ev) := by
  intro env o env' h σ F O f a0 Q q
  simp only [cSplit, cO1] at h
  split at h
  · next o1 e1 h1 =>
    split at h
    · next x hx =>
      split at h
      · next t ht =>
        cases h
        refine he _ _ _ h1 σ F O f a0 _ fun v F1 O1 fp1 f1 a1 s1 r1 => ?_
        obtain ⟨g1, w1, _⟩ := r1.view a1.e hx
        unfold splitT at ht
        split at ht
        · next a =>
          split at ht
          · next hz =>
            cases ht
            cases w1
            have z2 : (100002 : Nat) ≤ sizeLine := by decide
            refine ⟨⟨a, rfl⟩, a, s, rfl, rfl, hz.1, by omega, ?_⟩
            exact (fin a1 s1.snd q).newL a1.d (strs_rls _)
          · cases ht
        · cases ht
      · cases h
    · cases h
  · cases h
theorem xSplit (ho : SE K X o te ev) (hs : SE K X e (tC (.str s)) (cK (.str s))) (hst : starEach [e] X.env = [(false, eval e X.env)] := by rfl) (hbase : attributeBase o "split" X.env (eval o X.env) = eval o X.env := by rfl) (hline : (apos.endLine == pos.line) = true := by rfl) :
    SE K X (.Call (.Attribute o "split" apos) [e] [] pos) (tM1 rSplit te (tC (.str s))) (cSplit s ev) := by
  cases ho.k
  exact ⟨pe_split ho.p hs.p hst hbase hline, eSplit ho.s, rfl⟩
end
/-! int(text) -/
def intST : List T → Option T
  | [.str a] => if a.length ≤ 640 then (intText? a).map T.int else none
  | _ => none
section
variable {K : PySem.W.Frag} {X : Cx} {e : Expr} {tas : TA} {eas : Ea} {pos p2 : Pos}
def rIntS : List V → Hp → VK → Prop := fun xs H Q => ∃ a n, xs = [.str a] ∧ PySem.intText? a = some n ∧ a.length ≤ 640 ∧ Q (.int n) H
theorem sIntS : OSndN K rIntS intST := by
  intro F O xs as fa t d ha e Q q
  unfold intST at e
  split at e
  · next a =>
    split at e
    · next hz =>
      cases hn : intText? a with
      | none => rw [hn] at e; cases e
      | some n =>
        rw [hn] at e
        cases e
        obtain ⟨v, g, rfl, h⟩ := ha.one
        cases h
        exact ⟨a, n, rfl, hn, hz, q.sc d (.int _)⟩
    · cases e
  · cases e
theorem xIntS (hg : Gl X "int") (hm : X.mg "int" = none) (ha : SA K X [e] tas eas) (hst : starEach [e] X.env = (false, eval e X.env) :: starEach [] X.env := by rfl) :
    SE K X (.Call (.Name "int" p2) [e] [] pos) (tCB rIntS tas) (cON intST eas) := by
  cases ha.k
  exact xBT call_int_str sIntS hg hm b_int ha (hst := hst) (hpl := rfl)
end
@[simp] theorem intST_str (a : Str) : intST [.str a] = if a.length ≤ 640 then (intText? a).map T.int else none := rfl
/-! tuple(xs) -/
def tupleT : List T → Option T
  | [.lst _ xs] => if fzL xs then some (.tup false xs) else none
  | _ => none
section
variable {K : PySem.W.Frag} {X : Cx} {e : Expr} {tas : TA} {eas : Ea} {pos p2 : Pos}
def rTupleL (K : PySem.W.Frag) : List V → Hp → VK → Prop := fun xs H Q => ∃ p ys, xs = [.ref p] ∧ ((SqL K H p ys ∧ ∀ l, H l = none → Q (.ref l) (upd H l (.tup ys))) ∨ (SqT K H p ys ∧ Q (.ref p) H))
theorem sTupleL : OSndN K (rTupleL K) tupleT := by
  intro F O xs as fa t d ha e Q q
  unfold tupleT at e
  split at e
  · split at e
    · next z =>
      cases e
      obtain ⟨v, g, rfl, h⟩ := ha.one
      obtain ⟨p, vs, fs, rfl, h1, r1⟩ := h.lstv d
      exact ⟨p, vs, rfl, .inl ⟨.inl (.inl h1), q.newT d (r1.own0 z)⟩⟩
    · cases e
  · cases e
theorem b_tupleT : bootBuiltins "tuple" = some (.type "tuple") := by decide +kernel
theorem xTuple (hg : Gl X "tuple") (hm : X.mg "tuple" = none) (ha : SA K X [e] tas eas) (hst : starEach [e] X.env = (false, eval e X.env) :: starEach [] X.env := by rfl) :
    SE K X (.Call (.Name "tuple" p2) [e] [] pos) (tCB (rTupleL K) tas) (cON tupleT eas) := by
  cases ha.k
  exact xBT call_tuple_of sTupleL hg hm b_tupleT ha (hst := hst) (hpl := rfl)
end
@[simp] theorem tupleT_lst (o : Bool) (xs : List T) : tupleT [.lst o xs] = if fzL xs then some (.tup false xs) else none := rfl
end LP
set_option maxRecDepth 100000
/-! LP: try, except as: own = [.., ..]; own.append(..), and on behind it. -/
namespace LP
open PySem L2
def kTryF (a : SX) (R : Str) (i j : Nat) : S := fun env => match a env with
  | some (.ok o) => some o
  | some (.ex c e) => if c = R ∧ i < e.length ∧ j < e.length then some (.nx ((e.set i none).set j (some (.lst true [.bl true, .bl true, .bl false])))) else none
  | none => none
section
variable {K : PySem.W.Frag} {F O F' O' : Hp}
theorem RlE.wipeX : ∀ {σ : L2.St} {env : Env} {f : List Addr} {i : Nat} {x : Option V}, RlE K F O σ env f → ∃ f', RlE K F O (σ.set i x) (env.set i none) f' ∧ ∀ a, f'.count a ≤ f.count a
  | _, _, _, _, _, .nil => ⟨[], .nil, fun a => Nat.le_refl _⟩
  | _, _, _, 0, v, .non (fs := fs) r => ⟨fs, .non r, fun a => Nat.le_refl _⟩
  | _, _, _, i + 1, v, .non r => by
    obtain ⟨f', r', c⟩ := RlE.wipeX (i := i) (x := v) r
    exact ⟨f', .non r', c⟩
  | _, _, _, 0, v, .som (fs := fs) _ r => ⟨fs, .non r, fun a => by rw [List.count_append]; omega⟩
  | _, _, _, i + 1, v, .som (f := f0) h0 r => by
    obtain ⟨f', r', c⟩ := RlE.wipeX (i := i) (x := v) r
    exact ⟨f0 ++ f', .som h0 r', fun a => by rw [List.count_append, List.count_append]; have := c a; omega⟩
end
section
variable {K : PySem.W.Frag} {X : Cx} {C : Addr} {i j : Nat} {e1 e2 e3 : Expr} {te1 te2 te3 : Addr → TE} {pos p1 p2 p3 p4 p5 q1 q2 np pos' : Pos} {pn : List Nat} {n x mine R : Str} {c : Value} {body : List Stmt} {tb : WX → TS} {bx : SX}
theorem zTryF (hs : X.stack = X.env :: X.outer) (hf : X.env.frame = some X.env.locals) (hN : X.N.Nodup) (hi : X.N[i]? = some n) (hln : X.env.kindOf n = some .local) (hc : Names X x c) (hR : cvl X.mg R = .ref C) (hm : PySem.W.exmOne X.K (.ref C) c = some true) (ij : i ≠ j) (hip : i ∉ pn) (hjp : j ∉ pn)
    (hb : ∀ (pns : List (Addr × Obj)) (xe : Value → Shared → Prop), SYs K (X.tr pns xe) pn body tb bx)
    (g1 : ∀ a oe pns, PG (X.suite a ((a, oe) :: pns)) (.Name mine p1) (gName j)) (g2 : ∀ a oe pns, PE (X.suite a ((a, oe) :: pns)) (.Name mine p2) (tVar j))
    (v1 : VE X.K X C e1 (fun a σ => σ[i]? = some (some (.ref a))) te1 true) (v2 : VE X.K X C e2 (fun a σ => σ[i]? = some (some (.ref a))) te2 true) (v3 : VE X.K X C e3 (fun a σ => σ[i]? = some (some (.ref a))) te3 false)
    (s1 : swapsWithSole [.Name mine p1] (.List [e1, e2] p3) q1.line X.env = pure false := by rfl) (w1 : swappedStores [.Name mine p1] (.List [e1, e2] p3) X.env = pure none := by rfl) (a1 : (assignEach [.Name mine p1] X.env).map (·.2) = [assign (.Name mine p1) X.env] := by rfl)
    (hst1 : ∀ env, starEach [e1, e2] env = (false, eval e1 env) :: starEach [e2] env := by intro _; rfl) (hst2 : ∀ env, starEach [e2] env = (false, eval e2 env) :: starEach [] env := by intro _; rfl)
    (s2 : ∀ env, swapsWith (.Call (.Attribute (.Name mine p2) "append" p4) [e3] [] p5) none q2.line env = pure false := by intro _; rfl)
    (hst : ∀ env, starEach [e3] env = (false, eval e3 env) :: starEach [] env := by intro _; rfl)
    (hbase : ∀ a oe pns, attributeBase (.Name mine p2) "append" (X.suite a ((a, oe) :: pns)).env (eval (.Name mine p2) (X.suite a ((a, oe) :: pns)).env) = eval (.Name mine p2) (X.suite a ((a, oe) :: pns)).env := by intro _ _ _; rfl)
    (hfew : ∀ env, ((backTo p5 (starEach [e3] env)).all (fun x => !x.1) && (backToKw p5 (keywordEach [] env)).all (fun x => x.1.isSome) && decide ([e3].length + ([] : List Keyword).length + (if ([] : List Keyword).isEmpty then 0 else 1) < 30)) = true := by intro _; rfl)
    (hline : (p4.endLine == p5.line) = true := by rfl) :
    SS K X pn (.Try body [.ExceptHandler (some (.Name x np)) (some n) [.Assign [.Name mine p1] (.List [e1, e2] p3) q1, .Expr (.Call (.Attribute (.Name mine p2) "append" p4) [e3] [] p5) q2] pos'] [] [] pos)
      (fun D σ H => tb (wAs X.K c i (fun a cls d D σ H => (cls = .ref C ∧ d = none) ∧ tSeq (tAsg (tLst (tCons (te1 a) (tCons (te2 a) tNil))) (gName j)) (tDrop (tBM X.K "list" rAppend (tVar j) (tCons (te3 a) tNil))) D σ H) (fun _ _ _ _ => False) D) D σ H) (kTryF bx R i j) := by
  refine ⟨ps_try_as hs hf hN hi hln hc takes0 (fun W pns xe tk po => (hb pns xe).p W tk po) (fun a oe cls d pns hz hfl => ?_), ?_, (hb [] (fun _ _ => False)).k⟩
  · refine pss_pre fun ⟨ec, ed⟩ => ?_
    subst ec ed
    have k1 : PE (X.suite a ((a, oe) :: pns)) (.List [e1, e2] p3) (tLst (tCons (te1 a) (tCons (te2 a) tNil))) := pe_lst (pa_cons (v1.p a oe pns hz hfl) (pa_cons (v2.p a oe pns hz hfl) pa_nil (hst2 _)) (hst1 _))
    have k2 : PE (X.suite a ((a, oe) :: pns)) (.Call (.Attribute (.Name mine p2) "append" p4) [e3] [] p5) (tBM X.K "list" rAppend (tVar j) (tCons (te3 a) tNil)) :=
      pe_bm PySem.F.plainAttrs_list PySem.F.slot_list_append PySem.F.type_list_append mt_append (g2 a oe pns) (pa_cons (v3.p a oe pns hz hfl) pa_nil (hst _)) (hbase a oe pns) (hfew _) hline (hst _) (by rfl)
    exact pss_cons (ps_asg k1 (g1 a oe pns) s1 w1 a1) (pss_one (ps_expr k2 (s2 _)))
  · intro env out h σ F O f a0 D q
    refine (hb [] (fun _ _ => False)).s _ env _ (?_ : bx env = some ?o) σ F O f a0 D ?_
    case o => exact (bx env).getD (.ok (.nx env))
    · unfold kTryF at h
      cases hx : bx env with
      | none => rw [hx] at h; cases h
      | some o => rfl
    · unfold kTryF at h
      cases hx : bx env with
      | none => rw [hx] at h; cases h
      | some o =>
        rw [hx] at h
        cases o with
        | ok o =>
          cases h
          exact q
        | ex c' e =>
          simp only at h
          split at h
          · next hcc =>
            obtain ⟨rfl, hie, hje⟩ := hcc
            cases h
            intro σ' F' O' f' at1 st1 sm1
            refine ⟨true, ?_, fun _ a _ => ⟨⟨?_, rfl⟩, ?_⟩, fun z => by cases z⟩
            · show PySem.W.exmOne X.K (cvl X.mg c') c = some true
              rw [hR]; exact hm
            · show cvl X.mg c' = _
              exact hR
            · have hl := at1.e.len
              have i0 : (σ'.set i (some (V.ref a)))[i]? = some (some (.ref a)) := by rw [List.getElem?_set_self (by omega)]
              refine v1.s a _ F' O' at1.d i0 _ fun F2 d2 s2 => ?_
              refine v2.s a _ F2 O' d2 i0 _ fun F3 d3 s3 => ?_
              refine ⟨(show 2 ≤ sizeLine by decide), fun p hp => ?_⟩
              rw [upd_jn]
              have op : O' p = none := (jn_none hp).2
              have d3' : Dis F3 (upd O' p (.lst [.bl true, .bl true])) := d3.updO (jn_none hp).1
              have ip : ((σ'.set i (some (V.ref a))).set j (some (V.ref p)))[j]? = some (some (.ref p)) := by rw [List.getElem?_set_self (by rw [List.length_set]; omega)]
              have ii : ((σ'.set i (some (V.ref a))).set j (some (V.ref p)))[i]? = some (some (.ref a)) := by rw [List.getElem?_set_ne (fun e => ij e.symm)]; exact i0
              have hp3 : jn F3 (upd O' p (.lst [.bl true, .bl true])) p = some (.lst [.bl true, .bl true]) := jn_O upd_same
              refine ⟨.ref p, ip, .inl ⟨rfl, _, .inl (.inl hp3)⟩, ?_⟩
              refine v3.s a _ F3 _ d3' ii _ fun F4 d4 s4 => ?_
              refine ⟨p, _, _, rfl, rfl, jn_O upd_same, (show 2 < sizeLine by decide), ?_⟩
              rw [upd_jn]
              show D.nx ((((σ'.set i (some (V.ref a))).set j (some (V.ref p)))).set i none) _
              have es : (((σ'.set i (some (V.ref a))).set j (some (V.ref p)))).set i none = (σ'.set i none).set j (some (V.ref p)) := by
                rw [List.set_comm _ _ (fun e => ij e.symm), List.set_set]
              rw [es]
              have sF : Same F' F4 := (s2.f.trans s3.f).trans s4.f
              have km : ∀ x o, O' x = some o → upd (upd O' p (.lst [.bl true, .bl true])) p (.lst ([.bl true, .bl true] ++ [.bl false])) x = some o := fun x o e => by
                have : x ≠ p := fun z => by rw [z, op] at e; cases e
                rw [upd_ne this, upd_ne this]
                exact e
              obtain ⟨f1, r1, c1⟩ := at1.e.wipeX (i := i) (x := none)
              have r2 := r1.mono sF (O' := upd (upd O' p (.lst [.bl true, .bl true])) p (.lst ([.bl true, .bl true] ++ [.bl false]))) fun x _ o e => km x o e
              have rl : Rl K F4 (upd (upd O' p (.lst [.bl true, .bl true])) p (.lst ([.bl true, .bl true] ++ [.bl false]))) (.ref p) (.lst true [.bl true, .bl true, .bl false]) [p] :=
                .lstO (fs := []) upd_same (.cons (f := []) (fs := []) (.bl _) (.cons (f := []) (fs := []) (.bl _) (.cons (f := []) (fs := []) (.bl _) .nil)))
              obtain ⟨f2, r3, c3⟩ := r2.set (i := j) rl
              have np : f'.count p = 0 := by
                have : ¬ 0 < f'.count p := fun z => by
                  obtain ⟨u, hu⟩ := at1.e.alloc p (mem_count.mpr z)
                  rw [op] at hu
                  cases hu
                omega
              have jp : jn F' O' p = none := by
                by_cases w : jn F' O' p = none
                · exact w
                · exact absurd hp (s3.g p (s2.g p w))
              have cc : ∀ x, f2.count x ≤ (if p = x then 1 else 0) + f'.count x := fun x => by
                have h1 := c1 x
                have h3 := c3 x
                rw [List.count_cons, List.count_nil] at h3
                by_cases e : p = x
                · rw [if_pos e]; simp [e] at h3; omega
                · rw [if_neg e]; simp [e] at h3; omega
              refine q _ F4 _ f2 ⟨(d4.updO (d4.noF upd_same)), r3, fun x => ?_⟩ (st1.trans ⟨sF, fun x u hx e => km x u e, fun x hx => ?_, fun x hx => ?_⟩) ⟨by rw [List.length_set, List.length_set]; exact sm1.l, fun k hk => ?_⟩
              · rw [List.nil_append]
                have h1 := cc x
                have h2 := at1.nd x
                rw [List.nil_append] at h2
                by_cases e : p = x
                · subst e; rw [if_pos rfl] at h1; omega
                · rw [if_neg e] at h1; omega
              · have h1 := cc x
                by_cases e : p = x
                · subst e; exact .inr jp
                · rw [if_neg e] at h1
                  rw [mem_count] at hx ⊢
                  exact .inl (by omega)
              · rw [← upd_jn]
                by_cases e : x = p
                · subst e; rw [upd_same]; exact fun z => nomatch z
                · rw [upd_ne e]
                  refine s4.g x ?_
                  rw [← upd_jn, upd_ne e]
                  exact s3.g x (s2.g x hx)
              · rw [List.getElem?_set_ne (fun e => hjp (by rw [e]; exact hk)), List.getElem?_set_ne (fun e => hip (by rw [e]; exact hk))]
                exact sm1.s k hk
          · cases h
end
@[simp] theorem kTryF_def (a : SX) (R : Str) (i j : Nat) (env : Env) : kTryF a R i j env = (a env).bind fun o => match o with
    | .ok o => some o
    | .ex c e => if c = R ∧ i < e.length ∧ j < e.length then some (.nx ((e.set i none).set j (some (.lst true [.bl true, .bl true, .bl false])))) else none := by
  unfold kTryF
  cases a env with
  | none => rfl
  | some o => cases o <;> rfl
end LP
set_option maxRecDepth 100000
/-! a list comprehension whose element (a call) may raise -/
namespace L2
open PySem PySem.Spec PyProof.Rows
section
variable {X : Cx} {pins : List (Addr × Obj)} {σ : St} {H : Hp} {s s' : Shared} {W : WX} {E : XK}
theorem XEF (I : Inv X pins σ H s) {u : Value} (c : CX X.prog X.w X.stack H s E u s') :
    ∃ (a : Addr) (B : Heap) (sI : Shared) (H' : Hp) (cls : Value) (d : Option Addr), u = .ref a ∧ Inv X pins σ H' sI ∧ (∀ b o, sI.heap.get? b = some o → b ∉ frs X.stack → B.get? b = some o) ∧ sI.heap.UpToSlots s'.heap ∧
      HandSPX.FlyingZ B X.stack a (Zc cls d) s'.heap ∧ H' a = none ∧ s'.os = sI.os ∧ AllBare s'.gens ∧ E cls d H' := by
  obtain ⟨a, B, H', cls, d, rfl, fl, hok, ub, na, os, ag, hE⟩ := c
  obtain ⟨G, g1, g2⟩ := restrict s'.heap fun b => (B.get? b).isSome || decide (b ∈ frs X.stack)
  have st : B.StaysIn s'.heap := fl.1
  have gB : ∀ b o, B.get? b = some o → G.get? b = some o := fun b o e => by
    rw [g1 b (by simp [e])]
    exact st b o e
  have gF : ∀ b, b ∈ frs X.stack → G.get? b = s'.heap.get? b := fun b hb => g1 b (by simp [hb])
  have og : ∀ b o, G.get? b = some o → s'.heap.get? b = some o ∧ ((B.get? b).isSome = true ∨ b ∈ frs X.stack) := fun b o e => by
    cases q : ((B.get? b).isSome || decide (b ∈ frs X.stack)) with
    | false => rw [g2 b q] at e; cases e
    | true =>
      rw [g1 b q] at e
      exact ⟨e, by simpa [Bool.or_eq_true] using q⟩
  refine ⟨a, B, { s with heap := G, gens := s'.gens, drawn := s'.drawn, toks := s'.toks }, H', cls, d, rfl, ?_, fun b o e hb => ?_, Heap.UpToSlots.of_keeps fun b o e => (og b o e).1, fl, na, os, ag, hE⟩
  · refine I.call (ch := []) ⟨fun b o e n hb _ => gB b o (ub.keep b o e n hb), fun b o e n hb _ => ?_, fun b o e n _ => ub.free b o e n, fun b o e _ => ?_, ub.tups, ub.frzs, ub.tbls⟩ (hok.kept gB) ag (fun _ z => nomatch z)
    · obtain ⟨sl, q⟩ := ub.slot b o e hb
      exact ⟨sl, by rw [gF b hb]; exact q⟩
    · by_cases hb : b ∈ frs X.stack
      · obtain ⟨sl, q⟩ := ub.slot b o e hb
        exact ⟨_, by rw [gF b hb]; exact q⟩
      · obtain ⟨o', q⟩ := ub.there b o e hb
        exact ⟨o', gB b o' q⟩
  · obtain ⟨e', h⟩ := og b o e
    rcases h with h | h
    · obtain ⟨o', q⟩ := Option.isSome_iff_exists.mp h
      have z := st b o' q
      rw [e'] at z; cases z
      exact q
    · exact absurd h hb
end
section
variable {M : Model} {A : Around} {E : Value → Shared → Prop} {s' : Shared} {base : Heap} {cenv : Env} {l : List Env} {e L : Addr} {Z : Obj → Prop} {m : Str → Option Value}
theorem compFails_heldZ (hf : cenv.frame = some L) (hbC : base.get? cenv.locals = none) (hn : s'.heap.Ns cenv.locals m) (hh : HandSPX.HeldZ base l e Z L s'.heap)
    (hQ : ∀ h', HandSPX.HeldZ base l e Z L h' → (∀ b o, s'.heap.get? b = some o → b ≠ cenv.locals → (∀ vs, o.data ≠ .fields vs) → ∃ sl, h'.get? b = some { o with slots := sl }) → E (.ref e) { s' with heap := h' }) :
    CompFails M A E cenv (.ref e) s' := by
  refine ⟨m, hn, fun h₂ m₂ hn₂ hs₂ => ?_⟩
  obtain ⟨b1, b0, f1, t1⟩ := hh
  have b2 : base.StaysIn h₂ := fun b o hb => (hs₂.2 b fun q => by rw [q, hbC] at hb; cases hb).trans (b1 b o hb)
  have f2 : h₂.FunFrames base l := Heap.FunFrames.sameBut hs₂ hn₂ f1
  obtain ⟨oe, vs, T, oT, ts, he, hz, hd, h1, hnT, hTe, hT, hdT, h3⟩ := t1
  have ne : ∀ {b o vs}, s'.heap.get? b = some o → o.data = .fields vs → b ≠ cenv.locals := fun {b o vs} q hd z => by
    obtain ⟨oL, es, ep, hoL, hdL, _⟩ := hn
    rw [z, hoL] at q
    cases q
    rw [hdL] at hd
    cases hd
  have he' := (hs₂.2 e (ne he hd)).trans he
  have hT' := (hs₂.2 T (ne hT hdT)).trans hT
  unfold PySem.passOn
  refine wpAny_bind (wpAny_field he' hd h1 ?_)
  rw [if_neg (show ¬ ((Value.ref T == Value.none) = true) from by simp)]
  rw [hf]
  refine wpAny_bind (HandSPX.setFlight_onZ (base := base) (l := l) (Z := Z) (L := L) ⟨b2, b0, f2, oe, vs, T, oT, ts, he', hz, hd, h1, hnT, hTe, hT', hdT, h3⟩ fun h₃ hh3 k3 => ?_)
  refine wpAny_throw (hQ h₃ hh3 fun b o hb hbL hnf => k3 b o ((hs₂.2 b hbL).trans hb) hnf)
end
section
variable {X : Cx} {pins pb : List (Addr × Obj)} {σ σb : St} {H H3 Hb : Hp} {s3 sb s' : Shared} {W : WX} {scope : Scope} {ce : PySem.Env} {fp : List Addr} {xe : Value → Shared → Prop}
theorem blk_flies (hs : X.stack = X.env :: X.outer) (hf : X.env.frame = some X.env.locals) (tk : Takes X W) (I3 : Inv X pins σ H3 s3) (f3 : ∀ b ∈ fp, FpOk X pins H3 b) (hc : ce.locals = s3.heap.objs.size) (hcf : ce.frame = X.env.frame)
    (Ib : Inv ((X.blk s3 H3 scope ce fp).wish xe) pb σb Hb sb) {u : Value} (c : CX X.prog X.w X.stack Hb sb (fun cls d H' => W cls d σ H') u s') :
    notedBy (model X.prog X.w) X.A ce (CompFails (model X.prog X.w) X.A X.xe ce) u s' := by
  obtain ⟨a, B, sI, H', cls, d, rfl, J, nb, up, fl, na, os, ag, w⟩ := XEF Ib c
  have I6 : Inv X pins σ H' sI := I3.call' (ch := fp) J.os J.base J.hok J.bare fun b hb => ⟨(f3 b hb).2.2.2.1, (f3 b hb).2.1, (f3 b hb).2.2.2.2.1, (f3 b hb).2.2.2.2.2⟩
  have nC : H' ce.locals = none := J.free
  obtain ⟨m, hn, _⟩ := J.loc
  have hn : sI.heap.Ns ce.locals m := hn
  have fC : FpOk X pins H' ce.locals := I3.fpOk (Nat.le_of_eq hc.symm) nC
  obtain ⟨g0, g1, g2, g3, g4, g5⟩ := fC
  have hfr : X.A.frames = some (X.env :: X.outer) := by rw [I3.ok.frames, hs]
  have fl : HandSPX.FlyingZ B (X.env :: X.outer) a (Zc cls d) s'.heap := by rw [← hs]; exact fl
  -- without the block's names
  have hd1 : ∀ {h : Heap} {b o}, (PySem.W.hideAll h [ce.locals]).get? b = some o → h.get? b = some o := fun q => PySem.W.of_hideAll _ q
  have hd0 : ∀ {h : Heap}, (PySem.W.hideAll h [ce.locals]).get? ce.locals = none := PySem.W.hideAll_none _ (by simp)
  have hd2 : ∀ {h : Heap} {b o}, h.get? b = some o → b ≠ ce.locals → (PySem.W.hideAll h [ce.locals]).get? b = some o := fun q n => PySem.W.hideAll_get _ q (by simpa using n)
  have nn : ∀ {h : Heap} {b}, h.get? b = none → (PySem.W.hideAll h [ce.locals]).get? b = none := fun {h b} q => by
    cases z : (PySem.W.hideAll h [ce.locals]).get? b with
    | none => rfl
    | some o => rw [hd1 z] at q; cases q
  have fl' : HandSPX.FlyingZ (PySem.W.hideAll B [ce.locals]) (X.env :: X.outer) a (Zc cls d) s'.heap := by
    obtain ⟨k1, k2, k3, oe, vs, T, oT, ts, he, hz, hdd, h1, hnT, hTe, hT, hdT, h3⟩ := fl
    exact ⟨fun b o e => k1 b o (hd1 e), nn k2, funFrames_none k3 fun L hL => nn (k3.mem hL).1, oe, vs, T, oT, ts, he, hz, hdd, h1, nn hnT, hTe, hT, hdT, h3⟩
  show wpAny _ X.A (noteFrame (.ref a) ce) _ _ s'
  rw [noteFrame_env _ hcf]
  refine HandSPX.looks_onZ Zc.steady hfr hf fl' fun h1 hh1 up1 => ?_
  refine compFails_heldZ (hcf.trans hf) hd0 ((hn.upToSlots up).upToSlots up1) hh1 fun h2 hh2 k2 => tk _ _ ?_
  refine ⟨a, PySem.W.hideAll B [ce.locals], { sI with heap := PySem.W.hideAll sI.heap [ce.locals] }, pins, σ, H', cls, d, rfl, I6.turned (t' := sI.toks) (fun b o hb e => hd2 e hb) g0 g1 g3 g4 g5, fun b o e hb => ?_, fun b o e hnf => ?_, ?_, na, os, ag, w⟩
  · have e0 := hd1 e
    refine hd2 (nb b o e0 hb) fun z => ?_
    have e : (PySem.W.hideAll sI.heap [ce.locals]).get? b = some o := e
    rw [z, hd0] at e
    cases e
  · have e : (PySem.W.hideAll sI.heap [ce.locals]).get? b = some o := e
    have hb : b ≠ ce.locals := fun z => by rw [z, hd0] at e; cases e
    obtain ⟨sl, e1⟩ := up b o (hd1 e) hnf
    obtain ⟨sl2, e2⟩ := up1 b _ e1 hnf
    obtain ⟨sl3, e3⟩ := k2 b _ e2 hb hnf
    exact ⟨sl3, e3⟩
  · rw [hs]
    exact .inr (.inr hh2)
end
section
variable {X : Cx}
theorem lc_coreX {pins : List (Addr × Obj)} {s : Shared} {σ : St} {H : Hp} {Q : VK} {elt tg iter : Expr} {ifs : List Expr} {scope : Scope} {own : List (Str × Nat)} {pos pos' : Pos} {wi : TI} {g : TG} {tt : TT} {te : TE} {W₀ : WX} {Qf : Value → Shared → Prop}
    (hst : X.stack = X.env :: X.outer) (hff : X.env.frame = some X.env.locals) (tk : Takes X W₀)
    (hc : X.calm = true) (hN : X.N.Nodup) (I : Inv X pins σ H s) (hi : PI X tg iter wi) (ok : BlkOk X.N X.env.scope scope own)
    (hg : ∀ (s : Shared) (H : Hp) (C : Addr) (cl : List (Str × Addr)) (fp : List Addr), PG (X.blk s H scope (compEnvC scope cl C X.env) fp) tg g) (ht : ∀ (s : Shared) (H : Hp) (C : Addr) (cl : List (Str × Addr)) (fp : List Addr), PTs (X.blk s H scope (compEnvC scope cl C X.env) fp) ifs tt)
    (he : ∀ (s : Shared) (H : Hp) (C : Addr) (cl : List (Str × Addr)) (fp : List Addr) (xe : Value → Shared → Prop), (∀ σ₁, PassesAt (L2.CX X.prog X.w) ((X.blk s H scope (compEnvC scope cl C X.env) fp).wish xe) σ₁ (fun cls d H => W₀ cls d σ H)) → PE ((X.blk s H scope (compEnvC scope cl C X.env) fp).wish xe) elt te) (hs : ∀ x, foldedSetIterable iter X.env x = pure x)
    (h : tLc wi g tt te (own.map (·.2)) σ H Q)
    (hRR : ∀ D C s' m H', Inv X pins σ H' s' → Q (.ref D) H' → s'.heap.Ns C m → FpOk X pins H' C → ∃ m, s'.heap.Ns C m ∧ ∀ h', Heap.SameBut C s'.heap h' → Qf (.ref D) { s' with heap := h' }) :
    wpAny (model X.prog X.w) X.A (comprehension (.ListComp elt [⟨tg, iter, ifs, 0⟩] scope pos) scope X.env pos' (newList []) false (eval iter X.env) none) Qf X.xe s := by
  have hfree : ∀ y ∈ scope.names, y.2 = .free → ∃ c, X.env.cells.lookup y.1 = some c := fun y hy e => by
    rcases ok.free y hy e with k | k
    · exact I.ok.has _ (.inl k)
    · exact I.ok.has _ (.inr k)
  refine comprehension_at (use := none) rfl hs (closure_ok hfree) ok.kind (fun y hy e => by rw [ok.uniq y hy, e])
    (thn (hi.run pins s σ H _ I h) fun xv s1 hx => thn hx fun itv s2 h2 => ?_)
  obtain ⟨it, fp, tn, J, H2, e, I2, T, st2, f2, q⟩ := h2
  subst e
  refine wpAny_newObj_type (newEnv_comp ?_) (by show 0 ≤ sizeLine; decide)
  generalize hD : s2.heap.objs.size = D
  have hDn : H2 D = none := I2.hok.fresh (Nat.le_of_eq hD)
  obtain ⟨W, ⟨m0, w0⟩, turn⟩ := q D hDn
  -- the new list
  generalize hs3 : ({ s2 with heap := s2.heap.push { cls := .type "list", data := .seq ([] : List Value).toArray } } : Shared) = s3
  have I3 : Inv X pins σ (upd H2 D (.lst [])) s3 := by
    rw [← hs3]
    refine I2.laid (t' := s2.toks) (fun b o e => Heap.get?_push_of_some _ e) (Nat.le_of_eq hD) ⟨Nat.zero_le _, [], 0, .nil, ?_⟩
    rw [← hD]
    exact Heap.get?_push_size _ rfl
  have h3 : s3.heap = s2.heap.push { cls := .type "list", data := .seq ([] : List Value).toArray } := by rw [← hs3]
  have sz : ∀ b ∈ fp, b < s2.heap.objs.size := fun b hb => by
    obtain ⟨o, e, _⟩ := T.obj _ _ st2 b hb
    exact Heap.lt_size e
  have f3 : ∀ b ∈ fp, FpOk X pins (upd H2 D (.lst [])) b ∧ b < s3.heap.objs.size := fun b hb => by
    have hlt := sz b hb
    refine ⟨⟨?_, (f2 b hb).2⟩, by rw [h3, Heap.size_push]; exact Nat.lt_succ_of_lt hlt⟩
    rw [upd_ne (by rw [← hD]; exact Nat.ne_of_lt hlt)]
    exact (f2 b hb).1
  have st3 : tn 0 s3.heap := T.keep _ _ _ st2 fun b _ o e => by rw [h3]; exact Heap.get?_push_of_some _ e
  have I4 := block_start I3 ok hN f3
  have pg := hg s3 (upd H2 D (.lst [])) s3.heap.objs.size (cellsFrom (s3.heap.objs.size + 1) scope.names (cloFrom X.env.cells scope.names [])) fp
  have pt := ht s3 (upd H2 D (.lst [])) s3.heap.objs.size (cellsFrom (s3.heap.objs.size + 1) scope.names (cloFrom X.env.cells scope.names [])) fp
  have pe := he s3 (upd H2 D (.lst [])) s3.heap.objs.size (cellsFrom (s3.heap.objs.size + 1) scope.names (cloFrom X.env.cells scope.names [])) fp
  show codeAny _ _ (.compStart (.ListComp elt [⟨tg, iter, ifs, 0⟩] scope pos) 0 (.ref it) (.ref D) (compEnvC scope (cellsFrom (s3.heap.objs.size + 1) scope.names (cloFrom X.env.cells scope.names [])) s3.heap.objs.size X.env)) (compEnds (model X.prog X.w) X.A X.xe none Qf (.ref D) (compEnvC scope (cellsFrom (s3.heap.objs.size + 1) scope.names (cloFrom X.env.cells scope.names [])) s3.heap.objs.size X.env)) { s3 with heap := pushCells (s3.heap.push { cls := .type "dict", data := .dict #[] }) scope.names }
  have nfp : ∀ b ∈ fp, (upd H2 D (.lst [])) b = none := fun b hb => (f3 b hb).1.1
  have hcf : (compEnvC scope (cellsFrom (s3.heap.objs.size + 1) scope.names (cloFrom X.env.cells scope.names [])) s3.heap.objs.size X.env).frame = X.env.frame := rfl
  generalize hce : compEnvC scope (cellsFrom (s3.heap.objs.size + 1) scope.names (cloFrom X.env.cells scope.names [])) s3.heap.objs.size X.env = ce at I4 pg pt pe hcf ⊢
  have cL : ce.locals = s3.heap.objs.size := by subst hce; rfl
  generalize hH3 : upd H2 D (.lst []) = H3 at I3 I4 pg pt pe w0 nfp f3
  generalize hs4 : ({ s3 with heap := pushCells (s3.heap.push { cls := .type "dict", data := .dict #[] }) scope.names } : Shared) = s4 at I4 ⊢
  have st4 : tn 0 s4.heap := T.keep _ _ _ st3 fun b _ o e => by rw [← hs4]; exact pushCells_keeps _ _ _ _ (Heap.get?_push_of_some _ e)
  have stat : ∀ {σ' : St} {H' : Hp} {s' : Shared}, Inv (X.blk s3 H3 scope ce fp) [] σ' H' s' → (∀ b ∈ fp, H' b = none) → ∀ b ∈ fp, FpOk (X.blk s3 H3 scope ce fp) [] H' b := fun {σ' H' s'} I' hn b hb =>
    ⟨hn b hb, (I'.ok.exf b hb).1, I'.ok.exfs b hb, .inl hb, fun x c e => (I'.ok.exf b hb).2 x c e, fun p hp => absurd (show p ∈ ([] : List (Addr × Obj)) ++ [] from hp) (by simp)⟩
  have loop : codeAny (model X.prog X.w) X.A (.compLoop (.ListComp elt [⟨tg, iter, ifs, 0⟩] scope pos) 0 (.ref it) (.ref D) ce) (compEnds (model X.prog X.w) X.A X.xe none Qf (.ref D) ce) s4 := by
    refine compLoop_any (fun n s' => ∃ i H', Inv (X.blk s3 H3 scope ce fp) [] (wipe σ (own.map (·.2))) H' s' ∧ tn i s'.heap ∧ (∀ b ∈ fp, H' b = none) ∧ W i n H') ?_ m0 ⟨0, H3, I4, st4, nfp, w0⟩
    rintro n s5 ⟨i, H5, I5, st5, n5, w5⟩
    rcases turn i n H5 w5 with ⟨stop, qq⟩ | ⟨go, Nx, hNx, step⟩
    · have td := T.done (X.blk s3 H3 scope ce fp) rfl rfl rfl hc i [] s5 _ H5 (fun _ _ => False) I5 (stat I5 n5) st5 stop
      refine thnF td fun r s6 ⟨hr, I6⟩ => ?_
      subst hr
      -- back in the def's context
      have I7 : Inv X pins σ H5 s6 := I3.call' (ch := fp) I6.os I6.base I6.hok I6.bare fun b hb => ⟨(f3 b hb).1.2.2.2.1, (f3 b hb).1.2.1, (f3 b hb).1.2.2.2.2.1, (f3 b hb).1.2.2.2.2.2⟩
      have nC : H5 s3.heap.objs.size = none := by
        have z : H5 ce.locals = none := I6.free
        rw [cL] at z
        exact z
      obtain ⟨m, hn, _⟩ := I6.loc
      have hn : s6.heap.Ns ce.locals m := hn
      rw [cL] at hn
      have hq := hRR D s3.heap.objs.size s6 m H5 I7 qq hn (I3.fpOk (Nat.le_refl _) nC)
      rw [← cL] at hq
      exact hq
    · have ti := T.item (X.blk s3 H3 scope ce fp) rfl rfl rfl hc i [] s5 _ H5 (fun _ _ => False) I5 (stat I5 n5) st5 go
      refine thnF ti fun r s6 ⟨u, hr, h6⟩ => ?_
      subst hr
      refine thnF h6 fun _ s7 ⟨x, H7, I7, r7, y7, st7, n7⟩ => ?_
      have I7' := I7.pinned (stat I7 n7) (T.obj _ _ st7)
      refine thnF (pg.run _ s7 _ H7 x u _ I7' r7 (step x H7 y7)) fun _ s8 ⟨σ8, H8, I8, hw8, q8⟩ => ?_
      refine thnF (pt.run _ s8 σ8 H8 _ I8 q8) fun b s9 ⟨H9, I9, q9⟩ => ?_
      -- the turn's end
      have fin : ∀ {s' : Shared} {H' : Hp}, Inv (X.blk s3 H3 scope ce fp) ([] ++ pinsAt fp s7.heap) σ8 H' s' → Nx H' → ∃ m, m < n ∧ ∃ i H', Inv (X.blk s3 H3 scope ce fp) [] (wipe σ (own.map (·.2))) H' s' ∧ tn i s'.heap ∧ (∀ b ∈ fp, H' b = none) ∧ W i m H' := fun {s' H'} I' nx => by
        obtain ⟨m', hm, w'⟩ := hNx H' nx
        have pin' : ∀ b ∈ fp, ∀ o, s7.heap.get? b = some o → s'.heap.get? b = some o ∧ H' b = none := fun b hb o e =>
          let z := I'.pin (b, o) (List.mem_append_right _ (List.mem_append_right _ (mem_pinsAt hb e)))
          ⟨z.1, z.2.1⟩
        have hl : (wipe σ (own.map (·.2))).length = σ8.length := by rw [← hw8, wipe_length]
        refine ⟨m', hm, i + 1, H', (I'.unpinned (pins := [])).weak hl (fun j v e => ?_), T.keep _ _ _ st7 fun b hb o e => (pin' b hb o e).1, fun b hb => ?_, w'⟩
        · rw [← hw8] at e
          exact (wipe_some e).1
        · obtain ⟨o, e, _⟩ := T.obj _ _ st7 b hb
          exact (pin' b hb o e).2
      cases b with
      | false =>
        simp only [Bool.false_eq_true, if_false] at q9 ⊢
        exact fin I9 q9
      | true =>
        simp only [if_true] at q9 ⊢
        refine wpAny_mono ((pe (notedBy (model X.prog X.w) X.A ce (CompFails (model X.prog X.w) X.A X.xe ce)) fun σ₁ pins' Hb sb u s' Ib c => blk_flies hst hff tk I3 (fun b hb => (f3 b hb).1) cL hcf Ib c).run _ s9 σ8 H9 _ (I9.wish _) q9) (fun z s10 ⟨yv, H10, I10, r10, acc, hD10, hz10, nx⟩ => ?_) fun _ _ z => z
        exact app_ok (X := X.blk s3 H3 scope ce fp) I10.unwish hD10 hz10 r10 fun s11 I11 => fin I11 nx
  exact codeAny_compStart_list loop (T.self X.A 0 _ _ _ st4 loop)
/-- as a value, the element a call that may raise -/
theorem pe_lcX {elt tg iter : Expr} {ifs : List Expr} {scope : Scope} {own : List (Str × Nat)} {pos : Pos} {wi : TI} {g : TG} {tt : TT} {te : St → TE} {W₀ : WX} (hst : X.stack = X.env :: X.outer) (hff : X.env.frame = some X.env.locals) (tk : Takes X W₀) (hc : X.calm = true) (hN : X.N.Nodup) (hi : PI X tg iter wi) (ok : BlkOk X.N X.env.scope scope own)
    (hg : ∀ (s : Shared) (H : Hp) (C : Addr) (cl : List (Str × Addr)) (fp : List Addr), PG (X.blk s H scope (compEnvC scope cl C X.env) fp) tg g) (ht : ∀ (s : Shared) (H : Hp) (C : Addr) (cl : List (Str × Addr)) (fp : List Addr), PTs (X.blk s H scope (compEnvC scope cl C X.env) fp) ifs tt)
    (he : ∀ (σ : St) (s : Shared) (H : Hp) (C : Addr) (cl : List (Str × Addr)) (fp : List Addr) (xe : Value → Shared → Prop), (∀ σ₁, PassesAt (L2.CX X.prog X.w) ((X.blk s H scope (compEnvC scope cl C X.env) fp).wish xe) σ₁ (fun cls d H => W₀ cls d σ H)) → PE ((X.blk s H scope (compEnvC scope cl C X.env) fp).wish xe) elt (te σ)) (hs : ∀ x, foldedSetIterable iter X.env x = pure x := by intro _; rfl) :
    PE X (.ListComp elt [⟨tg, iter, ifs, 0⟩] scope pos) (fun σ H Q => tLc wi g tt (te σ) (own.map (·.2)) σ H Q) := by
  refine ⟨fun pins s σ H Q I h => ?_⟩
  rw [eval_ListComp]
  refine lc_coreX hst hff tk hc hN I hi ok hg ht (he σ) hs h fun D C s' m H' I' q hn f => ⟨m, hn, fun h'' sb => ?_⟩
  obtain ⟨f0, f1, f2, f3, f4, f5⟩ := f
  exact ⟨.ref D, H', I'.turned (t' := s'.toks) (fun b o hb e => (sb.2 b hb).trans e) f0 f1 f3 f4 f5, rfl, q⟩
end
end L2
set_option maxRecDepth 100000
/-! LP: a list comprehension whose element may raise. -/
namespace LP
open PySem L2
def lcLoopX (vs : List Nat) (g : Tg) (a : EvX) : List T → List T → Env → Option ((List T × Env) ⊕ (Str × Env))
  | [], acc, env => some (.inl (acc, env))
  | x :: r, acc, env => match g x (wipeE env vs) with
    | some e1 => match a e1 with
      | some (.ok o e3) => match sto e3 o with
        | some t => if acc.length < sizeLine then lcLoopX vs g a r (acc ++ [t]) (wipeE e3 vs) else none
        | none => none
      | some (.ex c e3) => some (.inr (c, wipeE e3 vs))
      | none => none
    | none => none
def lcEndX (e : Env) (vs : List Nat) : (List T × Env) ⊕ (Str × Env) → Option ExE
  | .inl (ts, e2) => (bring e vs e2).map fun e3 => .ok (.t (.lst true ts)) e3
  | .inr (c, e2) => (bring e vs e2).map fun e3 => .ex c e3
/-- [a for g in it], a a call that may raise -/
def cLcX (n : Nat) (vs : List Nat) (it : It) (g : Tg) (a : EvX) : EvX := fun env => match it env with
  | some (items, e) => if e.length ≤ n then match lcLoopX vs g a items [] (wipeE e vs) with
    | some res => lcEndX e vs res
    | none => none
    else none
  | none => none
section
variable {K : PySem.W.Frag} {mg : Str → Option Value} {pn : List Nat} {W : WX}
theorem eLcX {wi : TI} {it : It} {tg : TG} {g : Tg} {te : L2.St → TE} {a : EvX} {n : Nat} {vs : List Nat} (hp : ∀ i, i < n → i ∉ vs → i ∈ pn) (hi : WSnd K wi it) (hg : GSnd K pn tg g) (ha : ∀ σ₀ : L2.St, ESndX K mg (fun c d _ H => W c d σ₀ H) (te σ₀) a) :
    ESndX K mg W (fun σ H Q => tLc wi tg tYes (te σ) vs σ H Q) (cLcX n vs it g a) := by
  intro env r h σ F O f a0 Q q
  simp only [cLcX] at h
  split at h
  · next items e h1 =>
    split at h
    · next hn =>
      split at h
      · next res h2 =>
          refine hi _ _ _ h1 σ F O f a0 _ fun J F1 O1 f1 a1 s1 y D hD => ?_
          obtain ⟨fw, ew, cw⟩ := a1.e.wipe vs
          have hl1 : σ.length = e.length := a1.e.len
          -- the invariant: the new list at D, the slots wiped
          refine ⟨fun i m H => ∃ env2 F2 O2 f2 acc vsd fd, H = jn F2 O2 ∧ m = items.length - i ∧ Dis F2 O2 ∧ RlE K F2 O2 (L2.wipe σ vs) env2 f2 ∧ Rls K F2 O2 vsd acc fd ∧ O2 D = some (.lst vsd) ∧ Nd ((D :: fd) ++ f2) ∧ Stp F1 O1 f1 F2 O2 ((D :: fd) ++ f2) ∧ lcLoopX vs g a (items.drop i) acc env2 = some res ∧ (∀ i ∈ vs, ∀ t, env2[i]? ≠ some (some t)),
            ⟨items.length, wipeE e vs, F1, upd O1 D (.lst []), fw, [], [], [], upd_jn, rfl, a1.d.updO (jn_none hD).1, ew.mono (Same.refl F1) fun a z u e => ?_, .nil, upd_same, ?_, ?_, h2, fun i hi t z => (wipeE_at z).2 hi⟩, ?_⟩
          · rw [upd_ne fun z => by rw [z, (jn_none hD).2] at e; cases e]
            exact e
          · refine Nd.of (fun a => Nat.le_trans (List.count_le_length ..) (Nat.le_refl _)) (a1.nd.right.sub cw) fun a z w => ?_
            rw [List.mem_singleton.mp z, mem_count] at w
            have := cw D
            obtain ⟨u, hu⟩ := a1.e.alloc D (mem_count.mpr (by omega))
            rw [(jn_none hD).2] at hu
            cases hu
          · have s2 := (Stp.newO (F := F1) (O := O1) (p := D) (o := .lst []) (gs := [D]) hD fun a z => List.mem_singleton.mp z).frame (hs := f1)
            rw [List.append_nil] at s2
            refine s2.less fun a z => ?_
            rcases List.mem_append.mp z with w | w
            · exact List.mem_append_right _ w
            · refine List.mem_append_left _ ?_
              rw [mem_count] at w ⊢
              have := cw a
              omega
          · rintro i m H ⟨env2, F2, O2, f2, acc, vsd, fd, rfl, rfl, d2, r2, rl2, hD2, n2, s2, l2, w2⟩
            obtain ⟨y1, y2⟩ := y F2 O2 s2.f d2 i
            by_cases hl : items.length ≤ i
            · rw [List.drop_eq_nil_of_le hl] at l2
              simp only [lcLoopX] at l2
              cases l2
              refine .inl ⟨y2 hl, ?_⟩
              simp only [lcEndX] at h
              cases h3 : bring e vs env2 with
              | none => rw [h3] at h; cases h
              | some e3 =>
              rw [h3] at h
              cases h
              -- back to the slots as they stood
              have r3 : RlE K F2 O2 σ env2 f2 := r2.cong (wipe_length ..).symm fun j t hj => (wipe_at fun hv => w2 j hv t hj).symm
              obtain ⟨g', r4, c4⟩ := RlE.bring a1.e s2.f r3 h3
              refine q _ F2 O2 (D :: fd) g' ⟨d2, r4, n2.sub fun a => by rw [List.count_append, List.count_append]; have := c4 a; omega⟩ (s1.trans (s2.less fun a z => ?_)) (Rl.lstO hD2 rl2)
              rcases List.mem_append.mp z with w | w
              · exact List.mem_append_left _ w
              · refine List.mem_append_right _ ?_
                rw [mem_count] at w ⊢
                have := c4 a
                omega
            · have hlt : i < items.length := Nat.lt_of_not_le hl
              rw [List.drop_eq_getElem_cons hlt] at l2
              obtain ⟨go, yl⟩ := y1 _ (List.getElem?_eq_getElem hlt)
              refine .inr ⟨go, fun H' => ∃ env2 F2 O2 f2 acc vsd fd, H' = jn F2 O2 ∧ Dis F2 O2 ∧ RlE K F2 O2 (L2.wipe σ vs) env2 f2 ∧ Rls K F2 O2 vsd acc fd ∧ O2 D = some (.lst vsd) ∧ Nd ((D :: fd) ++ f2) ∧ Stp F1 O1 f1 F2 O2 ((D :: fd) ++ f2) ∧ lcLoopX vs g a (items.drop (i + 1)) acc env2 = some res ∧ (∀ i ∈ vs, ∀ t, env2[i]? ≠ some (some t)), ?_, fun x H' yx => ?_⟩
              · rintro H' ⟨env', F', O', f', acc', vsd', fd', rfl, b⟩
                exact ⟨items.length - (i + 1), by omega, env', F', O', f', acc', vsd', fd', rfl, rfl, b⟩
              · obtain ⟨F3, O3, rfl, d3, s3, r3⟩ := yl x H' yx
                simp only [lcLoopX] at l2
                split at l2
                · next e4 h4 =>
                  obtain ⟨f2w, r2w, c2w⟩ := r2.wipe vs
                  rw [wipe_wipe] at r2w
                  have n2w : Nd f2w := n2.right.sub c2w
                  have a3 : At K (L2.wipe σ vs) F3 O3 (wipeE env2 vs) [] f2w := ⟨d3, r2w.mono s3.f fun a z o e => s3.none_k a o e, n2w⟩
                  -- what stands by: the new list and its items
                  have k23 : ∀ a o, O2 a = some o → O3 a = some o := s3.none_k
                  have ap : ∀ a ∈ D :: fd, a ∉ f2w := fun a z w => n2.apart z (by rw [mem_count] at w ⊢; have := c2w a; omega)
                  have nD : Nd ((D :: fd) ++ f2w) := n2.left.of n2w ap
                  have al3 : ∀ a ∈ D :: fd, ∃ o, O3 a = some o := fun a z => (List.mem_cons.mp z).elim (fun e => ⟨_, e ▸ k23 _ _ hD2⟩) fun w => by
                    obtain ⟨o, e⟩ := rl2.alloc a w
                    exact ⟨o, k23 _ _ e⟩
                  have s13 : Stp F1 O1 f1 F3 O3 ((D :: fd) ++ f2w) := by
                    have s4 := s3.frame (hs := (D :: fd) ++ f2)
                    rw [List.append_nil] at s4
                    refine (s2.trans s4).less fun a z => ?_
                    rcases List.mem_append.mp z with w | w
                    · exact List.mem_append_left _ w
                    · refine List.mem_append_right _ ?_
                      rw [mem_count] at w ⊢
                      have := c2w a
                      omega
                  refine hg _ _ _ h4 x _ F3 O3 [] f2w a3 r3 _ fun σ4 F4 O4 f4 a4 s4 p4 => ?_
                  have e24 : L2.wipe σ4 vs = L2.wipe σ vs := by
                    have hl4 : σ4.length = (L2.wipe σ vs).length := p4.l
                    rw [← wipe_wipe (σ := σ)]
                    refine wipe_same hl4 fun j hj => ?_
                    by_cases hjn : j < n
                    · exact p4.s j (hp j hjn hj)
                    · rw [List.getElem?_eq_none (by rw [hl4, wipe_length, hl1]; omega), List.getElem?_eq_none (by rw [wipe_length, hl1]; omega)]
                  refine ⟨e24, ?_⟩
                  have hD3 := k23 _ _ hD2
                  have rl3 : Rls K F3 O3 vsd acc fd := rl2.mono s3.f fun a _ o e => k23 a o e
                  have s4 : Stp F3 O3 f2w F4 O4 f4 := s4
                  unfold L2.tYes
                  dsimp only
                  rw [if_pos rfl]
                  split at l2
                  · next o6 e6 h6 =>
                    split at l2
                    · next t ht =>
                      split at l2
                      · next hz =>
                          refine ha σ _ _ h6 σ4 F4 O4 f4 a4 _ fun v6 F6 O6 fp6 f6 a6 s6 r6 => ?_
                          have s46 := s4.trans s6
                          have n6 : Nd ((D :: fd) ++ (fp6 ++ f6)) := s46.nd al3 nD a6.nd
                          have hD6 : O6 D = some (.lst vsd) := s46.k _ _ (ap D (List.mem_cons_self ..)) hD3
                          have rl6 : Rls K F6 O6 vsd acc fd := s46.keeps rl3 fun a z => ap a (List.mem_cons_of_mem _ z)
                          have rt := r6.store a6.e ht
                          obtain ⟨f7, r7, c7⟩ := a6.e.wipe vs
                          rw [e24] at r7
                          have np : ∀ {l : List Addr}, l.count D = 0 → ∀ a ∈ l, ∀ o, O6 a = some o → upd O6 D (.lst (vsd ++ [v6])) a = some o := fun z a w o e => by
                            rw [upd_ne fun q => by rw [q, mem_count] at w; omega]
                            exact e
                          have m6 := n6 D
                          simp only [List.count_append, List.count_cons, beq_self_eq_true, if_true] at m6
                          have c7D := c7 D
                          refine ⟨vsd, jn_O hD6, by rw [rl6.len]; exact hz, wipeE e6 vs, F6, upd O6 D (.lst (vsd ++ [v6])), f7, acc ++ [t], vsd ++ [v6], fd ++ (fp6 ++ []), upd_jn, a6.d.updO (a6.d.noF hD6), r7.mono (Same.refl _) (np (by omega)), ?_, upd_same, ?_, ?_, l2, fun i hi t z => (wipeE_at z).2 hi⟩
                          · exact ((rl6.append (.cons rt .nil))).mono (Same.refl _) (np (by simp only [List.count_append, List.count_nil]; omega))
                          · refine n6.sub fun a => ?_
                            have := c7 a
                            simp only [List.count_append, List.count_cons, List.count_nil]
                            omega
                          · have s7 := s13.trans (s46.frame (hs := D :: fd))
                            refine ⟨s7.f, fun a o z e => ?_, fun a z => s7.n a ?_, fun a z => ?_⟩
                            · rw [upd_ne fun q => ?_]
                              · exact s7.k a o z e
                              · rcases s7.n D (List.mem_append_left _ (List.mem_cons_self ..)) with w | w
                                · exact z (q ▸ w)
                                · rw [q] at e; rw [jn_O e] at w; cases w
                            · rw [mem_count] at z ⊢
                              have := c7 a
                              simp only [List.count_append, List.count_cons, List.count_nil] at z ⊢
                              omega
                            · rw [← upd_jn]
                              by_cases w : a = D
                              · rw [w, upd_same]; exact fun z => nomatch z
                              · rw [upd_ne w]; exact s7.g a z
                      · cases l2
                    · cases l2
                  · next c e6 h6 =>
                    cases l2
                    simp only [lcEndX] at h
                    cases h3 : bring e vs (wipeE e6 vs) with
                    | none => rw [h3] at h; cases h
                    | some e3 =>
                    rw [h3] at h
                    cases h
                    refine ha σ _ _ h6 σ4 F4 O4 f4 a4 _ fun F6 O6 f6 a6 s6 => ?_
                    have s46 := s4.trans s6
                    obtain ⟨f7, r7, c7⟩ := a6.e.wipe vs
                    rw [e24] at r7
                    have r8 : RlE K F6 O6 σ (wipeE e6 vs) f7 := r7.cong (wipe_length ..).symm fun j t hj => (wipe_at fun hv => (wipeE_at hj).2 hv).symm
                    have s7 := s13.trans (s46.frame (hs := D :: fd))
                    obtain ⟨g', r9, c9⟩ := RlE.bring a1.e s7.f r8 h3
                    refine q F6 O6 g' ⟨a6.d, r9, a6.nd.sub fun a => ?_⟩ (s1.trans (s7.less fun a z => ?_))
                    · have := c9 a
                      have := c7 a
                      simp only [List.nil_append]
                      omega
                    · refine List.mem_append_right _ ?_
                      rw [mem_count] at z ⊢
                      have := c9 a
                      have := c7 a
                      omega
                  · cases l2
                · cases l2
      · cases h
    · cases h
  · cases h
end
end LP
set_option maxRecDepth 100000
/-! LP: the rules of a comprehension that may raise, of a test that may raise. -/
namespace LP
open PySem L2
section
variable {K : PySem.W.Frag} {X : Cx} {c e : Expr} {es : List Expr} {te tb : TE} {tw : WX → TE} {tas : TA} {ev eb : Ev} {eas : Ea} {evx : EvX} {pos p1 p2 p3 : Pos} {pn pm : List Nat} {st : Stmt} {sts sa sb : List Stmt} {ts us : WX → TS} {s u : SX} {gg : TG} {g : Tg} {tg iter : Expr} {wi : TI} {it : It}
theorem PE.nox {X : Cx} {e : Expr} {t : TE} (h : PE X.nox e t) : PE X e t := ⟨fun pins s σ H Q I hw =>
  wpAny_mono (h.run pins s σ H Q (I.wish _) hw) (fun _ _ ⟨v, H', I', r, q⟩ => ⟨v, H', I'.unwish, r, q⟩) fun _ _ z => False.elim z⟩
theorem yLcX {k j : Nat} {x : Str} {ps : List Str} {m : List Bool} {f : GX} {mg : Str → Option Value} {scope : Scope} (own : List (Str × Nat)) {n : Nat} (C : CalX X.prog X.w K mg X.base j x ps m f) (hr : Room k X.A)
    (hc : X.calm = true) (hN : X.N.Nodup) (hi : SI K X.nox tg iter wi it) (ok : BlkOk X.N X.env.scope scope own)
    (hg : ∀ (s : Shared) (H : Hp) (C : Addr) (cl : List (Str × Addr)) (fp : List Addr), SG K (X.blk s H scope (PySem.compEnvC scope cl C X.env) fp) pm tg gg g)
    (ha : ∀ (s : Shared) (H : Hp) (C : Addr) (cl : List (Str × Addr)) (fp : List Addr), SA K (X.blk s H scope (PySem.compEnvC scope cl C X.env) fp) (e :: es) tas eas)
    (hgl : ∀ (s : Shared) (H : Hp) (C : Addr) (cl : List (Str × Addr)) (fp : List Addr), Gl (X.blk s H scope (PySem.compEnvC scope cl C X.env) fp) x := by intros; rfl)
    (hst : X.stack = X.env :: X.outer := by rfl) (hff : X.env.frame = some X.env.locals := by rfl) (hmg : X.mg = mg := by rfl) (hj : j ≤ k := by decide) (hdb : (x == ("__debug__" : Str)) = false := by decide)
    (hse : ∀ env, starEach (e :: es) env = (false, eval e env) :: starEach es env := by intro _; rfl) (hpl : ∀ env, (backTo pos (starEach es env)).any (·.1) = false := by intro _; rfl)
    (hp : ((List.range n).all fun i => decide (i ∈ own.map (·.2)) || decide (i ∈ pm)) = true := by decide) (hs : ∀ x, foldedSetIterable iter X.env x = pure x := by intro _; rfl) :
    SEX K X (.ListComp (.Call (.Name x p2) (e :: es) [] pos) [⟨tg, iter, [], 0⟩] scope p3) (fun W σ H Q => tLc wi gg tYes (tCallS (spX K mg m.length f) (WE (fun c d _ H => W c d σ H)) tas) (own.map (·.2)) σ H Q) (cLcX n (own.map (·.2)) it g (cCallX f m eas)) := by
  cases hi.k
  cases hmg
  obtain ⟨fa, fd, h1, h2, h3, h4⟩ := C
  refine ⟨fun W tk => pe_lcX (te := fun σ => tCallS (spX X.K X.mg m.length f) (WE (fun c d _ H => W c d σ H)) tas) hst hff tk hc hN (PI.nox hi.p) ok (fun s H C cl fp => (hg s H C cl fp).p) (fun _ _ _ _ _ => pts_nil) (fun σ s H C cl fp xe hpas => ?_) hs,
    fun W => eLcX (te := fun σ => tCallS (spX X.K X.mg m.length f) (WE (fun c d _ H => W c d σ H)) tas) (all_pn hp) hi.s (hg X.s_0 X.H_0 0 [] []).s (fun σ₀ => eCallX (W := fun c d _ H => W c d σ₀ H) (ha X.s_0 X.H_0 0 [] []).s), rfl⟩
  exact pe_callS (X := (X.blk s H scope (PySem.compEnvC scope cl C X.env) fp).wish xe) h1 (hr.mono hj) (hgl s H C cl fp) h2 h3 h4 hpas (PA.nox (X := (X.blk s H scope (PySem.compEnvC scope cl C X.env) fp).wish xe) (ha s H C cl fp).p) hdb (hse _) (hpl _)
end
def cO2X (g : T → T → Option T) (a : EvX) (b : Ev) : EvX := fun env => match a env with
  | some (.ok o1 e1) => match b e1 with
    | some (o2, e2) => match vw e2 o1, vw e2 o2 with
      | some x, some y => match g x y with
        | some t => some (.ok (.t t) e2)
        | none => none
      | _, _ => none
    | none => none
  | some (.ex c e) => some (.ex c e)
  | none => none
def kIfX (c : EvX) (a b : SX) : SX := fun env => match c env with
  | some (.ok o e) => match vw e o with
    | some (.bl true) => a e
    | some (.bl false) => b e
    | _ => none
  | some (.ex c e) => some (.ex c e)
  | none => none
section
variable {K : PySem.W.Frag} {mg : Str → Option Value} {pn : List Nat} {W : WX} {ta tb tc : TE} {ea : EvX} {eb : Ev} {r : R2} {g : T → T → Option T}
theorem eO2X (ha : ESndX K mg W ta ea) (hb : ESnd K tb eb) (hr : OSnd2 K r g) : ESndX K mg W (tOp r ta tb) (cO2X g ea eb) := by
  intro env res h σ F O f a0 Q q
  simp only [cO2X] at h
  split at h
  · next o1 e1 h1 =>
    split at h
    · next o2 e2 h2 =>
      split at h
      · next x y hx hy =>
        split at h
        · next t ht =>
          cases h
          refine ha _ _ h1 σ F O f a0 _ fun v F1 O1 fp1 f1 a1 s1 r1 => ?_
          refine hb _ _ _ h2 σ F1 O1 f1 a1.only _ fun v2 F2 O2 fp2 f2 a2 s2 r2 => ?_
          obtain ⟨g1, w1, _⟩ := (s2.keepO r1 fun a z => a1.nd.apart z).view a2.e hx
          obtain ⟨g2, w2, _⟩ := r2.view a2.e hy
          exact hr F2 O2 _ _ _ _ _ _ _ a2.d w1 w2 ht Q (fin a2 (s1.snd.trans s2.snd) q)
        · cases h
      · cases h
    · cases h
  · next c e h1 =>
    cases h
    exact ha _ _ h1 σ F O f a0 _ q
  · cases h
theorem sKIfX {ts us : TS} {a b : SX} (hc : ESndX K mg W tc ea) (ha : SndX K mg pn W ts a) (hb : SndX K mg pn W us b) : SndX K mg pn W (tIfS (tTest tc) ts us) (kIfX ea a b) := by
  intro env out h σ F O f a0 D q
  unfold kIfX at h
  split at h
  · next o e h1 =>
    split at h
    · next hv =>
      refine hc _ _ h1 σ F O f a0 _ fun v F1 O1 fp1 f1 a1 s1 r1 => ?_
      obtain ⟨g1, w1, _⟩ := r1.view a1.e hv
      cases w1
      refine ⟨_, rfl, ?_⟩
      dsimp only
      rw [if_pos rfl]
      exact ha _ _ h σ F1 O1 f1 a1.only D (q.after s1.snd Same2.refl)
    · next hv =>
      refine hc _ _ h1 σ F O f a0 _ fun v F1 O1 fp1 f1 a1 s1 r1 => ?_
      obtain ⟨g1, w1, _⟩ := r1.view a1.e hv
      cases w1
      refine ⟨_, rfl, ?_⟩
      dsimp only
      rw [if_neg Bool.false_ne_true]
      exact hb _ _ h σ F1 O1 f1 a1.only D (q.after s1.snd Same2.refl)
    · cases h
  · next c e h1 =>
    cases h
    exact hc _ _ h1 σ F O f a0 _ fun F1 O1 f1 a1 s1 => q σ F1 O1 f1 a1 s1 Same2.refl
  · cases h
end
section
variable {K : PySem.W.Frag} {X : Cx} {a b : Expr} {tb : TE} {tw : WX → TE} {eb : Ev} {evx : EvX} {pos p1 : Pos} {pn : List Nat} {sa sb : List Stmt} {ts us : WX → TS} {s u : SX}
/-- if f(..) != e: .., the call may raise -/
theorem yIfNeX (hu : X.A.units + 64 < cLine) (ha : SEX K X a tw evx) (hb : SE K X.nox b tb eb) (h1 : SYs K X pn sa ts s) (h2 : SYs K X pn sb us u) :
    SY K X pn (.If (.Compare a [.NotEq] [b] p1) sa sb pos) (fun W => tIfS (tTest (tOp (rEqP K fun b => !b) (tw W) tb)) (ts W) (us W)) (kIfX (cO2X neT evx eb) s u) := by
  cases ha.k
  exact ⟨fun W t po => ps_if (pt_cmpR (op_neP hu) (ha.p W t) (PE.nox hb.p) (nomark _)) (h1.p W t po) (h2.p W t po), fun W => sKIfX (eO2X (ha.s W) hb.s sNe) (h1.s W) (h2.s W), rfl⟩
end
end LP
set_option maxRecDepth 100000
/-! LP: x.insert(e, e'), x.pop(m) as a value. -/
namespace LP
open PySem L2
/-- x.pop(m), what is popped frozen -/
noncomputable def cPopI (i m : Nat) : Ev := fun env => match env[i]?, intAt env m with
  | some (some (.lst true xs)), some n => match ixN xs.length n with
    | some k => match xs[k]? with
      | some t => if t.fz = true ∧ inR n = true then some (.t t, env.set i (some (.lst true (xs.eraseIdx k)))) else none
      | none => none
    | none => none
  | _, _ => none
/-- x.insert(k, a) -/
noncomputable def cIns (i : Nat) (k a : Ev) : Ev := fun env => match env[i]? with
  | some (some (.lst true _)) => match k env with
    | some (o0, e0) => match vw e0 o0 with
      | some (.int n) => match a e0 with
        | some (o, e) => match e[i]? with
          | some (some (.lst true xs)) => match sto e o with
            | some t => if xs.length < sizeLine ∧ 0 ≤ n ∧ inR n = true then some (.t .non, e.set i (some (.lst true (xs.take n.toNat ++ [t] ++ xs.drop n.toNat)))) else none
            | none => none
          | _ => none
        | none => none
      | _ => none
    | none => none
  | _ => none
section
variable {K : PySem.W.Frag} {X : Cx}
theorem ePopI {i m : Nat} : ESnd K (tBM K "list" rPopAt (tVar i) (tCons (tVar m) tNil)) (cPopI i m) := by
  intro env o env' h σ F O f a0 Q q
  unfold cPopI at h
  split at h
  · next xs n h0 hm =>
    split at h
    · next k hk =>
      split at h
      · next t ht =>
        split at h
        · next hz =>
          cases h
          obtain ⟨z1, z2⟩ := hz
          rw [inR_eq] at z2
          simp only [Bool.and_eq_true, decide_eq_true_eq] at z2
          obtain ⟨p, vs, fs, g0, k0, r2, w⟩ := wr a0 (fun a z => by cases z) h0
          rw [← r2.len] at hk
          obtain ⟨b1, b2, _, _⟩ := ixN_seq hk
          obtain ⟨v, g, hv, rv, cv⟩ := r2.at ht
          refine ⟨.ref p, g0, .inl ⟨rfl, _, .inl (.inl (jn_O k0))⟩, .int n, intAt_get a0.e hm, p, vs, n, k, v, rfl, rfl, jn_O k0, Int.le_trans (by decide) z2.1, Int.lt_trans z2.2 (by decide), b1, hv, ?_⟩
          obtain ⟨g2, r3, c3⟩ := r2.eraseIdx k
          rw [upd_jn]
          obtain ⟨f', a2, s2, _⟩ := w _ _ g2 r3 fun a => by have := c3 a; omega
          refine q v _ _ [] f' a2 s2 ?_
          exact (rv.own0 z1).mono s2.f fun a z => by cases z
        · cases h
      · cases h
    · cases h
  · cases h
theorem eIns {i : Nat} {tk ta : TE} {k a : Ev} (hk : ESnd K tk k) (ha : ESnd K ta a) : ESnd K (tBM K "list" rIns (tVar i) (tCons tk (tCons ta tNil))) (cIns i k a) := by
  intro env o env' h σ F O f a0 Q q
  simp only [cIns] at h
  split at h
  · next xs0 h0 =>
    split at h
    · next o0 e0 hk0 =>
      split at h
      · next n hn =>
        split at h
        · next o1 e1 h1 =>
          split at h
          · next xs hx =>
            split at h
            · next t ht =>
              split at h
              · next hz =>
                cases h
                obtain ⟨z1, z2, z3⟩ := hz
                rw [inR_eq] at z3
                simp only [Bool.and_eq_true, decide_eq_true_eq] at z3
                obtain ⟨p0, vs0, fs0, g0, k0, _, _⟩ := wr a0 (fun a z => by cases z) h0
                refine ⟨.ref p0, g0, .inl ⟨rfl, vs0, .inl (.inl (jn_O k0))⟩, ?_⟩
                refine hk _ _ _ hk0 σ F O f a0 _ fun vk Fk Ok fpk fk ak sk rk => ?_
                obtain ⟨gk, wk, _⟩ := rk.view ak.e hn
                cases wk
                refine ha _ _ _ h1 σ Fk Ok fk ak.only _ fun v F1 O1 fp1 f1 a1 s1 r1 => ?_
                obtain ⟨p, vs, fs, g1, k1, r2, w⟩ := wr a1 r1.alloc hx
                rw [g0] at g1
                cases g1
                refine ⟨p0, vs, n, v, rfl, rfl, jn_O k1, by rw [r2.len]; exact z1, z2, Int.lt_trans z3.2 (by decide), ?_⟩
                rw [upd_jn]
                obtain ⟨g4, g5, t1, t2, t3⟩ := r2.take (n := n.toNat)
                obtain ⟨f', a2, s2, _⟩ := w (vs.take n.toNat ++ [v] ++ vs.drop n.toNat) (xs.take n.toNat ++ [t] ++ xs.drop n.toNat) (g4 ++ (fp1 ++ []) ++ g5) ((t1.append (.cons (r1.store a1.e ht) .nil)).append t2) fun a => by
                  have := t3 a
                  simp only [List.count_append, List.count_nil]; omega
                exact q .non _ _ [] f' a2 (sk.snd.trans (s1.trans s2)) .non
              · cases h
            · cases h
          · cases h
        · cases h
      · cases h
    · cases h
  · cases h
variable {e1 e2 : Expr} {tk te : TE} {kv ev : Ev} {p2 p3 p4 pos : Pos} {i m : Nat} {x y : Str}
theorem xPopI (h : PE X (.Name x p2) (tVar i)) (hy : PE X (.Name y p4) (tVar m))
    (hst : starEach [.Name y p4] X.env = (false, eval (.Name y p4) X.env) :: starEach [] X.env := by rfl)
    (hbase : attributeBase (.Name x p2) "pop" X.env (eval (.Name x p2) X.env) = eval (.Name x p2) X.env := by rfl)
    (hfew : ((backTo pos (starEach [.Name y p4] X.env)).all (fun x => !x.1) && (backToKw pos (keywordEach [] X.env)).all (fun x => x.1.isSome) && decide ([Expr.Name y p4].length + ([] : List Keyword).length + (if ([] : List Keyword).isEmpty then 0 else 1) < 30)) = true := by rfl)
    (hline : (p3.endLine == pos.line) = true := by rfl) (hk : X.K = K := by rfl) :
    SE K X (.Call (.Attribute (.Name x p2) "pop" p3) [.Name y p4] [] pos) (tBM K "list" rPopAt (tVar i) (tCons (tVar m) tNil)) (cPopI i m) := by
  cases hk
  exact ⟨pe_bm PySem.F.plainAttrs_list PySem.F.slot_list_pop PySem.F.type_list_pop mt_popAt h (pa_cons hy pa_nil hst) hbase hfew hline hst (by rfl), ePopI, rfl⟩
theorem xIns (h : PE X (.Name x p2) (tVar i)) (hk : SE K X e1 tk kv) (ha : SE K X e2 te ev) (hst : starEach [e1, e2] X.env = (false, eval e1 X.env) :: starEach [e2] X.env := by rfl) (hst2 : starEach [e2] X.env = (false, eval e2 X.env) :: starEach [] X.env := by rfl)
    (hbase : attributeBase (.Name x p2) "insert" X.env (eval (.Name x p2) X.env) = eval (.Name x p2) X.env := by rfl)
    (hfew : ((backTo pos (starEach [e1, e2] X.env)).all (fun x => !x.1) && (backToKw pos (keywordEach [] X.env)).all (fun x => x.1.isSome) && decide ([e1, e2].length + ([] : List Keyword).length + (if ([] : List Keyword).isEmpty then 0 else 1) < 30)) = true := by rfl)
    (hline : (p3.endLine == pos.line) = true := by rfl) (hpl : (backTo pos (starEach [e2] X.env)).any (·.1) = false := by rfl) :
    SE K X (.Call (.Attribute (.Name x p2) "insert" p3) [e1, e2] [] pos) (tBM K "list" rIns (tVar i) (tCons tk (tCons te tNil))) (cIns i kv ev) := by
  cases ha.k
  exact ⟨pe_bm PySem.F.plainAttrs_list PySem.F.slot_list_insert PySem.F.type_list_insert mt_insert h (pa_cons hk.p (pa_cons ha.p pa_nil hst2) hst) hbase hfew hline hst hpl, eIns hk.s ha.s, rfl⟩
end
end LP
set_option maxRecDepth 100000
/-! LP: a def that an except suite asks about its exception; suites that set a name and go on. -/
namespace LP
open PySem L2
/-- a def of one parameter that tells b of an exception of the class C, called in an except suite -/
structure FnP (P : Program) (w : World) (K : PySem.W.Frag) (mg : Str → Option Value) (base : Heap) (k : Nat) (f : Addr) (fd : FuncData) (n : Str) (C : Addr) (b : Bool) : Prop where
  run : ∀ (A₀ : Around) (outer : List PySem.Env) (s : Shared) (F O : Hp) (p : Addr × Obj) (Q : VK), L2H.RoomH k A₀ → L2H.PinOk outer (jn F O) s p → Zc (.ref C) none p.2 → (∃ vs, p.2.data = .fields vs) → Env0 P w K mg base (A₀.mark (some (.ref p.1))) outer s (jn F O) → Dis F O → BindsTo s fd ⟨[.ref p.1], []⟩ ([n].zip [.ref p.1]) →
    (∀ F', Dis F' O → Stp F O [] F' O [] → Q (.bl b) (jn F' O)) →
    codeAny (model P w) (A₀.mark (some (.ref p.1))) (.call (.ref f) ⟨[.ref p.1], []⟩) (CR (L2.CX P w) outer P w (jn F O) s Q (fun _ _ _ => False)) s
section
variable {P : Program} {w : World} {K : PySem.W.Frag} {mg : Str → Option Value} {base : Heap}
theorem fnP_ok {x qual n : Str} {st : Stmt} {fa : Addr} {fd : FuncData} {N : List Str} {k : Nat} {C : Addr} {b : Bool} {e : Expr} {pos : Pos} (Fu : Fun K x qual st fa fd) (S : FnScope N [n] (defScope st)) (hbd : defBody st = [.Return (some e) pos])
    (he : ∀ (cdv : Value) (A : Around) (outer : List PySem.Env) (s : Shared) (H : Hp) (E : XK), ∃ te, VE K (cxOf (L2.CX P w) P w K mg base N qual (defScope st) fa cdv A outer s H E) C e (fun a σ => σ[0]? = some (some (.ref a))) te b) :
    FnP P w K mg base (k + 1) fa fd n C b := by
  obtain ⟨oc, od, kV, doc, pm, an, cdv, ct, osl, rfl, lk, hcd⟩ := Fu.ex
  refine ⟨fun A₀ outer s F O p Q hr hpin hz hf e0 d hb hq => ?_⟩
  have KX : K.In s.heap := e0.mod.kin.keeps fun b o e => (e0.bs b o e).1
  have lim : s.heap.NoLimit := e0.mod.nolimit.keeps fun b o e => (e0.bs b o e).1
  have hkind : ∀ y ∈ [n].zip [Value.ref p.1], (defScope st).names.lookup y.1 = some .local ∨ ((defScope st).names.lookup y.1 = some .cell ∧ ((cellsFrom (s.heap.objs.size + 1) (defScope st).names []).lookup y.1).isSome = true) := fun ⟨n', v⟩ hy => by
    rcases S.par n' (List.of_mem_zip hy).1 with q | q
    · exact .inl q
    · exact .inr ⟨q, PySem.W.cellsFrom_some _ _ _ (.inl q)⟩
  have hdep : (A₀.mark (some (.ref p.1))).depth < recursionLimit := hr.depth
  refine codeAny_call_function hdep (KX _ _ lk) rfl S.co S.gen rfl (PySem.W.codeRec_of KX hcd) (hb _ _ _ _ ?_)
  refine wpAny_newFunctionEnv_cells S.kind hkind fun env he' s1 x => ?_
  subst he'
  refine ⟨lim.keeps x.toInCall.keep, codeAny_func ?_⟩
  have I : Inv (L2H.cxH (L2.CX P w) P w K mg base N qual (defScope st) fa cdv (A₀.mark (some (.ref p.1))) outer s (jn F O) (fun _ _ _ => False) p) [] (L2.start N [.ref p.1]) (jn F O) s1 := L2H.inv_startH S hpin e0 rfl (.cons rfl .nil) x
  have I2 : Inv ((cxOf (L2.CX P w) P w K mg base N qual (defScope st) fa cdv A₀ outer s (jn F O) (fun _ _ _ => False)).suite p.1 ((p.1, p.2) :: [])) [] (L2.start N [.ref p.1]) (jn F O) s1 := I.wish _
  obtain ⟨te, hv⟩ := he cdv A₀ outer s (jn F O) (fun _ _ _ => False)
  have ps : PSs ((cxOf (L2.CX P w) P w K mg base N qual (defScope st) fa cdv A₀ outer s (jn F O) (fun _ _ _ => False)).suite p.1 ((p.1, p.2) :: [])) (defBody st) (tRet (te p.1)) := by
    rw [hbd]
    exact pss_one (ps_ret (hv.p p.1 p.2 [] hz hf))
  refine wpAny_mono (ps.run [] s1 (L2.start N [.ref p.1]) (jn F O) { nx := fun _ H' => Q .non H', rt := Q } I2 (hv.s p.1 _ F O d rfl Q hq)) (fun fl s' hs => ?_) fun e s' hs => False.elim hs
  have fin : ∀ {σ' : L2.St} {H' : Hp} {v : V} {u : Value}, Inv ((cxOf (L2.CX P w) P w K mg base N qual (defScope st) fa cdv A₀ outer s (jn F O) (fun _ _ _ => False)).suite p.1 ((p.1, p.2) :: [])) [] σ' H' s' → RelV v u → Q v H' → CE outer P w (jn F O) s Q u s' :=
    fun {σ' H' v u} J rv q => ⟨v, H', J.os, J.bare, J.base, J.hok, rv, q⟩
  cases fl with
  | ret u =>
    obtain ⟨v, σ', H', J, rv, q⟩ := hs
    exact fin J rv q
  | next =>
    obtain ⟨σ', H', J, q⟩ := hs
    exact fin (v := V.non) (u := Value.none) J rfl q
  | brk =>
    obtain ⟨_, _, _, q⟩ := hs
    exact False.elim q
  | cont =>
    obtain ⟨_, _, _, q⟩ := hs
    exact False.elim q
/-- the def x of the module tells b of exceptions of C -/
def CalP (P : Program) (w : World) (K : PySem.W.Frag) (mg : Str → Option Value) (base : Heap) (k : Nat) (x n : Str) (C : Addr) (b : Bool) : Prop :=
  ∃ f fd, FnP P w K mg base k f fd n C b ∧ mg x = some (.ref f) ∧ PySem.W.keepIn K (.ref f) = true ∧ Binds K fd [n] []
end
section
variable {K : PySem.W.Frag} {X : Cx} {C : Addr} {i k j : Nat} {b : Bool} {x nm n : Str} {pos p1 p2 : Pos}
theorem vCall (F : CalP X.prog X.w X.K X.mg X.base j x n C b) (hr : Room k X.A) (hi : ∀ a oe pns, PE (X.suite a ((a, oe) :: pns)) (.Name nm p1) (tVar i)) (hg : Gl X x := by rfl) (hj : j ≤ k := by decide) (hdb : (x == ("__debug__" : Str)) = false := by decide)
    (hst : ∀ env, starEach [.Name nm p1] env = (false, eval (.Name nm p1) env) :: starEach [] env := by intro _; rfl) (hpl : ∀ env, (backTo pos (starEach [] env)).any (·.1) = false := by intro _; rfl) :
    VE X.K X C (.Call (.Name x p2) [.Name nm p1] [] pos) (fun a σ => σ[i]? = some (some (.ref a)))
      (fun a σ H Q => ∃ F O, H = jn F O ∧ Dis F O ∧ σ[i]? = some (some (.ref a)) ∧ ∀ F', Dis F' O → Stp F O [] F' O [] → Q (.bl b) (jn F' O)) b := by
  obtain ⟨f, fd, hF, hm, hk, hb⟩ := F
  refine ⟨fun a oe pns hz hf => ⟨fun pins s σ H Q I h => ?_⟩, fun a σ F O d hp Q q => ⟨F, O, rfl, d, hp, q⟩, rfl⟩
  obtain ⟨F, O, rfl, d, hσ, q⟩ := h
  refine wpAny_Call_Name_kw (ld_glob (X := X.suite a ((a, oe) :: pns)) I hg hm ?_ hdb)
  have ha : PA (X.suite a ((a, oe) :: pns)) [.Name nm p1] (tCons (tVar i) tNil) := pa_cons (hi a oe pns) pa_nil (hst _)
  refine PySem.W.callWith_K (h₀ := X.base) I.ok.mod.kin hk (thn (ha.run pos pins s σ (jn F O) (fun vs H' => vs = [.ref a] ∧ H' = jn F O) I ⟨_, hσ, rfl, rfl⟩) fun us s1 ⟨vs, H1, I1, r, e1, e2⟩ => ⟨I1.kIn, ?_⟩) (hst _) (hpl _)
  subst e1 e2
  obtain ⟨u, rfl, ru⟩ := r.one
  cases (show u = Value.ref a from ru)
  have P1 := I1.pin (a, oe) (List.mem_append.mpr (.inl List.mem_cons_self))
  have hpin : L2H.PinOk X.stack (jn F O) s1 (a, oe) := ⟨P1.1, P1.2.1, fun hm => (List.mem_cons.mp (I1.stkSub a hm)).elim P1.2.2.1 P1.2.2.2.1, P1.2.2.2.2⟩
  have bd := hb s1 [.ref a] I1.kIn rfl
  rw [List.append_nil] at bd
  refine wpAny_call (codeAny_mono (hF.run X.A X.stack s1 F O (a, oe) Q (L2H.roomH_of (hr.mono hj)) hpin hz hf I1.env0 d bd q) fun r s' hq => ?_)
  cases r with
  | error e =>
    obtain ⟨_, _, _, _, _, _, _, _, _, _, _, _, z⟩ := hq
    exact False.elim z
  | ok fl =>
    cases fl with
    | ret u => exact I1.after hq
    | next => exact False.elim hq
    | brk => exact False.elim hq
    | cont => exact False.elim hq
end
/-- an expression of a whole number in an except suite -/
structure VI (K : PySem.W.Frag) (X : Cx) (C : Addr) (e : Expr) (P : Addr → L2.St → Prop) (te : Addr → TE) (z : Int) : Prop where
  p : ∀ (a : Addr) (oe : Obj) (pns : List (Addr × Obj)), Zc (.ref C) none oe → (∃ vs, oe.data = .fields vs) → PE (X.suite a ((a, oe) :: pns)) e (te a)
  s : ∀ a σ F O, Dis F O → P a σ → ∀ Q : VK, (∀ F', Dis F' O → Stp F O [] F' O [] → Q (.int z) (jn F' O)) → te a σ (jn F O) Q
  k : X.K = K := by rfl
section
variable {K : PySem.W.Frag} {X : Cx} {C : Addr} {b : Bool} {z y : Int} {P : Addr → L2.St → Prop} {te te1 te2 : Addr → TE} {e e1 e2 : Expr} {pos p1 p2 : Pos} {kx : Nat}
theorem viC : VI X.K X C (.Constant (.int z) kx p1) P (fun _ => tC (.int z)) z := ⟨fun _ _ _ _ _ => pe_int, fun a σ F O d hp Q q => q F d Stp.refl, rfl⟩
theorem viInt (h : VE X.K X C e P te b) (hg : Gl X "int") (hm : X.mg "int" = none)
    (hst : ∀ env, starEach [e] env = (false, eval e env) :: starEach [] env := by intro _; rfl) (hpl : ∀ env, (backTo pos (starEach [] env)).any (·.1) = false := by intro _; rfl) :
    VI X.K X C (.Call (.Name "int" p2) [e] [] pos) P (fun a => tCB (fun xs H Q => (∃ i, xs = [.int i] ∧ Q (.int i) H) ∨ ∃ k, xs = [.bl k] ∧ Q (.int (if k then 1 else 0)) H) (tCons (te a) tNil)) (if b then 1 else 0) :=
  ⟨fun a oe pns hz hf => pe_callTy call_int1 hg hm b_int (pa_cons (h.p a oe pns hz hf) pa_nil (hst _)) (by decide) (by decide) (hst _) (hpl _),
    fun a σ F O d hp Q q => h.s a σ F O d hp _ fun F' d' s' => .inr ⟨b, rfl, q F' d' s'⟩, rfl⟩
theorem viAdd (h1 : VI X.K X C e1 P te1 z) (h2 : VI X.K X C e2 P te2 y) : VI X.K X C (.BinOp e1 .Add e2 pos) P (fun a => tOp (rI0 fun i j => .int (i + j)) (te1 a) (te2 a)) (z + y) :=
  ⟨fun a oe pns hz hf => pe_op op_add (h1.p a oe pns hz hf) (h2.p a oe pns hz hf),
    fun a σ F O d hp Q q => h1.s a σ F O d hp _ fun F' d' s' => h2.s a σ F' O d' hp _ fun F2 d2 s2 => ⟨z, y, rfl, rfl, q F2 d2 (s'.trans s2)⟩, rfl⟩
theorem viMul (h1 : VI X.K X C e1 P te1 z) (h2 : VI X.K X C e2 P te2 y) (hc : CMul z y) : VI X.K X C (.BinOp e1 .Mult e2 pos) P (fun a => tOp (rI CMul fun i j => .int (i * j)) (te1 a) (te2 a)) (z * y) :=
  ⟨fun a oe pns hz hf => pe_op op_mul (h1.p a oe pns hz hf) (h2.p a oe pns hz hf),
    fun a σ F O d hp Q q => h1.s a σ F O d hp _ fun F' d' s' => h2.s a σ F' O d' hp _ fun F2 d2 s2 => ⟨z, y, rfl, rfl, hc, q F2 d2 (s'.trans s2)⟩, rfl⟩
end
def kTryI (a : SX) (R : Str) (i j : Nat) (z : Int) : S := fun env => match a env with
  | some (.ok o) => some o
  | some (.ex c e) => if c = R ∧ i < e.length ∧ j < e.length then some (.nx ((e.set i none).set j (some (.int z)))) else none
  | none => none
@[simp] theorem kTryI_def (a : SX) (R : Str) (i j : Nat) (z : Int) (env : Env) : kTryI a R i j z env = (a env).bind fun o => match o with
    | .ok o => some o
    | .ex c e => if c = R ∧ i < e.length ∧ j < e.length then some (.nx ((e.set i none).set j (some (.int z)))) else none := by
  unfold kTryI
  cases a env with
  | none => rfl
  | some o => cases o <;> rfl
section
variable {K : PySem.W.Frag} {X : Cx} {C : Addr} {i j : Nat} {e1 : Expr} {te1 : Addr → TE} {z : Int} {pos p1 q1 np pos' : Pos} {pn : List Nat} {n x mine R : Str} {c : Value} {body : List Stmt} {tb : WX → TS} {bx : SX}
/-- try: .. except x as n: mine = e1, and on behind it -/
theorem zTryI (hs : X.stack = X.env :: X.outer) (hf : X.env.frame = some X.env.locals) (hN : X.N.Nodup) (hi : X.N[i]? = some n) (hln : X.env.kindOf n = some .local) (hc : Names X x c) (hR : cvl X.mg R = .ref C) (hm : PySem.W.exmOne X.K (.ref C) c = some true) (ij : i ≠ j) (hip : i ∉ pn) (hjp : j ∉ pn)
    (hb : ∀ (pns : List (Addr × Obj)) (xe : Value → Shared → Prop), SYs K (X.tr pns xe) pn body tb bx)
    (g1 : ∀ a oe pns, PG (X.suite a ((a, oe) :: pns)) (.Name mine p1) (gName j))
    (v1 : VI X.K X C e1 (fun a σ => σ[i]? = some (some (.ref a))) te1 z)
    (s1 : swapsWithSole [.Name mine p1] e1 q1.line X.env = pure false := by rfl) (w1 : swappedStores [.Name mine p1] e1 X.env = pure none := by rfl) (a1 : (assignEach [.Name mine p1] X.env).map (·.2) = [assign (.Name mine p1) X.env] := by rfl) :
    SS K X pn (.Try body [.ExceptHandler (some (.Name x np)) (some n) [.Assign [.Name mine p1] e1 q1] pos'] [] [] pos)
      (fun D σ H => tb (wAs X.K c i (fun a cls d D σ H => (cls = .ref C ∧ d = none) ∧ tAsg (te1 a) (gName j) D σ H) (fun _ _ _ _ => False) D) D σ H) (kTryI bx R i j z) := by
  refine ⟨ps_try_as hs hf hN hi hln hc takes0 (fun W pns xe tk po => (hb pns xe).p W tk po) (fun a oe cls d pns hz hfl => ?_), ?_, (hb [] (fun _ _ => False)).k⟩
  · refine pss_pre fun ⟨ec, ed⟩ => ?_
    subst ec ed
    exact pss_one (ps_asg (v1.p a oe pns hz hfl) (g1 a oe pns) s1 w1 a1)
  · intro env out h σ F O f a0 D q
    refine (hb [] (fun _ _ => False)).s _ env _ (?_ : bx env = some ?o) σ F O f a0 D ?_
    case o => exact (bx env).getD (.ok (.nx env))
    · unfold kTryI at h
      cases hx : bx env with
      | none => rw [hx] at h; cases h
      | some o => rfl
    · unfold kTryI at h
      cases hx : bx env with
      | none => rw [hx] at h; cases h
      | some o =>
        rw [hx] at h
        cases o with
        | ok o =>
          cases h
          exact q
        | ex c' e =>
          simp only at h
          split at h
          · next hcc =>
            obtain ⟨rfl, hie, hje⟩ := hcc
            cases h
            intro σ' F' O' f' at1 st1 sm1
            refine ⟨true, ?_, fun _ a _ => ⟨⟨?_, rfl⟩, ?_⟩, fun z => by cases z⟩
            · show PySem.W.exmOne X.K (cvl X.mg c') c = some true
              rw [hR]; exact hm
            · show cvl X.mg c' = _
              exact hR
            · have hl := at1.e.len
              have i0 : (σ'.set i (some (V.ref a)))[i]? = some (some (.ref a)) := by rw [List.getElem?_set_self (by omega)]
              refine v1.s a _ F' O' at1.d i0 _ fun F2 d2 s2 => ?_
              show D.nx (((σ'.set i (some (V.ref a))).set j (some (V.int z))).set i none) _
              have es : (((σ'.set i (some (V.ref a))).set j (some (V.int z)))).set i none = (σ'.set i none).set j (some (V.int z)) := by
                rw [List.set_comm _ _ (fun e => ij e.symm), List.set_set]
              rw [es]
              obtain ⟨f1, r1, c1⟩ := at1.e.wipeX (i := i) (x := none)
              have r2 := r1.mono s2.f (O' := O') fun x _ o e => e
              have rl : Rl K F2 O' (.int z) (.int z) [] := .int _
              obtain ⟨f2, r3, c3⟩ := r2.set (i := j) rl
              have cc : ∀ x, f2.count x ≤ f'.count x := fun x => by
                have h1 := c1 x
                have h3 := c3 x
                rw [List.count_nil] at h3
                omega
              refine q _ F2 O' f2 ⟨d2, r3, fun x => ?_⟩ (st1.trans ⟨s2.f, fun x u hx e => e, fun x hx => ?_, fun x hx => s2.g x hx⟩) ⟨by rw [List.length_set, List.length_set]; exact sm1.l, fun k hk => ?_⟩
              · rw [List.nil_append]
                have h1 := cc x
                have h2 := at1.nd x
                rw [List.nil_append] at h2
                omega
              · have h1 := cc x
                rw [mem_count] at hx ⊢
                exact .inl (by omega)
              · rw [List.getElem?_set_ne (fun e => hjp (by rw [e]; exact hk)), List.getElem?_set_ne (fun e => hip (by rw [e]; exact hk))]
                exact sm1.s k hk
          · cases h
end
end LP
set_option maxRecDepth 100000
/-! LP: how defs that may raise reckon. -/
namespace LP
open PySem L2
@[simp] theorem lfX_def (b : S) (env : Env) : lf b env = (b env).map OutX.ok := rfl
@[simp] theorem kSeqX_def (a b : SX) (env : Env) : kSeq a b env = (a env).bind fun o => match o with
    | .ok (.nx e) => b e
    | o => some o := by
  unfold kSeq
  cases a env with
  | none => rfl
  | some o =>
    cases o with
    | ok o => cases o <;> rfl
    | ex c e => rfl
@[simp] theorem kIfX0_def (c : Et) (a b : SX) (env : Env) : kIf c a b env = (c env).bind fun p => if p.1 = true then a p.2 else b p.2 := by
  unfold kIf
  cases c env with
  | none => rfl
  | some p =>
    obtain ⟨b, e⟩ := p
    cases b <;> rfl
@[simp] theorem kRaiX_def (c : Str) (env : Env) : kRai c env = some (.ex c env) := rfl
@[simp] theorem kDropX_def (a : EvX) (env : Env) : kDrop a env = (a env).bind fun o => match o with
    | .ok _ e => some (.ok (.nx e))
    | .ex c e => some (.ex c e) := by
  unfold kDrop
  cases a env with
  | none => rfl
  | some o => cases o <;> rfl
@[simp] theorem kRetX_def (a : EvX) (env : Env) : kRet a env = (a env).bind fun o => match o with
    | .ok o e => (sto e o).bind fun t => some (.ok (.rt t e))
    | .ex c e => some (.ex c e) := by
  unfold kRet
  cases a env with
  | none => rfl
  | some o =>
    cases o with
    | ok o e => simp only [Option.bind_some]; cases sto e o <;> rfl
    | ex c e => rfl
@[simp] theorem kAsgX_def (a : EvX) (g : Tg) (env : Env) : kAsg a g env = (a env).bind fun o => match o with
    | .ok o e => (sto e o).bind fun t => (g t e).bind fun e2 => some (.ok (.nx e2))
    | .ex c e => some (.ex c e) := by
  unfold kAsg
  cases a env with
  | none => rfl
  | some o =>
    cases o with
    | ok o e =>
      simp only [Option.bind_some]
      cases sto e o with
      | none => rfl
      | some t => simp only [Option.bind_some]; cases g t e <;> rfl
    | ex c e => rfl
@[simp] theorem cCallX_def (g : GX) (m : List Bool) (a : Ea) (env : Env) : cCallX g m a env = (a env).bind fun p => (cArgs m (ers p.1) p.2).bind fun q => (g q.1).bind fun r => match r with
    | .ok r outs => some (.ok (.t r) (cBack m (ers p.1) outs q.2))
    | .ex c outs => some (.ex c (cBack m (ers p.1) outs q.2)) := by
  unfold cCallX
  cases a env with
  | none => rfl
  | some p =>
    simp only [Option.bind_some]
    cases cArgs m (ers p.1) p.2 with
    | none => rfl
    | some q =>
      simp only [Option.bind_some]
      cases g q.1 with
      | none => rfl
      | some r => cases r <;> rfl
@[simp] theorem cO2X_def (g : T → T → Option T) (a : EvX) (b : Ev) (env : Env) : cO2X g a b env = (a env).bind fun o => match o with
    | .ok o1 e1 => (b e1).bind fun p => (vw p.2 o1).bind fun x => (vw p.2 p.1).bind fun y => (g x y).bind fun t => some (.ok (.t t) p.2)
    | .ex c e => some (.ex c e) := by
  unfold cO2X
  cases a env with
  | none => rfl
  | some o =>
    cases o with
    | ok o1 e1 =>
      simp only [Option.bind_some]
      cases b e1 with
      | none => rfl
      | some p =>
        simp only [Option.bind_some]
        cases vw p.2 o1 with
        | none => rfl
        | some x =>
          simp only [Option.bind_some]
          cases vw p.2 p.1 with
          | none => rfl
          | some y => simp only [Option.bind_some]; cases g x y <;> rfl
    | ex c e => rfl
def ifB (a b : Option OutX) : T → Option OutX
  | .bl true => a
  | .bl false => b
  | _ => none
@[simp] theorem ifB_bl (a b : Option OutX) (x : Bool) : ifB a b (.bl x) = if x = true then a else b := by cases x <;> rfl
@[simp] theorem kIfX_def (c : EvX) (a b : SX) (env : Env) : kIfX c a b env = (c env).bind fun o => match o with
    | .ok o e => (vw e o).bind fun t => ifB (a e) (b e) t
    | .ex c e => some (.ex c e) := by
  unfold kIfX
  cases c env with
  | none => rfl
  | some o =>
    cases o with
    | ok o e =>
      simp only [Option.bind_some]
      cases vw e o with
      | none => rfl
      | some t =>
        cases t with
        | bl x => cases x <;> rfl
        | _ => rfl
    | ex c e => rfl
@[simp] theorem cLcX_def (n : Nat) (vs : List Nat) (it : It) (g : Tg) (a : EvX) (env : Env) : cLcX n vs it g a env = (it env).bind fun p => if p.2.length ≤ n then (lcLoopX vs g a p.1 [] (wipeE p.2 vs)).bind fun q => lcEndX p.2 vs q else none := by
  unfold cLcX
  cases it env with
  | none => rfl
  | some p =>
    obtain ⟨items, e⟩ := p
    simp only [Option.bind_some]
    split
    · cases lcLoopX vs g a items [] (wipeE e vs) <;> rfl
    · rfl
@[simp] theorem kForX_def (it : It) (g : Tg) (b : SX) (env : Env) : kFor it g b env = (it env).bind fun p => loopX g b p.1 p.2 := by
  unfold kFor
  cases it env with
  | none => rfl
  | some p => rfl
def outsX (m : List Bool) (ts : List T) : OutX → Option ResX
  | .ok (.rt t e) => (outsOf m ts e).map fun us => .ok t us
  | .ok (.nx e) => (outsOf m ts e).map fun us => .ok .non us
  | .ex c e => (outsOf m ts e).map fun us => .ex c us
  | _ => none
@[simp] theorem outsX_rt (m : List Bool) (ts : List T) (t : T) (e : Env) : outsX m ts (.ok (.rt t e)) = (outsOf m ts e).map fun us => .ok t us := rfl
@[simp] theorem outsX_nx (m : List Bool) (ts : List T) (e : Env) : outsX m ts (.ok (.nx e)) = (outsOf m ts e).map fun us => .ok .non us := rfl
@[simp] theorem outsX_ex (m : List Bool) (ts : List T) (c : Str) (e : Env) : outsX m ts (.ex c e) = (outsOf m ts e).map fun us => .ex c us := rfl
@[simp] theorem runX_def (m : List Bool) (n : Nat) (b : SX) (ts : List T) : runX m n b ts = (b (ts.map some ++ List.replicate (n - ts.length) none)).bind (outsX m ts) := by
  unfold runX
  cases b (ts.map some ++ List.replicate (n - ts.length) none) with
  | none => rfl
  | some o =>
    cases o with
    | ok o =>
      cases o with
      | rt t e => simp only [Option.bind_some, outsX]; cases outsOf m ts e <;> rfl
      | nx e => simp only [Option.bind_some, outsX]; cases outsOf m ts e <;> rfl
      | bk e => rfl
      | ct e => rfl
    | ex c e => simp only [Option.bind_some, outsX]; cases outsOf m ts e <;> rfl
theorem lcLoopX_nil (vs : List Nat) (g : Tg) (a : EvX) (acc : List T) (env : Env) : lcLoopX vs g a [] acc env = some (.inl (acc, env)) := rfl
theorem lcLoopX_ok {vs : List Nat} {g : Tg} {a : EvX} {x t : T} {r acc : List T} {env e1 e3 : Env} {o : Opd} (h1 : g x (wipeE env vs) = some e1) (h2 : a e1 = some (.ok o e3)) (h3 : sto e3 o = some t) (hz : acc.length < sizeLine) :
    lcLoopX vs g a (x :: r) acc env = lcLoopX vs g a r (acc ++ [t]) (wipeE e3 vs) := by
  rw [lcLoopX, h1]
  simp only [h2, h3, hz, if_true]
theorem lcLoopX_ex {vs : List Nat} {g : Tg} {a : EvX} {x : T} {r acc : List T} {env e1 e3 : Env} {c : Str} (h1 : g x (wipeE env vs) = some e1) (h2 : a e1 = some (.ex c e3)) :
    lcLoopX vs g a (x :: r) acc env = some (.inr (c, wipeE e3 vs)) := by
  rw [lcLoopX, h1]
  simp only [h2]
@[simp] theorem cPopI_def (i m : Nat) (env : Env) : cPopI i m env = (ownL env i).bind fun xs => (intAt env m).bind fun n => (ixN xs.length n).bind fun k => (xs[k]?).bind fun t => if t.fz = true ∧ inR n = true then some (.t t, env.set i (some (.lst true (xs.eraseIdx k)))) else none := by
  unfold cPopI
  split
  · next xs n h hm =>
    rw [at_ownL h, hm]
    simp only [Option.bind_some]
    cases ixN xs.length n with
    | none => rfl
    | some k => simp only [Option.bind_some]; cases xs[k]? <;> rfl
  · next h =>
    cases hq : ownL env i with
    | none => rfl
    | some xs =>
      cases hm : intAt env m with
      | none => rfl
      | some n =>
        exfalso
        refine h xs n ?_ hm
        rcases he : env[i]? with _ | _ | t
        · unfold ownL atE at hq; rw [he] at hq; cases hq
        · unfold ownL atE at hq; rw [he] at hq; cases hq
        · unfold ownL atE at hq
          rw [he] at hq
          cases t with
          | lst o ys => cases o <;> simp only at hq <;> first | cases hq; rfl | cases hq
          | _ => simp only at hq; cases hq
def intV : T → Option Int
  | .int n => some n
  | _ => none
@[simp] theorem intV_int (n : Int) : intV (.int n) = some n := rfl
@[simp] theorem cIns_def (i : Nat) (k a : Ev) (env : Env) : cIns i k a env = (ownL env i).bind fun _ => (k env).bind fun p => (vw p.2 p.1).bind fun x => (intV x).bind fun n => (a p.2).bind fun q => (ownL q.2 i).bind fun xs => (sto q.2 q.1).bind fun t => if xs.length < sizeLine ∧ 0 ≤ n ∧ inR n = true then some (.t .non, q.2.set i (some (.lst true (xs.take n.toNat ++ [t] ++ xs.drop n.toNat)))) else none := by
  unfold cIns
  split
  · next xs h =>
    rw [at_ownL h]
    simp only [Option.bind_some]
    cases k env with
    | none => rfl
    | some p =>
      simp only [Option.bind_some]
      cases hx : vw p.2 p.1 with
      | none => rfl
      | some x =>
        cases x with
        | int n =>
          simp only [Option.bind_some, intV_int]
          cases a p.2 with
          | none => rfl
          | some q =>
            simp only [Option.bind_some]
            split
            · next ys h2 =>
              rw [at_ownL h2]
              simp only [Option.bind_some]
              cases sto q.2 q.1 <;> rfl
            · next h2 => rw [at_nownL h2]; rfl
        | _ => rfl
  · next h => rw [at_nownL h]; rfl
end LP
namespace Bleafpress_k55_drawings_refused
open PySem L2 LP


/- _law_stream: 0 _law_script, 1 _law_k -/
noncomputable def b__law_stream : S :=
  (cSeq (cIfS (cTest (cO2 ltT (cV 1) (cON lenT (aCons (cV 0) aNil)))) (cRet (cLst (aCons (cO2 ixT (cV 0) (cV 1)) (aCons (cO2 addT (cO2 addT (cO2 modT (cO2 ixT (cV 0) (cV 1)) (cK (.int 2147483629))) (cO2 mulT (cV 1) (cV 1))) (cK (.int 1))) aNil)))) cSkip)
  (cRet (cLst (aCons (cO2 addT (cO2 mulT (cO2 mulT (cV 1) (cV 1)) (cK (.int 7919))) (cK (.int 5))) (aCons (cO2 addT (cV 1) (cK (.int 7))) aNil)))))
noncomputable def f__law_stream : Fn := runB [false, false] 2 b__law_stream

/- _law_take: 0 _law_stream_here, 1 _law_most, 2 _law_digit -/
noncomputable def b__law_take : S :=
  (cSeq (cIfS (cOr (cTest (cO2 eqT (cO2 ixT (cV 0) (cK (.int 0))) (cK (.int 0)))) (cTest (cO2 eqT (cO2 ixT (cV 0) (cK (.int 0))) (cO1 negT (cK (.int 1)))))) (cSeq (cAsg (cO2 modT (cO2 addT (cO2 mulT (cO2 ixT (cV 0) (cK (.int 1))) (cK (.int 48271))) (cK (.int 12345))) (cK (.int 2147483647))) (gIx 0 (cK (.int 1))))
  (cRet (cO2 modT (cO2 modT (cO2 mulT (cO2 ixT (cV 0) (cK (.int 1))) (cO2 ixT (cV 0) (cK (.int 1)))) (cK (.int 2147483629))) (cV 1)))) cSkip)
  (cSeq (cAsg (cO2 modT (cO2 ixT (cV 0) (cK (.int 0))) (cV 1)) (gN 2))
  (cSeq (cAsg (cO2 divT (cO2 ixT (cV 0) (cK (.int 0))) (cV 1)) (gIx 0 (cK (.int 0))))
  (cRet (cV 2)))))
noncomputable def f__law_take : Fn := runB [true, false] 3 b__law_take

/- _law_rows: 0 _law_stream_here, 1 _law_rows_here, 2 _law_leaf, 3 _law_k, 4 _law_numbers, 5 _law_j -/
noncomputable def b__law_rows : S :=
  (cSeq (cAsg (cLst aNil) (gN 1))
  (cSeq (cFor (iR1 (aCons (cO2 addT (cK (.int 1)) (cCall f__law_take [true, false] (aCons (cV 0) (aCons (cK (.int 2)) aNil)))) aNil)) (gN 2) (cSeq (cDrop (cApp 1 (cO2 addT (cK (.str "leaf ")) (cON strT (aCons (cV 2) aNil)))))
  (cSeq (cFor (iR1 (aCons (cCall f__law_take [true, false] (aCons (cV 0) (aCons (cK (.int 4)) aNil))) aNil)) (gN 3) (cDrop (cApp 1 (cO2 addT (cK (.str "box ")) (cJoin " " (cLc 6 [5] (iR1 (aCons (cK (.int 5)) aNil)) (gN 5) cYes (cON strT (aCons (cO2 subT (cCall f__law_take [true, false] (aCons (cV 0) (aCons (cK (.int 30)) aNil))) (cK (.int 9))) aNil))))))))
  (cFor (iR1 (aCons (cCall f__law_take [true, false] (aCons (cV 0) (aCons (cK (.int 4)) aNil))) aNil)) (gN 3) (cSeq (cAsg (cFr (cLc 6 [5] (iR1 (aCons (cK (.int 5)) aNil)) (gN 5) cYes (cON strT (aCons (cO2 subT (cCall f__law_take [true, false] (aCons (cV 0) (aCons (cK (.int 30)) aNil))) (cK (.int 9))) aNil)))) (gN 4))
  (cDrop (cApp 1 (cO2 addT (cO2 addT (cO2 addT (cK (.str "word ")) (cJoin " " (cV 4))) (cK (.str " "))) (cO2 ixT (cLst (aCons (cK (.str "a")) (aCons (cK (.str "b.")) (aCons (cK (.str "7")) (aCons (cK (.str "-3")) (aCons (cK (.str "it's")) aNil)))))) (cCall f__law_take [true, false] (aCons (cV 0) (aCons (cK (.int 5)) aNil))))))))))))
  (cRet (cMv 1))))
noncomputable def f__law_rows : Fn := runB [true] 6 b__law_rows

/- _law_bent: 0 _law_row, 1 _law_stream_here, 2 _law_way, 3 _law_at, 4 _law_sign, 5 _law_words, 6 _law_one, 7 _law_other, 8 _law_odd -/
noncomputable def b__law_bent : S :=
  (cSeq (cAsg (cFr (cCall f__law_take [true, false] (aCons (cV 1) (aCons (cK (.int 8)) aNil)))) (gN 2))
  (cSeq (cAsg (cFr (cCall f__law_take [true, false] (aCons (cV 1) (aCons (cO2 addT (cON lenT (aCons (cV 0) aNil)) (cK (.int 1))) aNil)))) (gN 3))
  (cSeq (cAsg (cFr (cO2 ixT (cK (.str "07- _ax+.\t\n|*{~")) (cCall f__law_take [true, false] (aCons (cV 1) (aCons (cK (.int 15)) aNil))))) (gN 4))
  (cSeq (cIfS (cTest (cO2 eqT (cV 2) (cK (.int 0)))) (cRet (cO2 addT (cO2 addT (cSl (cV 0) p0 (p1 (cV 3))) (cV 4)) (cSl (cV 0) (p1 (cV 3)) p0))) cSkip)
  (cSeq (cIfS (cTest (cO2 eqT (cV 2) (cK (.int 1)))) (cRet (cO2 addT (cSl (cV 0) p0 (p1 (cV 3))) (cSl (cV 0) (p1 (cO2 addT (cV 3) (cK (.int 1)))) p0))) cSkip)
  (cSeq (cIfS (cTest (cO2 eqT (cV 2) (cK (.int 2)))) (cRet (cO2 addT (cO2 addT (cSl (cV 0) p0 (p1 (cV 3))) (cV 4)) (cSl (cV 0) (p1 (cO2 addT (cV 3) (cK (.int 1)))) p0))) cSkip)
  (cSeq (cAsg (cSplit " " (cV 0)) (gN 5))
  (cSeq (cAsg (cFr (cCall f__law_take [true, false] (aCons (cV 1) (aCons (cON lenT (aCons (cV 5) aNil)) aNil)))) (gN 6))
  (cSeq (cAsg (cFr (cCall f__law_take [true, false] (aCons (cV 1) (aCons (cON lenT (aCons (cV 5) aNil)) aNil)))) (gN 7))
  (cSeq (cAsg (cFr (cLst (aCons (cK (.str "")) (aCons (cK (.str "-0")) (aCons (cK (.str "00")) (aCons (cK (.str "07")) (aCons (cK (.str "+1")) (aCons (cK (.str "-")) (aCons (cK (.str "1.0")) (aCons (cK (.str "1_0")) (aCons (cK (.str "999999999")) (aCons (cK (.str "1000000000")) (aCons (cK (.str "-999999999")) (aCons (cK (.str "-1000000000")) aNil)))))))))))))) (gN 8))
  (cSeq (cAsg (cO2 addT (cV 8) (cLst (aCons (cK (.str "leaf")) (aCons (cK (.str "box")) (aCons (cK (.str "word")) (aCons (cO2 repST (cK (.str "x")) (cK (.int 20))) (aCons (cO2 repST (cK (.str "x")) (cK (.int 21))) (aCons (cK (.str "a*b")) (aCons (cK (.str "1")) (aCons (cK (.str "-05")) aNil)))))))))) (gN 8))
  (cSeq (cIfS (cTest (cO2 eqT (cV 2) (cK (.int 3)))) (cAsg (cTup (aCons (cO2 ixT (cV 5) (cV 7)) (aCons (cO2 ixT (cV 5) (cV 6)) aNil))) (gUn 2 (gNc (gIx 5 (cV 6)) (gNc (gIx 5 (cV 7)) gN0)))) cSkip)
  (cSeq (cIfS (cTest (cO2 eqT (cV 2) (cK (.int 4)))) (cPopV 5 (fun _ => some []) 6) cSkip)
  (cSeq (cIfS (cTest (cO2 eqT (cV 2) (cK (.int 5)))) (cDrop (cIns 5 (cV 6) (cO2 ixT (cV 5) (cV 7)))) cSkip)
  (cSeq (cIfS (cTest (cO2 gtT (cV 2) (cK (.int 5)))) (cAsg (cO2 ixT (cV 8) (cCall f__law_take [true, false] (aCons (cV 1) (aCons (cK (.int 20)) aNil)))) (gIx 5 (cV 6))) cSkip)
  (cRet (cJoin " " (cV 5))))))))))))))))))
noncomputable def f__law_bent : Fn := runB [false, true] 9 b__law_bent

/- _law_spoiled: 0 _law_rows_here, 1 _law_stream_here, 2 _law_way, 3 _law_at, 4 _law_found -/
noncomputable def b__law_spoiled : S :=
  (cSeq (cAsg (cFr (cCall f__law_take [true, false] (aCons (cV 1) (aCons (cK (.int 8)) aNil)))) (gN 2))
  (cSeq (cAsg (cFr (cCall f__law_take [true, false] (aCons (cV 1) (aCons (cON max2T (aCons (cK (.int 1)) (aCons (cON lenT (aCons (cV 0) aNil)) aNil))) aNil)))) (gN 3))
  (cSeq (cAsg (cON listT (aCons (cV 0) aNil)) (gN 4))
  (cSeq (cIfS (cTest (cO2 eqT (cV 0) (cLst aNil))) (cRet (cSl (cLst (aCons (cK (.str "")) (aCons (cK (.str "leaf")) (aCons (cK (.str "leaf 1")) (aCons (cK (.str "box 0 0 0 0 0")) aNil))))) (p1 (cO2 modT (cV 2) (cK (.int 4)))) (p1 (cO2 addT (cO2 modT (cV 2) (cK (.int 4))) (cK (.int 1)))))) cSkip)
  (cSeq (cIfS (cTest (cO2 eqT (cV 2) (cK (.int 1)))) (cPopV 4 (fun _ => some []) 3) (cIfS (cTest (cO2 eqT (cV 2) (cK (.int 2)))) (cDrop (cIns 4 (cV 3) (cO2 ixT (cV 0) (cV 3)))) (cIfS (cTest (cO2 eqT (cV 2) (cK (.int 3)))) (cDrop (cIns 4 (cCall f__law_take [true, false] (aCons (cV 1) (aCons (cON lenT (aCons (cV 0) aNil)) aNil))) (cPopI 4 3))) (cIfS (cTest (cO2 gtT (cV 2) (cK (.int 3)))) (cAsg (cCall f__law_bent [false, true] (aCons (cO2 ixT (cV 0) (cV 3)) (aCons (cV 1) aNil))) (gIx 4 (cV 3))) cSkip))))
  (cRet (cMv 4)))))))
noncomputable def f__law_spoiled : Fn := runB [false, true] 5 b__law_spoiled

/- _law_number: 0 _law_word, 1 _law_figures, 2 _law_sign -/
noncomputable def b__law_number : S :=
  (cSeq (cAsg (cFr (cSl (cV 0) (p1 (cON intT (aCons (cO2 eqT (cSl (cV 0) p0 (p1 (cK (.int 1)))) (cK (.str "-"))) aNil))) p0)) (gN 1))
  (cSeq (cIfS (cOr (cTest (cO2 eqT (cV 1) (cK (.str "")))) (cTest (cO2 gtT (cON lenT (aCons (cV 1) aNil)) (cK (.int 9))))) (cRet (cK .non)) cSkip)
  (cSeq (cIfS (cTest (cO2 neT (cON lenT (aCons (cLc 3 [2] (iSt (cV 1)) (gN 2) (cTest (cO2 (inST false) (cV 2) (cK (.str "0123456789")))) (cV 2)) aNil)) (cON lenT (aCons (cV 1) aNil)))) (cRet (cK .non)) cSkip)
  (cSeq (cIfS (cAnd (cTest (cO2 eqT (cO2 ixT (cV 1) (cK (.int 0))) (cK (.str "0")))) (cTest (cO2 neT (cV 0) (cK (.str "0"))))) (cRet (cK .non)) cSkip)
  (cRet (cON intST (aCons (cV 0) aNil)))))))
noncomputable def f__law_number : Fn := runB [false] 3 b__law_number

/- _law_is_word: 0 _law_word, 1 _law_signs, 2 _law_sign -/
noncomputable def b__law_is_word : S :=
  (cSeq (cAsg (cK (.str "abcdefghijklmnopqrstuvwxyzABCDEFGHIJKLMNOPQRSTUVWXYZ0123456789.,-;:'()!?")) (gN 1))
  (cRet (cAndV (cChn leT leT (cK (.int 1)) (cON lenT (aCons (cV 0) aNil)) (cK (.int 20))) (cO2 eqT (cON lenT (aCons (cLc 3 [2] (iSt (cV 0)) (gN 2) (cTest (cO2 (inST false) (cV 2) (cV 1))) (cV 2)) aNil)) (cON lenT (aCons (cV 0) aNil))))))
noncomputable def f__law_is_word : Fn := runB [false] 3 b__law_is_word

/- _law_due: 0 _law_rows_here, 1 _law_leaf, 2 _law_words, 3 _law_boxes, 4 _law_row, 5 _law_parts, 6 _law_numbers, 7 _law_many, 8 _law_last, 9 _law_x, 10 _law_y, 11 _law_face, 12 _law_node, 13 _law_piece, 14 _law_part -/
noncomputable def b__law_due : S :=
  (cSeq (cAsg (cFr (cO1 negT (cK (.int 1)))) (gN 1))
  (cSeq (cAsg (cLst aNil) (gN 2))
  (cSeq (cAsg (cLst aNil) (gN 3))
  (cSeq (cFor (iLs (cV 0)) (gN 4) (cSeq (cAsg (cFr (cSplit " " (cV 4))) (gN 5))
  (cSeq (cAsg (cFr (cLc 15 [14] (iLs (cSl (cV 5) (p1 (cK (.int 1))) (p1 (cK (.int 6))))) (gN 14) cYes (cCall f__law_number [false] (aCons (cV 14) aNil)))) (gN 6))
  (cSeq (cAsg (cFr (cON lenT (aCons (cV 5) aNil))) (gN 7))
  (cSeq (cAsg (cAndV (cO2 neT (cV 2) (cLst aNil)) (cO2 eqT (cO2 ixT (cO2 ixT (cV 2) (cO1 negT (cK (.int 1)))) (cK (.int 0))) (cV 1))) (gN 8))
  (cIfS (cAnd (cTest (cO2 eqT (cO2 ixT (cV 5) (cK (.int 0))) (cK (.str "leaf")))) (cAnd (cTest (cO2 eqT (cV 7) (cK (.int 2)))) (cTest (cO2 eqT (cV 6) (cLst (aCons (cO2 addT (cV 1) (cK (.int 1))) aNil)))))) (cAsg (cO2 addT (cV 1) (cK (.int 1))) (gN 1)) (cIfS (cOr (cTest (cO2 ltT (cV 1) (cK (.int 0)))) (cOr (cTest (cO2 (inFT false) (cK .non) (cV 6))) (cTest (cO2 neT (cON lenT (aCons (cV 6) aNil)) (cK (.int 5)))))) (cRet (cK .non)) (cIfS (cAnd (cTest (cO2 eqT (cO2 ixT (cV 5) (cK (.int 0))) (cK (.str "box")))) (cAnd (cTest (cO2 eqT (cV 7) (cK (.int 6)))) (cNot (cTest (cV 8))))) (cDrop (cApp 3 (cON tupleT (aCons (cO2 addT (cLst (aCons (cV 1) aNil)) (cV 6)) aNil)))) (cIfS (cAnd (cTest (cO2 eqT (cO2 ixT (cV 5) (cK (.int 0))) (cK (.str "word")))) (cAnd (cTest (cO2 eqT (cV 7) (cK (.int 7)))) (cTest (cCall f__law_is_word [false] (aCons (cO2 ixT (cV 5) (cK (.int 6))) aNil))))) (cSeq (cAsg (cV 6) (gUn 5 (gNc (gN 9) (gNc (gN 10) (gNc (gN 11) (gNc (gN 12) (gNc (gN 13) gN0)))))))
  (cDrop (cApp 2 (cTup (aCons (cV 1) (aCons (cV 9) (aCons (cV 10) (aCons (cV 12) (aCons (cV 13) (aCons (cO2 ixT (cV 5) (cK (.int 6))) (aCons (cV 11) aNil))))))))))) (cRet (cK .non)))))))))))
  (cRet (cTup (aCons (cO2 addT (cV 1) (cK (.int 1))) (aCons (cMv 2) (aCons (cMv 3) aNil)))))))))
noncomputable def f__law_due : Fn := runB [false] 15 b__law_due

/- made_of: 0 text, 1 signs, 2 sign -/
noncomputable def b_made_of : S :=
  (cSeq (cFor (iSt (cV 0)) (gN 2) (cIfS (cTest (cO2 (inST true) (cV 2) (cV 1))) (cRet (cK (.bl false))) cSkip))
  (cRet (cK (.bl true))))
noncomputable def f_made_of : Fn := runB [false, false] 3 b_made_of

/- number_told: 0 word, 1 figures -/
noncomputable def b_number_told : SX :=
  (kSeq (lf (cAsg (cV 0) (gN 1)))
  (kSeq (lf (cIfS (cTest (cO2 eqT (cSl (cV 0) p0 (p1 (cK (.int 1)))) (cK (.str "-")))) (cAsg (cFr (cSl (cV 0) (p1 (cK (.int 1))) p0)) (gN 1)) cSkip))
  (kSeq (kIf (cOr (cTest (cO2 eqT (cV 1) (cK (.str "")))) (cOr (cTest (cO2 gtT (cON lenT (aCons (cV 1) aNil)) (cK (.int 9)))) (cNot (cTest (cCall f_made_of [false, false] (aCons (cV 1) (aCons (cK (.str "0123456789")) aNil))))))) (kRai "NoDrawing") (lf cSkip))
  (kSeq (kIf (cAnd (cTest (cO2 eqT (cO2 ixT (cV 1) (cK (.int 0))) (cK (.str "0")))) (cTest (cO2 neT (cV 0) (cK (.str "0"))))) (kRai "NoDrawing") (lf cSkip))
  (lf (cRet (cON intST (aCons (cV 0) aNil))))))))
noncomputable def f_number_told : GX := runX [false] 2 b_number_told

/- numbers_told: 0 words, 1 many, 2 word -/
noncomputable def b_numbers_told : SX :=
  (kSeq (kIf (cTest (cO2 neT (cON lenT (aCons (cV 0) aNil)) (cV 1))) (kRai "NoDrawing") (lf cSkip))
  (kRet (cLcX 3 [2] (iLs (cV 0)) (gN 2) (cCallX f_number_told [false] (aCons (cV 2) aNil)))))
noncomputable def f_numbers_told : GX := runX [false, false] 3 b_numbers_told

/- read_leaf: 0 words, 1 many -/
noncomputable def b_read_leaf : SX :=
  (kIfX (cO2X neT (cCallX f_numbers_told [false, false] (aCons (cSl (cV 0) (p1 (cK (.int 1))) p0) (aCons (cK (.int 1)) aNil))) (cLst (aCons (cV 1) aNil))) (kRai "NoDrawing") (lf cSkip))
noncomputable def f_read_leaf : GX := runX [false, false] 2 b_read_leaf

/- is_word: 0 text -/
noncomputable def b_is_word : S :=
  (cRet (cAndV (cO2 leT (cK (.int 1)) (cON lenT (aCons (cV 0) aNil))) (cAndV (cO2 leT (cON lenT (aCons (cV 0) aNil)) (cK (.int 20))) (cCall f_made_of [false, false] (aCons (cV 0) (aCons (cK (.str "abcdefghijklmnopqrstuvwxyzABCDEFGHIJKLMNOPQRSTUVWXYZ0123456789.,-;:'()!?")) aNil))))))
noncomputable def f_is_word : Fn := runB [false] 1 b_is_word

/- read_drawing: 0 rows, 1 many, 2 words, 3 boxes, 4 boxed, 5 row, 6 signs, 7 left, 8 top, 9 wide, 10 high, 11 node, 12 x, 13 y, 14 face, 15 piece -/
noncomputable def b_read_drawing : SX :=
  (kSeq (lf (cAsg (cK (.int 0)) (gN 1)))
  (kSeq (lf (cAsg (cLst aNil) (gN 2)))
  (kSeq (lf (cAsg (cLst aNil) (gN 3)))
  (kSeq (lf (cAsg (cK (.bl false)) (gN 4)))
  (kSeq (kFor (iLs (cV 0)) (gN 5) (kSeq (lf (cAsg (cFr (cSplit " " (cV 5))) (gN 6)))
  (kIf (cTest (cO2 eqT (cO2 ixT (cV 6) (cK (.int 0))) (cK (.str "leaf")))) (kSeq (kDrop (cCallX f_read_leaf [false, false] (aCons (cV 6) (aCons (cV 1) aNil))))
  (kSeq (lf (cAug 1 addI (cK (.int 1))))
  (lf (cAsg (cK (.bl true)) (gN 4))))) (kIf (cAnd (cTest (cO2 eqT (cO2 ixT (cV 6) (cK (.int 0))) (cK (.str "box")))) (cTest (cV 4))) (kSeq (kAsg (cCallX f_numbers_told [false, false] (aCons (cSl (cV 6) (p1 (cK (.int 1))) p0) (aCons (cK (.int 5)) aNil))) (gUn 5 (gNc (gN 7) (gNc (gN 8) (gNc (gN 9) (gNc (gN 10) (gNc (gN 11) gN0)))))))
  (lf (cDrop (cApp 3 (cTup (aCons (cO2 subT (cV 1) (cK (.int 1))) (aCons (cV 7) (aCons (cV 8) (aCons (cV 9) (aCons (cV 10) (aCons (cV 11) aNil))))))))))) (kIf (cAnd (cTest (cO2 eqT (cO2 ixT (cV 6) (cK (.int 0))) (cK (.str "word")))) (cAnd (cTest (cO2 gtT (cV 1) (cK (.int 0)))) (cTest (cCall f_is_word [false] (aCons (cO2 ixT (cV 6) (cO1 negT (cK (.int 1)))) aNil))))) (kSeq (kAsg (cCallX f_numbers_told [false, false] (aCons (cSl (cV 6) (p1 (cK (.int 1))) (p1 (cO1 negT (cK (.int 1))))) (aCons (cK (.int 5)) aNil))) (gUn 5 (gNc (gN 12) (gNc (gN 13) (gNc (gN 14) (gNc (gN 11) (gNc (gN 15) gN0)))))))
  (kSeq (lf (cDrop (cApp 2 (cTup (aCons (cO2 subT (cV 1) (cK (.int 1))) (aCons (cV 12) (aCons (cV 13) (aCons (cV 11) (aCons (cV 15) (aCons (cO2 ixT (cV 6) (cO1 negT (cK (.int 1)))) (aCons (cV 14) aNil)))))))))))
  (lf (cAsg (cK (.bl false)) (gN 4))))) (kRai "NoDrawing"))))))
  (lf (cRet (cTup (aCons (cV 1) (aCons (cMv 2) (aCons (cMv 3) aNil)))))))))))
noncomputable def f_read_drawing : GX := runX [false] 16 b_read_drawing

/- _law_refused: 0 _law_rows_here, 1 _law_seen, 2 _law_error -/
noncomputable def b__law_refused : S :=
  (cSeq (cAsg (cK (.int 0)) (gN 1))
  (cSeq (kTryI (kDrop (cCallX f_read_drawing [false] (aCons (cV 0) aNil))) "NoDrawing" 2 1 2)
  (cSeq (cIfS (cTest (cO2 neT (cV 1) (cK (.int 2)))) (cRet (cK (.bl false))) cSkip)
  (cSeq (kTryI (kDrop (cCallX f_read_drawing [false] (aCons (cV 0) aNil))) "NoDrawing" 2 1 3)
  (cRet (cO2 eqT (cV 1) (cK (.int 3))))))))
noncomputable def f__law_refused : Fn := runB [false] 3 b__law_refused

/- _law_asked: 0 _law_rows_here, 1 _law_handed, 2 _law_due_here -/
noncomputable def b__law_asked : S :=
  (cSeq (cAsg (cFr (cON listT (aCons (cV 0) aNil))) (gN 1))
  (cSeq (cAsg (cFr (cCall f__law_due [false] (aCons (cV 0) aNil))) (gN 2))
  (cSeq (cIfS (cTest (cO2 isT (cV 2) (cK .non))) (cRet (cAndV (cCall f__law_refused [false] (aCons (cV 1) aNil)) (cO2 eqT (cV 1) (cV 0)))) cSkip)
  (cRet (cAndV (cO2 eqT (cCall (gPart f_read_drawing []) [false] (aCons (cV 1) aNil)) (cV 2)) (cO2 eqT (cV 1) (cV 0)))))))
noncomputable def f__law_asked : Fn := runB [false] 3 b__law_asked

/- law: 0 _law_script, 1 _law_stream_here, 2 _law_rows_here, 3 _law_spoiled_here, 4 _law_turn -/
noncomputable def b_law : S :=
  (cSeq (cAsg (cCall f__law_stream [false, false] (aCons (cV 0) (aCons (cK (.int 0)) aNil))) (gN 1))
  (cSeq (cAsg (cFr (cCall f__law_rows [true] (aCons (cV 1) aNil))) (gN 2))
  (cSeq (cAsg (cV 2) (gN 3))
  (cSeq (cFor (iR1 (aCons (cK (.int 2)) aNil)) (gN 4) (cSeq (cAsg (cFr (cCall f__law_spoiled [false, true] (aCons (cV 3) (aCons (cV 1) aNil)))) (gN 3))
  (cIfS (cNot (cTest (cCall f__law_asked [false] (aCons (cV 3) aNil)))) (cRet (cK (.bl false))) cSkip)))
  (cRet (cAndV (cCall f__law_asked [false] (aCons (cV 2) aNil)) (cCall f__law_asked [false] (aCons (cLst aNil) aNil))))))))
noncomputable def f_law : Fn := runB [false] 5 b_law

end Bleafpress_k55_drawings_refused
set_option maxRecDepth 100000
namespace Bleafpress_k55_drawings_refused
open PySem L2 LP
theorem take_ok (a b m : Int) (h0 : 0 < m) (h1 : m < 1073741824) : ∃ d a' b', f__law_take [.lst true [.int a, .int b], .int m] = some (.int d, [.lst true [.int a', .int b'], .int m]) ∧ 0 ≤ d ∧ d < m := by
  have k1 : okMul b 48271 = true := okMul_r (by decide) (by decide)
  have k2 : ∀ x : Int, okMul (x % 2147483647) (x % 2147483647) = true := fun x => okMul_l (by omega) (by omega)
  by_cases ha : a = 0 ∨ a = -1
  · refine ⟨_, a, (b * 48271 + 12345) % 2147483647, ?_, Int.emod_nonneg _ (by omega), Int.emod_lt_of_pos (((b * 48271 + 12345) % 2147483647) * ((b * 48271 + 12345) % 2147483647) % 2147483629) h0⟩
    rcases ha with rfl | rfl <;> simp [f__law_take, b__law_take, k1, k2, h0]
  · refine ⟨a % m, a / m, b, ?_, Int.emod_nonneg _ (by omega), Int.emod_lt_of_pos _ h0⟩
    have e1 : ¬ a = 0 := fun z => ha (.inl z)
    have e2 : ¬ a = -1 := fun z => ha (.inr z)
    simp [f__law_take, b__law_take, h0, h1, e1, e2]
theorem stream_ok (ns : List Int) (hn : ns.length ≤ 63) (k : Int) (h0 : 0 ≤ k) (h1 : k ≤ 1000000) : ∃ a b, f__law_stream [.scr ns, .int k] = some (.lst true [.int a, .int b], [.scr ns, .int k]) := by
  have k1 : okMul k k = true := okMul_l (by omega) (by omega)
  have k2 : okMul (k * k) 7919 = true := okMul_r (by decide) (by decide)
  by_cases h : k < ns.length
  · have e : atI ns k = some (ns[k.toNat]'(by omega)) := atI_of h0 (List.getElem?_eq_getElem (by omega))
    exact ⟨ns[k.toNat]'(by omega), (ns[k.toNat]'(by omega)) % 2147483629 + k * k + 1, by simp [f__law_stream, b__law_stream, k1, h, e, sz]⟩
  · exact ⟨k * k * 7919 + 5, k + 7, by simp [f__law_stream, b__law_stream, k1, k2, h, sz]⟩
theorem okS {s : Str} (h : s.length ≤ 1000) : okStr s = true := decide_eq_true (sz (by omega))
theorem eqT_strs (x y : Str) : eqT (.str x) (.str y) = some (.bl (decide (x = y))) := by
  by_cases h : x = y <;> simp [eqT, T.py, PyData.eqv, h]
theorem neT_strs (x y : Str) : neT (.str x) (.str y) = some (.bl (!decide (x = y))) := by
  by_cases h : x = y <;> simp [neT, T.py, PyData.eqv, h]
theorem eqT_nil (o p : Bool) (xs : List T) (h : dleL 15 xs = true) : eqT (.lst o xs) (.lst p []) = some (.bl xs.isEmpty) := by
  have hd : (T.lst o xs).dle 16 = true := by simp [h]
  have hd2 : (T.lst p []).dle 16 = true := by simp
  unfold eqT
  rw [hd, hd2]
  cases xs <;> simp [T.py, pyL, PyData.eqv, PyData.eqvAll]
theorem neT_nil (o p : Bool) (xs : List T) (h : dleL 15 xs = true) : neT (.lst o xs) (.lst p []) = some (.bl (!xs.isEmpty)) := by
  have hd : (T.lst o xs).dle 16 = true := by simp [h]
  have hd2 : (T.lst p []).dle 16 = true := by simp
  unfold neT
  rw [hd, hd2]
  cases xs <;> simp [T.py, pyL, PyData.eqv, PyData.eqvAll]
theorem eqT_py {a b : T} (ha : a.dle 16 = true) (hb : b.dle 16 = true) (h : a.py = b.py) : eqT a b = some (.bl true) := by
  have e := eqT_self ha
  unfold eqT at e ⊢
  rw [hb, ← h]
  rw [ha] at e ⊢
  exact e
theorem len_app (a b : Str) : (a ++ b).length = a.length + b.length := by
  show (a.cps ++ b.cps).size = a.cps.size + b.cps.size
  exact Array.size_append
theorem len_cut (s : Str) (lo hi : Option Int) : (cutS s lo hi).length ≤ s.length := by
  show ((s.cps.toList.drop _).take _).toArray.size ≤ s.cps.size
  rw [List.size_toArray, List.length_take, List.length_drop, Array.length_toList]
  omega
theorem ix_str {L : Str} {n : Int} (hn : (L.cps.toList.length : Int) = n) (hk : okStr L = true) (i : Int) (h0 : 0 ≤ i) (h1 : i < n) : ∃ c : Nat, ixT (.str L) (.int i) = some (.str ⟨#[c]⟩) := by
  have hl : i.toNat < L.cps.toList.length := by omega
  have e := List.getElem?_eq_getElem hl
  refine ⟨L.cps.toList[i.toNat], ?_⟩
  have e2 : atI L.cps.toList i = some L.cps.toList[i.toNat] := atI_of h0 e
  show (if okStr L = true then match atI L.cps.toList i with | some c => some (T.str ⟨#[c]⟩) | none => none else none) = _
  rw [if_pos hk, e2]
theorem one_len (c : Nat) : (⟨#[c]⟩ : Str).length = 1 := rfl
theorem addS {a b : Str} (h : a.length + b.length ≤ sizeLine) : addT (.str a) (.str b) = some (.str (a ++ b)) := by
  unfold addT
  simp only [h, if_true]
theorem app_as (a b c : Str) : a ++ b ++ c = a ++ (b ++ c) := TL.ext_tl (by simp only [TL.tl_append, List.append_assoc])
def sm (n : Int) : Prop := n.natAbs < 1000000000
def dg (m : Nat) : List Nat := (Nat.toDigits 10 m).map Char.toNat
theorem dg_lt {m : Nat} (h : m < 10) : dg m = [48 + m] := by
  unfold dg
  rw [Nat.toDigits_of_lt_base h, List.map_cons, List.map_nil]
  have : ∀ d : Nat, d < 10 → (Nat.digitChar d).toNat = 48 + d := by decide
  rw [this m h]
theorem dg_ge {m : Nat} (h : ¬ m < 10) : dg m = dg (m / 10) ++ [48 + m % 10] := by
  have hm : m % 10 < 10 := Nat.mod_lt m (by decide)
  have t : Nat.toDigits 10 (m / 10) ++ Nat.toDigits 10 (m % 10) = Nat.toDigits 10 (10 * (m / 10) + m % 10) := Nat.toDigits_append_toDigits (by decide) (by omega) hm
  rw [Nat.div_add_mod] at t
  have e := dg_lt hm
  unfold dg at e ⊢
  rw [← t, List.map_append, e]
theorem dg_all : ∀ m : Nat, PySem.NumText.AllDigits (dg m) := by
  intro m
  induction m using Nat.strongRecOn with
  | _ m ih =>
    by_cases h : m < 10
    · rw [dg_lt h]
      intro c hc
      rw [List.mem_singleton.mp hc]
      omega
    · rw [dg_ge h]
      intro c hc
      rcases List.mem_append.mp hc with z | z
      · exact ih (m / 10) (by omega) c z
      · rw [List.mem_singleton.mp z]
        have : m % 10 < 10 := Nat.mod_lt m (by decide)
        omega
theorem dg_ne (m : Nat) : dg m ≠ [] := by
  by_cases h : m < 10
  · rw [dg_lt h]; simp
  · rw [dg_ge h]; simp
theorem dg_val (m : Nat) : PySem.NumText.digitsVal (dg m) = m := PySem.W.KIN.val_back m
theorem dg_len : ∀ (k m : Nat), m < 10 ^ (k + 1) → (dg m).length ≤ k + 1
  | 0, m, h => by
    rw [dg_lt (by simpa using h)]
    simp
  | k + 1, m, h => by
    by_cases h10 : m < 10
    · rw [dg_lt h10]; simp
    · have h2 : m / 10 < 10 ^ (k + 1) := by
        rw [Nat.pow_succ] at h
        omega
      have := dg_len k (m / 10) h2
      rw [dg_ge h10, List.length_append, List.length_singleton]
      omega
theorem strI_nat (m : Nat) : (strI (m : Int)).cps.toList = dg m := PySem.W.KIN.signs_num m
theorem strI_neg (m : Nat) : (strI (-((m + 1 : Nat) : Int))).cps.toList = 45 :: dg (m + 1) := by
  have e : (-((m + 1 : Nat) : Int)) = Int.negSucc m := rfl
  rw [e]
  show (Str.ofString (toString (Int.negSucc m))).cps.toList = _
  rw [PyProof.Rows.signs_ofString]
  show ("-" ++ Nat.repr (m + 1)).toList.map Char.toNat = _
  rw [String.toList_append, List.map_append, Nat.toList_repr]
  rfl
theorem str_len (s : Str) : s.length = s.cps.toList.length := by
  show s.cps.size = _
  rw [Array.length_toList]
theorem strI_cases (n : Int) : (∃ m : Nat, n = (m : Int)) ∨ ∃ m : Nat, n = -((m + 1 : Nat) : Int) := by
  cases n with
  | ofNat m => exact .inl ⟨m, rfl⟩
  | negSucc m => exact .inr ⟨m, rfl⟩
theorem strI_len {n : Int} (h : sm n) : (strI n).length ≤ 10 ∧ 1 ≤ (strI n).length := by
  unfold sm at h
  rw [str_len]
  rcases strI_cases n with ⟨m, rfl⟩ | ⟨m, rfl⟩
  · rw [strI_nat]
    have := dg_len 8 m (by omega)
    have := List.length_pos_iff.mpr (dg_ne m)
    omega
  · rw [strI_neg, List.length_cons]
    have := dg_len 8 (m + 1) (by omega)
    omega
theorem sum_bd (b : Nat) : ∀ ys : List Str, (∀ y ∈ ys, y.length ≤ b) → (ys.map (·.length)).sum ≤ b * ys.length
  | [], _ => by simp
  | y :: r, h => by
    have h1 := h y (List.mem_cons_self ..)
    have h2 := sum_bd b r fun z hz => h z (List.mem_cons_of_mem _ hz)
    rw [List.map_cons, List.sum_cons, List.length_cons, Nat.mul_add]
    omega
theorem join_len (s : Str) : ∀ ys : List Str, (Str.join s ys).length ≤ (ys.map (·.length)).sum + ys.length * s.length
  | [] => Nat.zero_le _
  | [x] => by
    show x.length ≤ _
    simp only [List.map_cons, List.map_nil, List.sum_cons, List.sum_nil]
    omega
  | x :: z :: t => by
    have ih := join_len s (z :: t)
    show (x ++ s ++ Str.join s (z :: t)).length ≤ _
    rw [len_app, len_app, List.map_cons, List.sum_cons, List.length_cons, Nat.add_mul]
    omega
theorem str1 {n : Int} (h : sm n) : strT [.int n] = some (.str (strI n)) := by
  rw [strT_int, if_pos (by unfold sm at h; omega)]
theorem sIx_1 (n d : Nat) (h : 1 ≤ n) : HT.sIx n d (some 1) = 1 := by
  unfold HT.sIx
  simp
  try omega
theorem cut_fst {s : Str} {c : Nat} {r : List Nat} (h : s.cps.toList = c :: r) : cutS s none (some 1) = ⟨#[c]⟩ ∧ cutS s (some 1) none = ⟨r.toArray⟩ := by
  have hl : s.length = r.length + 1 := by rw [str_len, h]; rfl
  have h0 : HT.sIx s.length 0 none = 0 := rfl
  have h2 : HT.sIx s.length s.length none = s.length := rfl
  unfold cutS
  rw [h0, h2, sIx_1 _ _ (by omega), sIx_1 _ _ (by omega), h, hl]
  refine ⟨rfl, ?_⟩
  show (⟨(List.take (r.length + 1 - 1) r).toArray⟩ : Str) = _
  rw [show r.length + 1 - 1 = r.length by omega, List.take_length]
theorem str_ext {s : Str} {l : List Nat} (h : s.cps.toList = l) : s = ⟨l.toArray⟩ := by
  cases s with
  | mk cps => rw [← h]
theorem one_eq (c d : Nat) : ((⟨#[c]⟩ : Str) = ⟨#[d]⟩) ↔ c = d := by
  constructor
  · intro h
    have := congrArg (fun s : Str => s.cps.toList) h
    simpa using this
  · rintro rfl; rfl
theorem dash : ("-" : Str) = ⟨#[45]⟩ := by decide +kernel
theorem zero : ("0" : Str) = ⟨#[48]⟩ := by decide +kernel
theorem ix_one {s : Str} {c : Nat} {r : List Nat} (h : s.cps.toList = c :: r) (hk : s.length ≤ 1000) : ixT (.str s) (.int 0) = some (.str ⟨#[c]⟩) := by
  have k := okS hk
  show (if okStr s = true then match atI s.cps.toList 0 with | some c => some (T.str ⟨#[c]⟩) | none => none else none) = _
  rw [if_pos k, h, atI_0]
def FG : Str := "0123456789"
def SG : Str := "abcdefghijklmnopqrstuvwxyzABCDEFGHIJKLMNOPQRSTUVWXYZ0123456789.,-;:'()!?"
def inZ (Z : Str) (c : Nat) : Bool := decide (c ∈ Z.cps.toList)
theorem made_loop (s Z : Str) : ∀ (L : List Nat) (x2 : Option T), ∃ y2, loop (gN 2) (cIfS (cTest (cO2 (inST true) (cV 2) (cV 1))) (cRet (cK (.bl false))) cSkip) (L.map sgT) [some (.str s), some (.str Z), x2] = some (if L.all (inZ Z) = true then .nx [some (.str s), some (.str Z), y2] else .rt (.bl false) [some (.str s), some (.str Z), y2])
  | [], x2 => ⟨x2, by simp⟩
  | c :: r, x2 => by
    obtain ⟨y2, h⟩ := made_loop s Z r (some (sgT c))
    by_cases hc : c ∈ Z.cps.toList
    · refine ⟨y2, ?_⟩
      have e : inZ Z c = true := by simp [inZ, hc]
      rw [List.map_cons, loop_cons, List.all_cons, e, Bool.true_and, ← h]
      unfold sgT
      simp [-loop_cons, hc]
    · refine ⟨some (sgT c), ?_⟩
      have e : inZ Z c = false := by simp [inZ, hc]
      rw [List.map_cons, loop_cons, List.all_cons, e, Bool.false_and]
      unfold sgT
      simp [-loop_cons, hc]
theorem e_made (s Z : Str) : f_made_of [.str s, .str Z] = some (.bl (s.cps.toList.all (inZ Z)), [.str s, .str Z]) := by
  obtain ⟨y2, h1⟩ := made_loop s Z s.cps.toList none
  have ie : iSt (cV 0) [some (.str s), some (.str Z), none] = some (s.cps.toList.map sgT, [some (.str s), some (.str Z), none]) := rfl
  cases hb : s.cps.toList.all (inZ Z) with
  | true => rw [hb, if_pos rfl] at h1; simp [-loop_cons, -iSt_def, f_made_of, b_made_of, ie, h1]
  | false => rw [hb, if_neg Bool.false_ne_true] at h1; simp [-loop_cons, -iSt_def, f_made_of, b_made_of, ie, h1]
theorem filt_all (p : Nat → Bool) : ∀ L : List Nat, decide ((L.filter p).length = L.length) = L.all p
  | [] => rfl
  | c :: r => by
    have ih := filt_all p r
    have le := List.length_filter_le p r
    cases hp : p c with
    | true => simp [hp, ← ih]
    | false =>
      simp only [List.all_cons, hp, Bool.false_and, decide_eq_false_iff_not]
      rw [List.filter_cons_of_neg (by simp [hp]), List.length_cons]
      omega
theorem len_str {s : Str} (h : s.length ≤ 100000) : lenT [.str s] = some (.int (s.length : Nat)) := by
  have : okStr s = true := decide_eq_true (sz (by omega))
  simp [lenT, this]
theorem sl_str {s : Str} (h : s.length ≤ 100000) (lo hi : Option Int) : slT (.str s) lo hi = some (.str (cutS s lo hi)) := by
  have : okStr s = true := decide_eq_true (sz (by omega))
  show (if okStr s = true then some (T.str (cutS s lo hi)) else none) = _
  rw [if_pos this]
theorem len_nil {s : Str} : s.length = 0 ↔ s = "" := by
  constructor
  · intro h
    have e : s.cps.toList = [] := by
      rw [str_len] at h
      exact List.length_eq_zero_iff.mp h
    exact str_ext e
  · rintro rfl; rfl
def fst1 (s : Str) : Str := match s.cps.toList with
  | c :: _ => ⟨#[c]⟩
  | [] => ""
theorem ix0 {s : Str} (h : s ≠ "") (hk : s.length ≤ 1000) : ixT (.str s) (.int 0) = some (.str (fst1 s)) := by
  cases e : s.cps.toList with
  | nil => exact absurd (str_ext e) h
  | cons c r =>
    rw [ix_one e hk]
    unfold fst1
    rw [e]
/-- the figures of a word -/
def figs (w : Str) : Str := if cutS w none (some 1) = "-" then cutS w (some 1) none else w
def badF (F : Str) : Bool := decide (F = "") || (decide (9 < F.length) || !(F.cps.toList.all (inZ FG)))
def badZ (w F : Str) : Bool := decide (fst1 F = "0") && !decide (w = "0")
/-- the number that a word writes -/
def numM (w : Str) : Option Int := if badF (figs w) = true then none else if badZ w (figs w) = true then none else intText? w
theorem fg_digits {F : Str} (h : F.cps.toList.all (inZ FG) = true) : PySem.NumText.AllDigits F.cps.toList := by
  intro c hc
  have h1 := List.all_eq_true.mp h c hc
  have h1 : c ∈ FG.cps.toList := by simpa [inZ] using h1
  have e : FG.cps.toList = [48, 49, 50, 51, 52, 53, 54, 55, 56, 57] := by decide +kernel
  rw [e] at h1
  simp only [List.mem_cons, List.not_mem_nil, or_false] at h1
  omega
theorem int_some {w : Str} (h : badF (figs w) = false) (hw : w.length ≤ 600) : ∃ n, intText? w = some n := by
  unfold badF at h
  simp only [Bool.or_eq_false_iff, decide_eq_false_iff_not, Bool.not_eq_false'] at h
  obtain ⟨h1, h2, h3⟩ := h
  have ne : (figs w).cps.toList ≠ [] := fun z => h1 (str_ext z)
  have dg := fg_digits h3
  unfold figs at *
  by_cases c : cutS w none (some 1) = "-"
  · rw [if_pos c] at *
    cases e : w.cps.toList with
    | nil =>
      have : w = "" := str_ext e
      rw [this] at c
      exact absurd c (by decide +kernel)
    | cons x r =>
      obtain ⟨c1, c2⟩ := cut_fst e
      rw [c1, dash, one_eq] at c
      subst c
      rw [c2] at dg ne
      exact ⟨_, PySem.intText_neg e dg ne (by omega)⟩
  · rw [if_neg c] at *
    exact ⟨_, PySem.intText_digits dg ne (by omega)⟩
theorem figs_len (w : Str) : (figs w).length ≤ w.length := by
  unfold figs
  split
  · exact len_cut _ _ _
  · exact Nat.le_refl _
noncomputable abbrev nt2 : SX := (kSeq (kIf (cOr (cTest (cO2 eqT (cV 1) (cK (.str "")))) (cOr (cTest (cO2 gtT (cON lenT (aCons (cV 1) aNil)) (cK (.int 9)))) (cNot (cTest (cCall f_made_of [false, false] (aCons (cV 1) (aCons (cK (.str "0123456789")) aNil))))))) (kRai "NoDrawing") (lf cSkip))
  (kSeq (kIf (cAnd (cTest (cO2 eqT (cO2 ixT (cV 1) (cK (.int 0))) (cK (.str "0")))) (cTest (cO2 neT (cV 0) (cK (.str "0"))))) (kRai "NoDrawing") (lf cSkip))
  (lf (cRet (cON intST (aCons (cV 0) aNil))))))
def numO (w : Str) (e : LP.Env) : OutX := match numM w with
  | some n => .ok (.rt (.int n) e)
  | none => .ex "NoDrawing" e
theorem e_nt2 (w : Str) (hw : w.length ≤ 600) : nt2 [some (.str w), some (.str (figs w))] = some (numO w [some (.str w), some (.str (figs w))]) := by
  have fl := figs_len w
  have q1 := eqT_strs (figs w) ""
  have ll := len_str (s := figs w) (by omega)
  have em := e_made (figs w) FG
  unfold FG at em
  have nz : decide ((9 : Int) < ((figs w).length : Nat)) = decide (9 < (figs w).length) := decide_eq_decide.mpr (by omega)
  have hs := int_some (w := w)
  have q3 := neT_strs w "0"
  have hx := ix0 (s := figs w)
  have q4 := eqT_strs (fst1 (figs w)) "0"
  have hI : intST [.str w] = (intText? w).map T.int := by rw [intST_str, if_pos (by omega)]
  unfold numO numM
  cases hb : badF (figs w) with
  | true =>
    rw [if_pos rfl]
    unfold badF FG at hb
    generalize (figs w).cps.toList.all _ = AL at *
    generalize hd1 : decide (figs w = "") = D1 at *
    generalize hln : (((figs w).length : Nat) : Int) = LN at *
    generalize decide (9 < (figs w).length) = D2 at *
    generalize figs w = F at *
    unfold nt2
    cases D1 with
    | true => simp [q1]
    | false =>
      cases D2 with
      | true =>
        have nz := of_decide_eq_true nz
        simp [q1, ll, nz]
      | false =>
        have nz := of_decide_eq_false nz
        simp only [Bool.false_or, Bool.not_eq_true'] at hb
        subst hb
        simp [q1, ll, nz, em]
  | false =>
    obtain ⟨n, hn⟩ := hs hb hw
    rw [if_neg Bool.false_ne_true]
    unfold badF FG at hb
    simp only [Bool.or_eq_false_iff, Bool.not_eq_false'] at hb
    obtain ⟨h1, h2, h3⟩ := hb
    have hx := hx (of_decide_eq_false h1) (by omega)
    rw [h1] at q1
    rw [h2] at nz
    have nz := of_decide_eq_false nz
    unfold badZ
    rw [h3] at em
    rw [hn] at hI ⊢
    generalize hln : (((figs w).length : Nat) : Int) = LN at *
    clear h1 h2 h3 fl hs hln
    generalize fst1 (figs w) = C at *
    generalize figs w = F at *
    unfold nt2
    generalize decide (C = "0") = D3 at *
    generalize decide (w = "0") = D4 at *
    cases D3 <;> cases D4 <;> simp [q1, ll, nz, em, hx, q4, q3, hI]
def numR (w : Str) (out : List T) : ResX := match numM w with
  | some n => .ok (.int n) out
  | none => .ex "NoDrawing" out
theorem e_numX {w : Str} (hw : w.length ≤ 600) : f_number_told [.str w] = some (numR w [.str w]) := by
  have h2 := e_nt2 w hw
  have sl := sl_str (s := w) (by omega)
  have s1 := sl none (some 1)
  have s2 := sl (some 1) none
  have q := eqT_strs (cutS w none (some 1)) "-"
  unfold figs at h2
  generalize hB : nt2 = B2 at *
  unfold numO at h2
  unfold numR
  cases hd : decide (cutS w none (some 1) = "-") with
  | true =>
    rw [if_pos (of_decide_eq_true hd)] at h2
    rw [hd] at q
    unfold f_number_told b_number_told
    simp only [hB]
    cases hn : numM w with
    | none => rw [hn] at h2; simp [s1, s2, q, h2]
    | some n => rw [hn] at h2; simp [s1, s2, q, h2]
  | false =>
    rw [if_neg (of_decide_eq_false hd)] at h2
    rw [hd] at q
    unfold f_number_told b_number_told
    simp only [hB]
    cases hn : numM w with
    | none => rw [hn] at h2; simp [s1, s2, q, h2]
    | some n => rw [hn] at h2; simp [s1, s2, q, h2]
def optI : Option Int → T
  | some n => .int n
  | none => .non
theorem e_lnum {w : Str} (hw : w.length ≤ 600) : f__law_number [.str w] = some (optI (numM w), [.str w]) := by
  have sl := sl_str (s := w) (by omega)
  have s1 := sl none (some 1)
  have s2 : slT (.str w) (some 1) none = _ := sl (some 1) none
  have s0 : slT (.str w) (some 0) none = some (.str w) := by
    rw [sl]
    have : cutS w (some 0) none = w := by
      unfold cutS
      have h2 : HT.sIx w.length w.length none = w.length := rfl
      have h0 : HT.sIx w.length 0 (some 0) = 0 := by unfold HT.sIx; simp
      rw [h0, h2]
      have : List.take (w.length - 0) (List.drop 0 w.cps.toList) = w.cps.toList := by
        rw [List.drop_zero, Nat.sub_zero, List.take_of_length_le]
        rw [str_len]
        exact Nat.le_refl _
      rw [this]
    rw [this]
  have q := eqT_strs (cutS w none (some 1)) "-"
  -- the figures
  have hf : ∃ z : Int, intT [.bl (decide (cutS w none (some 1) = "-"))] = some (.int z) ∧ slT (.str w) (some z) none = some (.str (figs w)) := by
    unfold figs
    cases hd : decide (cutS w none (some 1) = "-") with
    | true => exact ⟨1, rfl, by rw [if_pos (of_decide_eq_true hd)]; exact s2⟩
    | false => exact ⟨0, rfl, by rw [if_neg (of_decide_eq_false hd)]; exact s0⟩
  obtain ⟨z, i1, s3⟩ := hf
  have fl := figs_len w
  have q1 := eqT_strs (figs w) ""
  have ll := len_str (s := figs w) (by omega)
  have nz : decide ((9 : Int) < ((figs w).length : Nat)) = decide (9 < (figs w).length) := decide_eq_decide.mpr (by omega)
  have hs := int_some (w := w)
  have q3 := neT_strs w "0"
  have hx := ix0 (s := figs w)
  have q4 := eqT_strs (fst1 (figs w)) "0"
  have hI : intST [.str w] = (intText? w).map T.int := by rw [intST_str, if_pos (by omega)]
  have lc := lc_pure (vs := [2]) (g := gN 2) (c := cTest (cO2 (inST false) (cV 2) (cK (.str FG)))) (a := cV 2) (f := sgT) (inZ FG) sgT (env := [some (.str w), some (.str (figs w)), none]) (fun x acc hz => by
    unfold sgT inZ
    by_cases hh : x ∈ FG.cps <;> simp [lcTurn, hz, hh]) (figs w).cps.toList [] (by
      have := str_len (figs w)
      have h3 : (100002 : Nat) ≤ sizeLine := by decide
      simp only [List.length_nil]
      omega)
  rw [List.nil_append] at lc
  have fa := filt_all (inZ FG) (figs w).cps.toList
  have lL : lenT [.lst true (((figs w).cps.toList.filter (inZ FG)).map sgT)] = some (.int ((((figs w).cps.toList.filter (inZ FG)).length : Nat) : Int)) := by simp
  have sl' := str_len (figs w)
  have q5 : neT (.int ((((figs w).cps.toList.filter (inZ FG)).length : Nat) : Int)) (.int (((figs w).length : Nat) : Int)) = some (.bl (!((figs w).cps.toList.all (inZ FG)))) := by
    rw [show ∀ a b : Int, neT (.int a) (.int b) = some (.bl (!decide (a = b))) from fun a b => by simp, ← fa, sl']
    rw [show decide (((((figs w).cps.toList.filter (inZ FG)).length : Nat) : Int) = (((figs w).cps.toList.length : Nat) : Int)) = decide (((figs w).cps.toList.filter (inZ FG)).length = (figs w).cps.toList.length) from decide_eq_decide.mpr (by omega)]
  unfold numM
  cases hb : badF (figs w) with
  | true =>
    rw [if_pos rfl]
    unfold badF at hb
    unfold FG at lc lL q5 hb
    generalize (figs w).cps.toList.all _ = AL at *
    generalize hFI : ((figs w).cps.toList.filter _).map sgT = FI at *
    generalize (((((figs w).cps.toList.filter _).length : Nat)) : Int) = FL at *
    generalize hd1 : decide (figs w = "") = D1 at *
    generalize hln : (((figs w).length : Nat) : Int) = LN at *
    generalize decide (9 < (figs w).length) = D2 at *
    generalize hci : iSt (cV 1) [some (.str w), some (.str (figs w)), none] = CI at *
    have hci2 : CI = some ((figs w).cps.toList.map sgT, [some (.str w), some (.str (figs w)), none]) := hci ▸ rfl
    clear hs hx hI q3 q4 fa s2 s0 sl fl hFI sl' hln
    generalize hLL : (figs w).cps.toList.map sgT = LL at *
    generalize figs w = F at *
    generalize decide (cutS w none (some 1) = "-") = D0 at *
    cases D1 with
    | true => simp [-iSt_def, f__law_number, b__law_number, s1, q, i1, s3, q1, optI]
    | false =>
      cases D2 with
      | true =>
        have nz := of_decide_eq_true nz
        simp [-iSt_def, f__law_number, b__law_number, s1, q, i1, s3, q1, ll, nz, optI]
      | false =>
        have nz := of_decide_eq_false nz
        simp only [Bool.false_or, Bool.not_eq_true'] at hb
        rw [hb] at q5
        simp [-iSt_def, -neT_ints, f__law_number, b__law_number, s1, q, i1, s3, q1, ll, nz, hci, hci2, lc, lL, q5, optI]
  | false =>
    obtain ⟨n, hn⟩ := hs hb hw
    rw [if_neg Bool.false_ne_true]
    unfold badF at hb
    simp only [Bool.or_eq_false_iff, Bool.not_eq_false'] at hb
    obtain ⟨h1, h2, h3⟩ := hb
    have hx := hx (of_decide_eq_false h1) (by omega)
    rw [h1] at q1
    rw [h2] at nz
    have nz := of_decide_eq_false nz
    unfold badZ
    rw [h3] at q5
    rw [hn] at hI ⊢
    unfold FG at lc lL q5
    generalize hFI : ((figs w).cps.toList.filter _).map sgT = FI at *
    generalize (((((figs w).cps.toList.filter _).length : Nat)) : Int) = FL at *
    generalize hln : (((figs w).length : Nat) : Int) = LN at *
    generalize hci : iSt (cV 1) [some (.str w), some (.str (figs w)), none] = CI at *
    have hci2 : CI = some ((figs w).cps.toList.map sgT, [some (.str w), some (.str (figs w)), none]) := hci ▸ rfl
    clear h1 h2 h3 fl hs hln fa sl' s2 s0 sl hFI
    generalize hLL : (figs w).cps.toList.map sgT = LL at *
    generalize fst1 (figs w) = C at *
    generalize figs w = F at *
    generalize decide (cutS w none (some 1) = "-") = D0 at *
    generalize decide (C = "0") = D3 at *
    generalize decide (w = "0") = D4 at *
    cases D3 <;> cases D4 <;> simp [-iSt_def, -neT_ints, f__law_number, b__law_number, s1, q, i1, s3, q1, ll, nz, hci, hci2, lc, lL, q5, hx, q4, q3, hI, optI]
/-! texts cut into words -/
open TL
theorem tl_sp : tl (" " : Str) = [32] := by decide +kernel
def wordsOf (s : Str) : List Str := Txt.split s " "
theorem tl_words (s : Str) : (wordsOf s).map tl = spl [32] 0 [] (tl s) := by
  have h := split_spl s " " (by rw [tl_sp]; simp) (kind_ok (by decide +kernel))
  rw [tl_sp] at h
  exact h
theorem pre1 (a c : Nat) (r : List Nat) : pre [a] (c :: r) = (c == a) := by simp [pre]
theorem spl_sp (acc r : List Nat) : spl [32] 0 acc (32 :: r) = acc :: spl [32] 0 [] r := spl_hit (by rw [pre1]; rfl)
theorem spl_ot {c : Nat} (h : c ≠ 32) (acc r : List Nat) : spl [32] 0 acc (c :: r) = spl [32] 0 (acc ++ [c]) r := spl_miss (by rw [pre1]; simpa using h)
theorem spl_ne : ∀ (l acc : List Nat), spl [32] 0 acc l ≠ []
  | [], acc => by rw [spl_nil]; simp
  | c :: r, acc => by
    by_cases h : c = 32
    · subst h; rw [spl_sp]; simp
    · rw [spl_ot h]; exact spl_ne r _
theorem spl_free : ∀ (l acc : List Nat), (32 : Nat) ∉ acc → ∀ p ∈ spl [32] 0 acc l, (32 : Nat) ∉ p
  | [], acc, h => by
    rw [spl_nil]
    intro p hp
    rw [List.mem_singleton.mp hp]
    exact h
  | c :: r, acc, h => by
    by_cases hc : c = 32
    · subst hc
      rw [spl_sp]
      intro p hp
      rcases List.mem_cons.mp hp with rfl | hp
      · exact h
      · exact spl_free r [] (by simp) p hp
    · rw [spl_ot hc]
      exact spl_free r _ (by simp [h]; exact fun e => hc e.symm)
theorem joinL_cons {p : List Nat} {r : List (List Nat)} (h : r ≠ []) : joinL [32] (p :: r) = p ++ (32 :: joinL [32] r) := by
  cases r with
  | nil => exact absurd rfl h
  | cons q r => rfl
theorem join_spl : ∀ (l acc : List Nat), joinL [32] (spl [32] 0 acc l) = acc ++ l
  | [], acc => by rw [spl_nil]; simp [joinL]
  | c :: r, acc => by
    by_cases hc : c = 32
    · subst hc
      rw [spl_sp, joinL_cons (spl_ne r []), join_spl r []]
      rfl
    · rw [spl_ot hc, join_spl r _]
      simp
theorem spl_len : ∀ (l acc : List Nat), (spl [32] 0 acc l).length = l.count 32 + 1
  | [], acc => by rw [spl_nil]; rfl
  | c :: r, acc => by
    by_cases hc : c = 32
    · subst hc
      rw [spl_sp, List.length_cons, spl_len r [], List.count_cons_self]
    · rw [spl_ot hc, spl_len r _, List.count_cons_of_ne hc]
theorem words_ne (s : Str) : wordsOf s ≠ [] := fun h => spl_ne (tl s) [] (by rw [← tl_words, h]; rfl)
theorem words_free {s p : Str} (h : p ∈ wordsOf s) : (32 : Nat) ∉ tl p := spl_free (tl s) [] (by simp) (tl p) (by rw [← tl_words]; exact List.mem_map.mpr ⟨p, h, rfl⟩)
theorem words_join (s : Str) : joinL [32] ((wordsOf s).map tl) = tl s := by rw [tl_words, join_spl]; rfl
theorem words_len (s : Str) : (wordsOf s).length = (tl s).count 32 + 1 := by
  have h := congrArg List.length (tl_words s)
  rw [List.length_map, spl_len] at h
  exact h
theorem joinL_len : ∀ L : List (List Nat), (L.map List.length).sum + L.length ≤ (joinL [32] L).length + 1
  | [] => by simp
  | [p] => by simp [joinL]
  | p :: q :: r => by
    have ih := joinL_len (q :: r)
    rw [joinL_cons (by simp)]
    simp only [List.map_cons, List.sum_cons, List.length_cons, List.length_append] at *
    omega
theorem words_sum (s : Str) : ((wordsOf s).map (·.length)).sum + (wordsOf s).length ≤ s.length + 1 := by
  have h := joinL_len ((wordsOf s).map tl)
  rw [words_join, List.length_map, List.map_map] at h
  have e : (List.length ∘ tl) = fun x : Str => x.length := funext fun x => (str_len x).symm
  rw [e] at h
  rw [str_len]
  exact h
theorem le_sum {x : Nat} : ∀ {l : List Nat}, x ∈ l → x ≤ l.sum
  | y :: r, h => by
    rw [List.sum_cons]
    rcases List.mem_cons.mp h with e | h
    · omega
    · have := le_sum h; omega
theorem word_le {s p : Str} (h : p ∈ wordsOf s) : p.length ≤ s.length := by
  have h1 := words_sum s
  have h2 : p.length ≤ ((wordsOf s).map (·.length)).sum := le_sum (List.mem_map.mpr ⟨p, h, rfl⟩)
  have h3 := List.length_pos_iff.mpr (words_ne s)
  omega
theorem words_le (s : Str) : (wordsOf s).length ≤ s.length + 1 := by
  have h1 := words_sum s
  omega
theorem sp_str {s : Str} (h : s.length ≤ 1000) : splitT " " (.str s) = some (.lst true ((wordsOf s).map T.str)) := by
  have d1 : (" " : Str).length = 1 := rfl
  rw [splitT_str, if_pos ⟨by rw [d1]; rfl, by omega⟩]
  rfl
def numsM : List Str → Option (List Int)
  | [] => some []
  | w :: r => (numM w).bind fun n => (numsM r).bind fun ns => some (n :: ns)
theorem numsM_len : ∀ {ws : List Str} {ns : List Int}, numsM ws = some ns → ns.length = ws.length
  | [], ns, h => by cases h; rfl
  | w :: r, ns, h => by
    unfold numsM at h
    cases hn : numM w with
    | none => rw [hn] at h; cases h
    | some n =>
      rw [hn] at h
      cases hr : numsM r with
      | none => rw [hr] at h; cases h
      | some ms =>
        rw [hr] at h
        cases h
        rw [List.length_cons, List.length_cons, numsM_len hr]
def loR (acc : List T) (e : LP.Env) : Option (List Int) → (List T × LP.Env) ⊕ (Str × LP.Env)
  | some ns => .inl (acc ++ ns.map T.int, e)
  | none => .inr ("NoDrawing", e)
theorem nums_loop (x0 x1 : Option T) : ∀ (ws : List Str) (acc : List T), (∀ w ∈ ws, w.length ≤ 600) → acc.length + ws.length ≤ 100000 →
    lcLoopX [2] (gN 2) (cCallX f_number_told [false] (aCons (cV 2) aNil)) (ws.map T.str) acc [x0, x1, none] = some (loR acc [x0, x1, none] (numsM ws))
  | [], acc, _, _ => by simp [lcLoopX_nil, numsM, loR]
  | w :: r, acc, h, hz => by
    have hn := e_numX (h w (List.mem_cons_self ..))
    rw [List.length_cons] at hz
    have z : acc.length < sizeLine := szl (by omega)
    rw [List.map_cons]
    unfold numsM
    unfold numR at hn
    cases hw : numM w with
    | none =>
      rw [hw] at hn
      rw [lcLoopX_ex (c := "NoDrawing") (e3 := [x0, x1, some (.str w)]) (e1 := [x0, x1, some (.str w)]) rfl (by simp [hn])]
      rfl
    | some n =>
      rw [hw] at hn
      rw [lcLoopX_ok (t := .int n) (o := .t (.int n)) (e3 := [x0, x1, some (.str w)]) (e1 := [x0, x1, some (.str w)]) rfl (by simp [hn]) rfl z]
      have ih := nums_loop x0 x1 r (acc ++ [.int n]) (fun m hm => h m (List.mem_cons_of_mem _ hm)) (by rw [List.length_append, List.length_singleton]; omega)
      have e : wipeE [x0, x1, some (T.str w)] [2] = [x0, x1, none] := rfl
      rw [e, ih]
      simp only [Option.bind_some]
      cases numsM r with
      | none => rfl
      | some ns => simp [loR]
theorem st_fz (l : List Str) : fzL (l.map T.str) = true := fzL_map T.str (fun _ => rfl) l
def numsO (ws : List Str) (m : Int) : Option (List Int) := if (ws.length : Int) = m then numsM ws else none
def numsR (out : List T) : Option (List Int) → ResX
  | some ns => .ok (.lst true (ns.map T.int)) out
  | none => .ex "NoDrawing" out
theorem e_nums (ws : List Str) (m : Int) (h : ∀ w ∈ ws, w.length ≤ 600) (hl : ws.length ≤ 1000) : f_numbers_told [.lst false (ws.map T.str), .int m] = some (numsR [.lst false (ws.map T.str), .int m] (numsO ws m)) := by
  have lo := nums_loop (some (.lst false (ws.map T.str))) (some (.int m)) ws [] h (by simp; omega)
  have ll : lenT [.lst false (ws.map T.str)] = some (.int ((ws.length : Nat) : Int)) := by simp
  have fz := st_fz ws
  unfold numsO
  generalize ((ws.length : Nat) : Int) = WL at *
  generalize ws.map T.str = WT at *
  by_cases hm : WL = m
  · rw [if_pos hm]
    cases hn : numsM ws with
    | none =>
      rw [hn] at lo
      simp [f_numbers_told, b_numbers_told, ll, hm, lo, fz, loR, numsR, lcEndX]
    | some ns =>
      rw [hn] at lo
      simp [f_numbers_told, b_numbers_told, ll, hm, lo, fz, loR, numsR, lcEndX]
  · rw [if_neg hm]
    simp [f_numbers_told, b_numbers_told, ll, hm, fz, numsR]
theorem cut_1 (l : List Str) : cutL (l.map T.str) (some 1) none = (l.drop 1).map T.str := by
  unfold cutL
  rw [List.length_map]
  have h2 : HT.sIx l.length l.length none = l.length := rfl
  rw [h2]
  cases l with
  | nil => rfl
  | cons a r =>
    rw [sIx_1 _ _ (by simp)]
    simp only [List.map_cons, List.drop_succ_cons, List.drop_zero, List.length_cons, Nat.add_sub_cancel]
    rw [List.take_of_length_le (by simp)]
theorem py_ints : ∀ (a b : List Int), PyData.eqvAll (pyL (a.map T.int)) (pyL (b.map T.int)) = decide (a = b)
  | [], [] => by simp [pyL, PyData.eqvAll]
  | [], _ :: _ => by simp [pyL, PyData.eqvAll]
  | _ :: _, [] => by simp [pyL, PyData.eqvAll]
  | x :: r, y :: s => by
    have ih := py_ints r s
    by_cases h : x = y <;> simp [pyL, PyData.eqvAll, T.py, PyData.eqv, ih, h]
theorem int_dle (n : Nat) (l : List Int) : dleL (n + 1) (l.map T.int) = true := dleL_map (n + 1) T.int (fun _ => by simp) l
theorem ne_ints (o p : Bool) (a b : List Int) : neT (.lst o (a.map T.int)) (.lst p (b.map T.int)) = some (.bl (!decide (a = b))) := by
  have h1 : (T.lst o (a.map T.int)).dle 16 = true := by simp [int_dle 14 a]
  have h2 : (T.lst p (b.map T.int)).dle 16 = true := by simp [int_dle 14 b]
  unfold neT
  rw [h1, h2]
  show some (T.bl (!PyData.eqv (T.lst o (a.map T.int)).py (T.lst p (b.map T.int)).py)) = _
  have e : PyData.eqv (T.lst o (a.map T.int)).py (T.lst p (b.map T.int)).py = PyData.eqvAll (pyL (a.map T.int)) (pyL (b.map T.int)) := by simp [T.py, PyData.eqv]
  rw [e, py_ints]
def leafR (out : List T) (b : Bool) : ResX := if b = true then .ok .non out else .ex "NoDrawing" out
theorem e_rleaf (ws : List Str) (m : Int) (h : ∀ w ∈ ws, w.length ≤ 600) (hl : ws.length ≤ 1000) : f_read_leaf [.lst false (ws.map T.str), .int m] = some (leafR [.lst false (ws.map T.str), .int m] (decide (numsO (ws.drop 1) 1 = some [m]))) := by
  have hn := e_nums (ws.drop 1) 1 (fun w hw => h w (List.mem_of_mem_drop hw)) (by rw [List.length_drop]; omega)
  have cu := cut_1 ws
  have f1 := st_fz ws
  have f2 := st_fz (ws.drop 1)
  have r2 := erL_of_fz f2
  unfold leafR
  unfold numsR at hn
  cases hq : numsO (ws.drop 1) 1 with
  | none =>
    rw [hq] at hn
    generalize ws.map T.str = WT at *
    generalize (ws.drop 1).map T.str = DT at *
    simp [f_read_leaf, b_read_leaf, cu, f1, f2, r2, hn]
  | some ns =>
    rw [hq] at hn
    dsimp only at hn
    have q := ne_ints true true ns [m]
    rw [List.map_cons, List.map_nil] at q
    generalize ws.map T.str = WT at *
    generalize (ws.drop 1).map T.str = DT at *
    by_cases e : ns = [m]
    · rw [decide_eq_true e] at q
      rw [decide_eq_true (by rw [e]), if_pos rfl]
      generalize ns.map T.int = NT at *
      simp [f_read_leaf, b_read_leaf, cu, f1, f2, r2, hn, q]
    · rw [decide_eq_false e] at q
      rw [decide_eq_false (fun z => e (Option.some.inj z)), if_neg Bool.false_ne_true]
      generalize ns.map T.int = NT at *
      simp [f_read_leaf, b_read_leaf, cu, f1, f2, r2, hn, q]
/-- whether a text is a word -/
def isW (w : Str) : Bool := decide (1 ≤ w.length) && (decide (w.length ≤ 20) && w.cps.toList.all (inZ SG))
theorem e_isw {w : Str} (h : w.length ≤ 600) : f_is_word [.str w] = some (.bl (isW w), [.str w]) := by
  have e := e_made w SG
  have ll := len_str (s := w) (by omega)
  have h1 : decide ((1 : Int) ≤ (w.length : Nat)) = decide (1 ≤ w.length) := decide_eq_decide.mpr (by omega)
  have h2 : decide (((w.length : Nat) : Int) ≤ 20) = decide (w.length ≤ 20) := decide_eq_decide.mpr (by omega)
  unfold isW
  unfold SG at e ⊢
  generalize w.cps.toList.all _ = AL at *
  generalize ((w.length : Nat) : Int) = WL at *
  generalize decide (1 ≤ w.length) = D1 at *
  generalize decide (w.length ≤ 20) = D2 at *
  cases D1 with
  | false =>
    have h1 := of_decide_eq_false h1
    simp [f_is_word, b_is_word, ll, h1]
  | true =>
    have h1 := of_decide_eq_true h1
    cases D2 with
    | false =>
      have h2 := of_decide_eq_false h2
      simp [f_is_word, b_is_word, ll, h1, h2]
    | true =>
      have h2 := of_decide_eq_true h2
      simp [f_is_word, b_is_word, ll, h1, h2, e]
theorem e_lisw {w : Str} (h : w.length ≤ 600) : f__law_is_word [.str w] = some (.bl (isW w), [.str w]) := by
  have ll := len_str (s := w) (by omega)
  have h1 : decide ((1 : Int) ≤ (w.length : Nat)) = decide (1 ≤ w.length) := decide_eq_decide.mpr (by omega)
  have h2 : decide (((w.length : Nat) : Int) ≤ 20) = decide (w.length ≤ 20) := decide_eq_decide.mpr (by omega)
  have lc := lc_pure (vs := [2]) (g := gN 2) (c := cTest (cO2 (inST false) (cV 2) (cV 1))) (a := cV 2) (f := sgT) (inZ SG) sgT (env := [some (.str w), some (.str SG), none]) (fun x acc hz => by
    unfold sgT inZ
    by_cases hh : x ∈ SG.cps <;> simp [lcTurn, hz, hh]) w.cps.toList [] (by
      have := str_len w
      have h3 : (100002 : Nat) ≤ sizeLine := by decide
      simp only [List.length_nil]
      omega)
  rw [List.nil_append] at lc
  have fa := filt_all (inZ SG) w.cps.toList
  have lL : lenT [.lst true ((w.cps.toList.filter (inZ SG)).map sgT)] = some (.int (((w.cps.toList.filter (inZ SG)).length : Nat) : Int)) := by simp
  have sl' := str_len w
  have q5 : eqT (.int (((w.cps.toList.filter (inZ SG)).length : Nat) : Int)) (.int ((w.length : Nat) : Int)) = some (.bl (w.cps.toList.all (inZ SG))) := by
    rw [eqT_ints, ← fa, sl']
    rw [show decide ((((w.cps.toList.filter (inZ SG)).length : Nat) : Int) = ((w.cps.toList.length : Nat) : Int)) = decide ((w.cps.toList.filter (inZ SG)).length = w.cps.toList.length) from decide_eq_decide.mpr (by omega)]
  unfold isW
  unfold SG at lc lL q5 ⊢
  generalize hAL : w.cps.toList.all _ = AL at *
  generalize hFI : (w.cps.toList.filter _).map sgT = FI at *
  generalize ((((w.cps.toList.filter _).length : Nat)) : Int) = FL at *
  generalize ((w.length : Nat) : Int) = WL at *
  generalize decide (1 ≤ w.length) = D1 at *
  generalize decide (w.length ≤ 20) = D2 at *
  generalize hci : iSt (cV 0) [some (.str w), some (.str "abcdefghijklmnopqrstuvwxyzABCDEFGHIJKLMNOPQRSTUVWXYZ0123456789.,-;:'()!?"), none] = CI at *
  have hci2 : CI = some (w.cps.toList.map sgT, [some (.str w), some (.str "abcdefghijklmnopqrstuvwxyzABCDEFGHIJKLMNOPQRSTUVWXYZ0123456789.,-;:'()!?"), none]) := hci ▸ rfl
  clear hFI fa sl' hAL
  generalize hLL : w.cps.toList.map sgT = LL at *
  cases D1 with
  | false =>
    have h1 := of_decide_eq_false h1
    simp [-iSt_def, f__law_is_word, b__law_is_word, chn_le, ll, h1]
  | true =>
    have h1 := of_decide_eq_true h1
    cases D2 with
    | false =>
      have h2 := of_decide_eq_false h2
      simp [-iSt_def, f__law_is_word, b__law_is_word, chn_le, ll, h1, h2]
    | true =>
      have h2 := of_decide_eq_true h2
      simp [-iSt_def, -eqT_ints, f__law_is_word, b__law_is_word, chn_le, ll, h1, h2, hci, hci2, lc, lL, q5]
theorem atI_last {α : Type} (xs : List α) (h : xs ≠ []) : atI xs (-1) = some (xs.getLast h) := by
  have hl : 0 < xs.length := List.length_pos_iff.mpr h
  have e : ixN xs.length (-1) = some (xs.length - 1) := by
    unfold ixN
    rw [if_neg (by decide), if_pos (by omega)]
    congr 1
    omega
  unfold L2.atI
  rw [e, Option.bind_some, List.getElem?_eq_getElem (by omega), List.getLast_eq_getElem]
theorem sIx_n1 (n d : Nat) (h : 1 ≤ n) : HT.sIx n d (some (-1)) = n - 1 := by
  unfold HT.sIx
  simp
  try omega
theorem cut_mid (l : List Str) (h : l ≠ []) : cutL (l.map T.str) (some 1) (some (-1)) = ((l.drop 1).dropLast).map T.str := by
  have hl : 0 < l.length := List.length_pos_iff.mpr h
  unfold cutL
  rw [List.length_map, sIx_1 _ _ (by omega), sIx_n1 _ _ (by omega), List.dropLast_eq_take, List.length_drop, List.map_take, List.map_drop]
structure Wx where
  k : Int
  x : Int
  y : Int
  n : Int
  p : Int
  w : Str
  f : Int
structure Bx where
  k : Int
  a : Int
  b : Int
  c : Int
  d : Int
  e : Int
def wX (w : Wx) : T := .tup false [.int w.k, .int w.x, .int w.y, .int w.n, .int w.p, .str w.w, .int w.f]
def bX (b : Bx) : T := .tup false [.int b.k, .int b.a, .int b.b, .int b.c, .int b.d, .int b.e]
structure St5 where
  m : Int
  W : List Wx
  B : List Bx
  bx : Bool
def hd (ws : List Str) : Str := ws.headD ""
def ls (ws : List Str) : Str := ws.getLastD ""
def boxN (s : St5) : Option (List Int) → Option St5
  | some [a, b, c, d, e] => some { s with B := s.B ++ [⟨s.m - 1, a, b, c, d, e⟩] }
  | _ => none
def wordN (s : St5) (w : Str) : Option (List Int) → Option St5
  | some [x, y, f, n, p] => some { s with W := s.W ++ [⟨s.m - 1, x, y, n, p, w, f⟩], bx := false }
  | _ => none
/-- a row read -/
def stepP (s : St5) (ws : List Str) : Option St5 :=
  if decide (hd ws = "leaf") = true then (if decide (numsO (ws.drop 1) 1 = some [s.m]) = true then some { s with m := s.m + 1, bx := true } else none)
  else if (decide (hd ws = "box") && s.bx) = true then boxN s (numsO (ws.drop 1) 5)
  else if (decide (hd ws = "word") && (decide (0 < s.m) && isW (ls ws))) = true then wordN s (ls ws) (numsO ((ws.drop 1).dropLast) 5)
  else none
def encP (R : Option T) (s : St5) (ys : LP.Env) : LP.Env := R :: some (.int s.m) :: some (.lst true (s.W.map wX)) :: some (.lst true (s.B.map bX)) :: some (.bl s.bx) :: ys
noncomputable abbrev rdB : SX := (kSeq (lf (cAsg (cFr (cSplit " " (cV 5))) (gN 6)))
  (kIf (cTest (cO2 eqT (cO2 ixT (cV 6) (cK (.int 0))) (cK (.str "leaf")))) (kSeq (kDrop (cCallX f_read_leaf [false, false] (aCons (cV 6) (aCons (cV 1) aNil))))
  (kSeq (lf (cAug 1 addI (cK (.int 1))))
  (lf (cAsg (cK (.bl true)) (gN 4))))) (kIf (cAnd (cTest (cO2 eqT (cO2 ixT (cV 6) (cK (.int 0))) (cK (.str "box")))) (cTest (cV 4))) (kSeq (kAsg (cCallX f_numbers_told [false, false] (aCons (cSl (cV 6) (p1 (cK (.int 1))) p0) (aCons (cK (.int 5)) aNil))) (gUn 5 (gNc (gN 7) (gNc (gN 8) (gNc (gN 9) (gNc (gN 10) (gNc (gN 11) gN0)))))))
  (lf (cDrop (cApp 3 (cTup (aCons (cO2 subT (cV 1) (cK (.int 1))) (aCons (cV 7) (aCons (cV 8) (aCons (cV 9) (aCons (cV 10) (aCons (cV 11) aNil))))))))))) (kIf (cAnd (cTest (cO2 eqT (cO2 ixT (cV 6) (cK (.int 0))) (cK (.str "word")))) (cAnd (cTest (cO2 gtT (cV 1) (cK (.int 0)))) (cTest (cCall f_is_word [false] (aCons (cO2 ixT (cV 6) (cO1 negT (cK (.int 1)))) aNil))))) (kSeq (kAsg (cCallX f_numbers_told [false, false] (aCons (cSl (cV 6) (p1 (cK (.int 1))) (p1 (cO1 negT (cK (.int 1))))) (aCons (cK (.int 5)) aNil))) (gUn 5 (gNc (gN 12) (gNc (gN 13) (gNc (gN 14) (gNc (gN 11) (gNc (gN 15) gN0)))))))
  (kSeq (lf (cDrop (cApp 2 (cTup (aCons (cO2 subT (cV 1) (cK (.int 1))) (aCons (cV 12) (aCons (cV 13) (aCons (cV 11) (aCons (cV 15) (aCons (cO2 ixT (cV 6) (cO1 negT (cK (.int 1)))) (aCons (cV 14) aNil)))))))))))
  (lf (cAsg (cK (.bl false)) (gN 4))))) (kRai "NoDrawing")))))
def StepR (R : Option T) (o : OutX) : Option St5 → Prop
  | some s' => ∃ ys : LP.Env, ys.length = 11 ∧ o = .ok (.nx (encP R s' ys))
  | none => ∃ e, o = .ex "NoDrawing" (R :: e)
theorem numsO_len {ws : List Str} {m : Int} {ns : List Int} (h : numsO ws m = some ns) : (ns.length : Int) = m := by
  unfold numsO at h
  split at h
  · next e => rw [numsM_len h]; exact e
  · cases h
theorem five_of {ns : List Int} (h : (ns.length : Int) = 5) : ∃ a b c d e, ns = [a, b, c, d, e] := by
  match ns, h with
  | [a, b, c, d, e], _ => exact ⟨a, b, c, d, e, rfl⟩
  | [], h => simp at h
  | [_], h => simp at h
  | [_, _], h => simp at h
  | [_, _, _], h => simp at h
  | [_, _, _, _], h => simp at h
  | _ :: _ :: _ :: _ :: _ :: _ :: _, h => simp only [List.length_cons] at h; omega
theorem e_step (R : Option T) (s : St5) (row : Str) (hr : row.length ≤ 600) (hW : s.W.length ≤ 1000) (hB : s.B.length ≤ 1000) (x5 x6 x7 x8 x9 x10 x11 x12 x13 x14 x15 : Option T) :
    ∃ o, (gN 5 (.str row) (encP R s [x5, x6, x7, x8, x9, x10, x11, x12, x13, x14, x15])).bind rdB = some o ∧ StepR R o (stepP s (wordsOf row)) := by
  have sp := sp_str (s := row) (by omega)
  have wl := words_le row
  have wle : ∀ w ∈ wordsOf row, w.length ≤ 600 := fun w hw => Nat.le_trans (word_le hw) hr
  have wn := words_ne row
  generalize wordsOf row = ws at *
  have fW := st_fz ws
  have rW := erL_of_fz fW
  have i0 : atI (ws.map T.str) 0 = some (.str (hd ws)) := by
    cases ws with
    | nil => exact absurd rfl wn
    | cons a r => rw [List.map_cons, atI_0]; rfl
  have i1 : atI (ws.map T.str) (-1) = some (.str (ls ws)) := by
    rw [atI_map, atI_last ws wn]
    show some (T.str _) = _
    unfold ls
    rw [List.getLastD_eq_getLast?, List.getLast?_eq_some_getLast wn]
    rfl
  have q1 := eqT_strs (hd ws) "leaf"
  have q2 := eqT_strs (hd ws) "box"
  have q3 := eqT_strs (hd ws) "word"
  have c1 := cut_1 ws
  have c2 := cut_mid ws wn
  have f1 := st_fz (ws.drop 1)
  have f2 := st_fz ((ws.drop 1).dropLast)
  have r1 := erL_of_fz f1
  have r2 := erL_of_fz f2
  have n1 := e_nums (ws.drop 1) 5 (fun w hw => wle w (List.mem_of_mem_drop hw)) (by rw [List.length_drop]; omega)
  have n2 := e_nums ((ws.drop 1).dropLast) 5 (fun w hw => wle w (List.mem_of_mem_drop (List.dropLast_subset _ hw))) (by rw [List.length_dropLast, List.length_drop]; omega)
  have el := e_rleaf ws s.m wle (by omega)
  have lsl : (ls ws).length ≤ 600 := by
    unfold ls
    rw [List.getLastD_eq_getLast?, List.getLast?_eq_some_getLast wn]
    exact wle _ (List.getLast_mem wn)
  have iw := e_isw lsl
  have zW : (s.W.map wX).length < sizeLine := by rw [List.length_map]; exact szl (by omega)
  have zB : (s.B.map bX).length < sizeLine := by rw [List.length_map]; exact szl (by omega)
  have l1 := @numsO_len (ws.drop 1) 5
  have l2 := @numsO_len ((ws.drop 1).dropLast) 5
  unfold stepP encP
  obtain ⟨m, W, B, bx⟩ := s
  dsimp only at *
  unfold leafR at el
  unfold numsR at n1 n2
  generalize numsO (ws.drop 1) 5 = N1 at *
  generalize numsO ((ws.drop 1).dropLast) 5 = N2 at *
  generalize decide (numsO (ws.drop 1) 1 = some [m]) = DL at *
  generalize hd ws = HD at *
  generalize ls ws = LS at *
  generalize (ws.drop 1).map T.str = D1 at *
  generalize ((ws.drop 1).dropLast).map T.str = D2 at *
  generalize ws.map T.str = WT at *
  clear wl wle wn hr hW hB lsl
  generalize hQ1 : decide (HD = "leaf") = Q1 at *
  generalize hQ2 : decide (HD = "box") = Q2 at *
  generalize hQ3 : decide (HD = "word") = Q3 at *
  generalize isW LS = IW at *
  generalize hWM : W.map wX = WM at *
  generalize hBM : B.map bX = BM at *
  cases Q1 with
  | true =>
    cases DL with
    | true => exact ⟨.ok (.nx [R, some (.int (m + 1)), some (.lst true WM), some (.lst true BM), some (.bl true), some (.str row), some (.lst false WT), x7, x8, x9, x10, x11, x12, x13, x14, x15]), by simp [cO1, sp, i0, fW, rW, q1, el], [some (.str row), some (.lst false WT), x7, x8, x9, x10, x11, x12, x13, x14, x15], rfl, by simp [encP, hWM, hBM]⟩
    | false => exact ⟨.ex "NoDrawing" [R, some (.int m), some (.lst true WM), some (.lst true BM), some (.bl bx), some (.str row), some (.lst false WT), x7, x8, x9, x10, x11, x12, x13, x14, x15], by simp [cO1, sp, i0, fW, rW, q1, el], _, rfl⟩
  | false =>
    cases hb : (Q2 && bx) with
    | true =>
      simp only [Bool.and_eq_true] at hb
      obtain ⟨rfl, rfl⟩ := hb
      cases N1 with
      | none =>
        dsimp only at n1
        exact ⟨.ex "NoDrawing" [R, some (.int m), some (.lst true WM), some (.lst true BM), some (.bl true), some (.str row), some (.lst false WT), x7, x8, x9, x10, x11, x12, x13, x14, x15], by simp [cO1, sp, i0, fW, rW, q1, q2, c1, f1, r1, n1], _, rfl⟩
      | some ns =>
        obtain ⟨a, b, c, d, e, rfl⟩ := five_of (l1 rfl)
        dsimp only at n1
        refine ⟨.ok (.nx [R, some (.int m), some (.lst true WM), some (.lst true (BM ++ [.tup false [.int (m - 1), .int a, .int b, .int c, .int d, .int e]])), some (.bl true), some (.str row), some (.lst false WT), some (.int a), some (.int b), some (.int c), some (.int d), some (.int e), x12, x13, x14, x15]), by simp [cO1, sp, i0, fW, rW, q1, q2, c1, f1, r1, n1, zB, sz], [some (.str row), some (.lst false WT), some (.int a), some (.int b), some (.int c), some (.int d), some (.int e), x12, x13, x14, x15], rfl, by simp [encP, hWM, hBM, bX]⟩
    | false =>
      have hb2 : Q2 = true → bx = false := fun h => by rw [h, Bool.true_and] at hb; exact hb
      cases hw : (Q3 && (decide (0 < m) && IW)) with
      | true =>
        simp only [Bool.and_eq_true, decide_eq_true_eq] at hw
        obtain ⟨rfl, h0, rfl⟩ := hw
        have hq2 : Q2 = false := by
          rw [← hQ2]
          refine decide_eq_false fun z => ?_
          have := of_decide_eq_true hQ3
          rw [z] at this
          exact absurd this (by decide +kernel)
        subst hq2
        cases N2 with
        | none =>
          dsimp only at n2
          exact ⟨.ex "NoDrawing" [R, some (.int m), some (.lst true WM), some (.lst true BM), some (.bl bx), some (.str row), some (.lst false WT), x7, x8, x9, x10, x11, x12, x13, x14, x15], by simp [cO1, sp, i0, i1, fW, rW, q1, q2, q3, h0, iw, c2, f2, r2, n2], _, rfl⟩
        | some ns =>
          obtain ⟨a, b, c, d, e, rfl⟩ := five_of (l2 rfl)
          dsimp only at n2
          refine ⟨.ok (.nx [R, some (.int m), some (.lst true (WM ++ [.tup false [.int (m - 1), .int a, .int b, .int d, .int e, .str LS, .int c]])), some (.lst true BM), some (.bl false), some (.str row), some (.lst false WT), x7, x8, x9, x10, some (.int d), some (.int a), some (.int b), some (.int c), some (.int e)]), by simp [cO1, sp, i0, i1, fW, rW, q1, q2, q3, h0, iw, c2, f2, r2, n2, zW, sz], [some (.str row), some (.lst false WT), x7, x8, x9, x10, some (.int d), some (.int a), some (.int b), some (.int c), some (.int e)], rfl, by simp [encP, hWM, hBM, wX]⟩
      | false =>
        refine ⟨.ex "NoDrawing" [R, some (.int m), some (.lst true WM), some (.lst true BM), some (.bl bx), some (.str row), some (.lst false WT), x7, x8, x9, x10, x11, x12, x13, x14, x15], ?_, _, rfl⟩
        by_cases h0 : 0 < m
        · simp only [h0, decide_true, Bool.true_and] at hw
          cases Q2 <;> cases bx <;> cases Q3 <;> cases IW <;> simp at hb hw <;> simp [cO1, sp, i0, i1, fW, rW, q1, q2, q3, h0, iw]
        · cases Q2 <;> cases bx <;> cases Q3 <;> simp at hb <;> simp [cO1, sp, i0, i1, fW, rW, q1, q2, q3, h0]
def runP : St5 → List (List Str) → Option St5
  | s, [] => some s
  | s, ws :: r => (stepP s ws).bind fun s' => runP s' r
theorem stepP_len {s s' : St5} {ws : List Str} (h : stepP s ws = some s') : s'.W.length ≤ s.W.length + 1 ∧ s'.B.length ≤ s.B.length + 1 := by
  unfold stepP at h
  split at h
  · split at h
    · cases h; exact ⟨by simp, by simp⟩
    · cases h
  · split at h
    · unfold boxN at h
      split at h
      · cases h; exact ⟨by simp, by simp⟩
      · cases h
    · split at h
      · unfold wordN at h
        split at h
        · cases h; exact ⟨by simp, by simp⟩
        · cases h
      · cases h
theorem loopX_nx {g : Tg} {b : SX} {x : T} {env e : LP.Env} (r : List T) (h : (g x env).bind b = some (.ok (.nx e))) : loopX g b (x :: r) env = loopX g b r e := by
  rw [loopX]
  cases hg : g x env with
  | none => rw [hg] at h; cases h
  | some e1 =>
    rw [hg] at h
    simp only [Option.bind_some] at h
    simp only [h]
theorem loopX_ex {g : Tg} {b : SX} {x : T} {env e : LP.Env} {c : Str} (r : List T) (h : (g x env).bind b = some (.ex c e)) : loopX g b (x :: r) env = some (.ex c e) := by
  rw [loopX]
  cases hg : g x env with
  | none => rw [hg] at h; cases h
  | some e1 =>
    rw [hg] at h
    simp only [Option.bind_some] at h
    simp only [h]
theorem eleven {ys : LP.Env} (h : ys.length = 11) : ∃ a b c d e f g h i j k, ys = [a, b, c, d, e, f, g, h, i, j, k] := by
  match ys, h with
  | [a, b, c, d, e, f, g, h, i, j, k], _ => exact ⟨a, b, c, d, e, f, g, h, i, j, k, rfl⟩
theorem rd_loop (R : Option T) : ∀ (rows : List Str) (s : St5) (ys : LP.Env), ys.length = 11 → (∀ r ∈ rows, r.length ≤ 600) → s.W.length + rows.length ≤ 1000 → s.B.length + rows.length ≤ 1000 →
    ∃ o, loopX (gN 5) rdB (rows.map T.str) (encP R s ys) = some o ∧ StepR R o (runP s (rows.map wordsOf))
  | [], s, ys, hy, _, _, _ => ⟨_, rfl, ys, hy, rfl⟩
  | row :: r, s, ys, hy, hr, hW, hB => by
    obtain ⟨a, b, c, d, e, f, g, h, i, j, k, rfl⟩ := eleven hy
    rw [List.length_cons] at hW hB
    obtain ⟨o, h1, h2⟩ := e_step R s row (hr row (List.mem_cons_self ..)) (by omega) (by omega) a b c d e f g h i j k
    rw [List.map_cons, List.map_cons, runP]
    cases hs : stepP s (wordsOf row) with
    | none =>
      rw [hs] at h2
      obtain ⟨e', rfl⟩ := h2
      exact ⟨_, loopX_ex _ h1, e', rfl⟩
    | some s' =>
      rw [hs] at h2
      obtain ⟨ys', hy', rfl⟩ := h2
      obtain ⟨l1, l2⟩ := stepP_len hs
      obtain ⟨o, h3, h4⟩ := rd_loop R r s' ys' hy' (fun x hx => hr x (List.mem_cons_of_mem _ hx)) (by omega) (by omega)
      exact ⟨o, by rw [loopX_nx _ h1, h3], h4⟩
def s0 : St5 := ⟨0, [], [], false⟩
def resT (s : St5) : T := .tup true [.int s.m, .lst true (s.W.map wX), .lst true (s.B.map bX)]
def readR (out : List T) : Option St5 → ResX
  | some s => .ok (resT s) out
  | none => .ex "NoDrawing" out
theorem wX_fz (w : Wx) : (wX w).fz = true := by simp [wX]
theorem bX_fz (b : Bx) : (bX b).fz = true := by simp [bX]
theorem Ws_fz (W : List Wx) : fzL (W.map wX) = true := fzL_map _ wX_fz W
theorem Bs_fz (B : List Bx) : fzL (B.map bX) = true := fzL_map _ bX_fz B
theorem e_read (rows : List Str) (hr : ∀ r ∈ rows, r.length ≤ 600) (hl : rows.length ≤ 900) : f_read_drawing [.lst false (rows.map T.str)] = some (readR [.lst false (rows.map T.str)] (runP s0 (rows.map wordsOf))) := by
  obtain ⟨o, h1, h2⟩ := rd_loop (some (.lst false (rows.map T.str))) rows s0 [none, none, none, none, none, none, none, none, none, none, none] rfl hr (by simp [s0]; omega) (by simp [s0]; omega)
  have fz := st_fz rows
  have e0 : encP (some (.lst false (rows.map T.str))) s0 [none, none, none, none, none, none, none, none, none, none, none] = [some (.lst false (rows.map T.str)), some (.int 0), some (.lst true []), some (.lst true []), some (.bl false), none, none, none, none, none, none, none, none, none, none, none] := rfl
  rw [e0] at h1
  generalize rows.map T.str = RT at *
  unfold readR
  cases hp : runP s0 (rows.map wordsOf) with
  | none =>
    rw [hp] at h2
    obtain ⟨e, rfl⟩ := h2
    generalize hB : rdB = B1 at *
    unfold f_read_drawing b_read_drawing
    simp only [hB]
    simp [h1, fz]
  | some s =>
    rw [hp] at h2
    obtain ⟨ys, hy, rfl⟩ := h2
    obtain ⟨a, b, c, d, e, f, g, h, i, j, k, rfl⟩ := eleven hy
    have fW := Ws_fz s.W
    have fB := Bs_fz s.B
    unfold encP at h1
    dsimp only
    unfold resT
    generalize s.W.map wX = WM at *
    generalize s.B.map bX = BM at *
    generalize s.m = M at *
    generalize s.bx = BX at *
    generalize hB : rdB = B1 at *
    unfold f_read_drawing b_read_drawing
    simp only [hB]
    simp [h1, fz, fW, fB, sz]
def allS : List (Option Int) → Option (List Int)
  | [] => some []
  | none :: _ => none
  | some n :: r => (allS r).bind fun ns => some (n :: ns)
theorem numsM_all : ∀ l : List Str, numsM l = allS (l.map numM)
  | [] => rfl
  | w :: r => by
    rw [numsM, List.map_cons, numsM_all r]
    cases numM w <;> rfl
theorem allS_none : ∀ os : List (Option Int), decide (none ∈ os) = decide (allS os = none)
  | [] => by simp [allS]
  | none :: r => by simp [allS]
  | some n :: r => by
    have ih := allS_none r
    cases h : allS r with
    | none => rw [h] at ih; simp [allS, h] at ih ⊢; exact ih
    | some ns => rw [h] at ih; simp [allS, h] at ih ⊢; exact ih
theorem allS_some : ∀ {os : List (Option Int)} {ns : List Int}, allS os = some ns → os = ns.map some
  | [], ns, h => by cases h; rfl
  | none :: r, ns, h => by cases h
  | some n :: r, ns, h => by
    unfold allS at h
    cases hr : allS r with
    | none => rw [hr] at h; cases h
    | some ms => rw [hr] at h; cases h; rw [allS_some hr]; rfl
def osOf (ws : List Str) : List (Option Int) := ((ws.drop 1).take 5).map numM
theorem sIx_6 (n d : Nat) : HT.sIx n d (some 6) = min 6 n := by
  unfold HT.sIx
  simp
  try omega
theorem cut_16 (l : List Str) (h : l ≠ []) : cutL (l.map T.str) (some 1) (some 6) = ((l.drop 1).take 5).map T.str := by
  have hl : 0 < l.length := List.length_pos_iff.mpr h
  unfold cutL
  rw [List.length_map, sIx_1 _ _ (by omega), sIx_6, List.map_take, List.map_drop]
  by_cases h6 : 6 ≤ l.length
  · rw [Nat.min_eq_left h6]
  · rw [Nat.min_eq_right (by omega), List.take_of_length_le (by rw [List.length_drop, List.length_map]; omega), List.take_of_length_le (by rw [List.length_drop, List.length_map]; omega)]
theorem numl_loop (x0 x1 x2 x3 x4 x5 x6 x7 x8 x9 x10 x11 x12 x13 : Option T) : ∀ (ws : List Str) (acc : List T), (∀ w ∈ ws, w.length ≤ 600) → acc.length + ws.length ≤ 100000 →
    lcLoop [14] (gN 14) cYes (cCall f__law_number [false] (aCons (cV 14) aNil)) (ws.map T.str) acc [x0, x1, x2, x3, x4, x5, x6, x7, x8, x9, x10, x11, x12, x13, none] = some (acc ++ (ws.map numM).map optI, [x0, x1, x2, x3, x4, x5, x6, x7, x8, x9, x10, x11, x12, x13, none])
  | [], acc, _, _ => by simp
  | w :: r, acc, h, hz => by
    have hn := e_lnum (h w (List.mem_cons_self ..))
    rw [List.length_cons] at hz
    have z : acc.length < sizeLine := szl (by omega)
    have ih := numl_loop x0 x1 x2 x3 x4 x5 x6 x7 x8 x9 x10 x11 x12 x13 r (acc ++ [optI (numM w)]) (fun m hm => h m (List.mem_cons_of_mem _ hm)) (by rw [List.length_append, List.length_singleton]; omega)
    have t : lcTurn [14] (gN 14) cYes (cCall f__law_number [false] (aCons (cV 14) aNil)) (.str w) acc [x0, x1, x2, x3, x4, x5, x6, x7, x8, x9, x10, x11, x12, x13, none] = some (acc ++ [optI (numM w)], [x0, x1, x2, x3, x4, x5, x6, x7, x8, x9, x10, x11, x12, x13, none]) := by
      generalize optI (numM w) = ON at *
      simp [lcTurn, hn, z]
    rw [List.map_cons, lcLoop_cons, t, Option.bind_some, ih]
    simp
theorem optI_fz (o : Option Int) : (optI o).fz = true := by cases o <;> rfl
theorem optI_dle (n : Nat) (o : Option Int) : (optI o).dle (n + 1) = true := by cases o <;> simp [optI]
theorem os_fz (os : List (Option Int)) : fzL (os.map optI) = true := fzL_map optI optI_fz os
theorem os_dle (n : Nat) (os : List (Option Int)) : dleL (n + 1) (os.map optI) = true := dleL_map (n + 1) optI (optI_dle n) os
theorem eqv_opt (o p : Option Int) : PyData.eqv (optI o).py (optI p).py = decide (o = p) := by
  cases o with
  | none => cases p <;> simp [optI, T.py, PyData.eqv]
  | some a =>
    cases p with
    | none => simp [optI, T.py, PyData.eqv]
    | some b => by_cases h : a = b <;> simp [optI, T.py, PyData.eqv, h]
theorem py_opts : ∀ (a b : List (Option Int)), PyData.eqvAll (pyL (a.map optI)) (pyL (b.map optI)) = decide (a = b)
  | [], [] => by simp [pyL, PyData.eqvAll]
  | [], _ :: _ => by simp [pyL, PyData.eqvAll]
  | _ :: _, [] => by simp [pyL, PyData.eqvAll]
  | x :: r, y :: s => by
    have ih := py_opts r s
    have e := eqv_opt x y
    have : pyL ((x :: r).map optI) = (optI x).py :: pyL (r.map optI) := rfl
    have h2 : pyL ((y :: s).map optI) = (optI y).py :: pyL (s.map optI) := rfl
    rw [this, h2]
    simp only [PyData.eqvAll, e, ih]
    by_cases h : x = y <;> by_cases h' : r = s <;> simp [h, h']
theorem eq_opts (o p : Bool) (a b : List (Option Int)) : eqT (.lst o (a.map optI)) (.lst p (b.map optI)) = some (.bl (decide (a = b))) := by
  have h1 : (T.lst o (a.map optI)).dle 16 = true := by simp [os_dle 14 a]
  have h2 : (T.lst p (b.map optI)).dle 16 = true := by simp [os_dle 14 b]
  unfold eqT
  rw [h1, h2]
  show some (T.bl (PyData.eqv (T.lst o (a.map optI)).py (T.lst p (b.map optI)).py)) = _
  have e : PyData.eqv (T.lst o (a.map optI)).py (T.lst p (b.map optI)).py = PyData.eqvAll (pyL (a.map optI)) (pyL (b.map optI)) := by simp [T.py, PyData.eqv]
  rw [e, py_opts]
theorem in_opts (os : List (Option Int)) (o : Bool) : inFT false .non (.lst o (os.map optI)) = some (.bl (decide (none ∈ os))) := by
  have h1 : (os.map optI).all flT = true := by
    rw [List.all_eq_true]
    intro x hx
    obtain ⟨y, _, rfl⟩ := List.mem_map.mp hx
    cases y <;> rfl
  have h2 : ∀ l : List (Option Int), anyF .non (l.map optI) = decide (none ∈ l) := by
    intro l
    unfold anyF
    induction l with
    | nil => rfl
    | cons x r ih =>
      rw [List.map_cons, List.any_cons, ih]
      cases x with
      | none => simp [optI, vF, eqV]
      | some n => simp [optI, vF, eqV]
  rw [inFT_lst, h1, if_pos (by rfl), h2]
  rfl
def lastL (s : St5) : Bool := match s.W.getLast? with
  | some w => decide (w.k = s.m - 1)
  | none => false
def six (ws : List Str) : Str := (ws[6]?).getD ""
/-- a row judged -/
def stepL (s : St5) (ws : List Str) : Option St5 :=
  if (decide (hd ws = "leaf") && (decide (ws.length = 2) && decide (osOf ws = [some s.m]))) = true then some { s with m := s.m + 1, bx := true }
  else if (decide (s.m - 1 < 0) || (decide (none ∈ osOf ws) || decide (¬ (osOf ws).length = 5))) = true then none
  else if (decide (hd ws = "box") && (decide (ws.length = 6) && !lastL s)) = true then boxN s (allS (osOf ws))
  else if (decide (hd ws = "word") && (decide (ws.length = 7) && isW (six ws))) = true then wordN s (six ws) (allS (osOf ws))
  else none
def encL (R : Option T) (s : St5) (ys : LP.Env) : LP.Env := R :: some (.int (s.m - 1)) :: some (.lst true (s.W.map wX)) :: some (.lst true (s.B.map bX)) :: ys
noncomputable abbrev ldB : S := (cSeq (cAsg (cFr (cSplit " " (cV 4))) (gN 5))
  (cSeq (cAsg (cFr (cLc 15 [14] (iLs (cSl (cV 5) (p1 (cK (.int 1))) (p1 (cK (.int 6))))) (gN 14) cYes (cCall f__law_number [false] (aCons (cV 14) aNil)))) (gN 6))
  (cSeq (cAsg (cFr (cON lenT (aCons (cV 5) aNil))) (gN 7))
  (cSeq (cAsg (cAndV (cO2 neT (cV 2) (cLst aNil)) (cO2 eqT (cO2 ixT (cO2 ixT (cV 2) (cO1 negT (cK (.int 1)))) (cK (.int 0))) (cV 1))) (gN 8))
  (cIfS (cAnd (cTest (cO2 eqT (cO2 ixT (cV 5) (cK (.int 0))) (cK (.str "leaf")))) (cAnd (cTest (cO2 eqT (cV 7) (cK (.int 2)))) (cTest (cO2 eqT (cV 6) (cLst (aCons (cO2 addT (cV 1) (cK (.int 1))) aNil)))))) (cAsg (cO2 addT (cV 1) (cK (.int 1))) (gN 1)) (cIfS (cOr (cTest (cO2 ltT (cV 1) (cK (.int 0)))) (cOr (cTest (cO2 (inFT false) (cK .non) (cV 6))) (cTest (cO2 neT (cON lenT (aCons (cV 6) aNil)) (cK (.int 5)))))) (cRet (cK .non)) (cIfS (cAnd (cTest (cO2 eqT (cO2 ixT (cV 5) (cK (.int 0))) (cK (.str "box")))) (cAnd (cTest (cO2 eqT (cV 7) (cK (.int 6)))) (cNot (cTest (cV 8))))) (cDrop (cApp 3 (cON tupleT (aCons (cO2 addT (cLst (aCons (cV 1) aNil)) (cV 6)) aNil)))) (cIfS (cAnd (cTest (cO2 eqT (cO2 ixT (cV 5) (cK (.int 0))) (cK (.str "word")))) (cAnd (cTest (cO2 eqT (cV 7) (cK (.int 7)))) (cTest (cCall f__law_is_word [false] (aCons (cO2 ixT (cV 5) (cK (.int 6))) aNil))))) (cSeq (cAsg (cV 6) (gUn 5 (gNc (gN 9) (gNc (gN 10) (gNc (gN 11) (gNc (gN 12) (gNc (gN 13) gN0)))))))
  (cDrop (cApp 2 (cTup (aCons (cV 1) (aCons (cV 9) (aCons (cV 10) (aCons (cV 12) (aCons (cV 13) (aCons (cO2 ixT (cV 5) (cK (.int 6))) (aCons (cV 11) aNil))))))))))) (cRet (cK .non))))))))))
def StepL (R : Option T) (o : Out) : Option St5 → Prop
  | some s' => ∃ ys : LP.Env, ys.length = 10 ∧ o = .nx (encL R s' (ys ++ [none]))
  | none => ∃ e, o = .rt .non (R :: e)
noncomputable abbrev lc1 : Et := (cAnd (cTest (cO2 eqT (cO2 ixT (cV 5) (cK (.int 0))) (cK (.str "leaf")))) (cAnd (cTest (cO2 eqT (cV 7) (cK (.int 2)))) (cTest (cO2 eqT (cV 6) (cLst (aCons (cO2 addT (cV 1) (cK (.int 1))) aNil))))))
noncomputable abbrev lc2 : Et := (cOr (cTest (cO2 ltT (cV 1) (cK (.int 0)))) (cOr (cTest (cO2 (inFT false) (cK .non) (cV 6))) (cTest (cO2 neT (cON lenT (aCons (cV 6) aNil)) (cK (.int 5))))))
noncomputable abbrev lc3 : Et := (cAnd (cTest (cO2 eqT (cO2 ixT (cV 5) (cK (.int 0))) (cK (.str "box")))) (cAnd (cTest (cO2 eqT (cV 7) (cK (.int 6)))) (cNot (cTest (cV 8)))))
noncomputable abbrev lc4 : Et := (cAnd (cTest (cO2 eqT (cO2 ixT (cV 5) (cK (.int 0))) (cK (.str "word")))) (cAnd (cTest (cO2 eqT (cV 7) (cK (.int 7)))) (cTest (cCall f__law_is_word [false] (aCons (cO2 ixT (cV 5) (cK (.int 6))) aNil)))))
noncomputable abbrev la1 : S := (cAsg (cO2 addT (cV 1) (cK (.int 1))) (gN 1))
noncomputable abbrev la3 : S := (cDrop (cApp 3 (cON tupleT (aCons (cO2 addT (cLst (aCons (cV 1) aNil)) (cV 6)) aNil))))
noncomputable abbrev la4 : S := (cSeq (cAsg (cV 6) (gUn 5 (gNc (gN 9) (gNc (gN 10) (gNc (gN 11) (gNc (gN 12) (gNc (gN 13) gN0)))))))
  (cDrop (cApp 2 (cTup (aCons (cV 1) (aCons (cV 9) (aCons (cV 10) (aCons (cV 12) (aCons (cV 13) (aCons (cO2 ixT (cV 5) (cK (.int 6))) (aCons (cV 11) aNil)))))))))))
noncomputable abbrev ltl : S := (cIfS lc1 la1 (cIfS lc2 (cRet (cK .non)) (cIfS lc3 la3 (cIfS lc4 la4 (cRet (cK .non))))))
theorem ldB_eq : ldB = (cSeq (cAsg (cFr (cSplit " " (cV 4))) (gN 5))
  (cSeq (cAsg (cFr (cLc 15 [14] (iLs (cSl (cV 5) (p1 (cK (.int 1))) (p1 (cK (.int 6))))) (gN 14) cYes (cCall f__law_number [false] (aCons (cV 14) aNil)))) (gN 6))
  (cSeq (cAsg (cFr (cON lenT (aCons (cV 5) aNil))) (gN 7))
  (cSeq (cAsg (cAndV (cO2 neT (cV 2) (cLst aNil)) (cO2 eqT (cO2 ixT (cO2 ixT (cV 2) (cO1 negT (cK (.int 1)))) (cK (.int 0))) (cV 1))) (gN 8)) ltl)))) := rfl
theorem wX_dle (n : Nat) (w : Wx) : (wX w).dle (n + 2) = true := by simp [wX]
theorem bX_dle (n : Nat) (b : Bx) : (bX b).dle (n + 2) = true := by simp [bX]
theorem Ws_dle (n : Nat) (W : List Wx) : dleL (n + 2) (W.map wX) = true := dleL_map (n + 2) wX (wX_dle n) W
theorem Bs_dle (n : Nat) (B : List Bx) : dleL (n + 2) (B.map bX) = true := dleL_map (n + 2) bX (bX_dle n) B
/-- the first four statements -/
theorem e_lhead (R : Option T) (s : St5) (row : Str) (hr : row.length ≤ 600) (x4 x5 x6 x7 x8 x9 x10 x11 x12 x13 : Option T) :
    (gN 4 (.str row) (encL R s [x4, x5, x6, x7, x8, x9, x10, x11, x12, x13, none])).bind ldB = ltl [R, some (.int (s.m - 1)), some (.lst true (s.W.map wX)), some (.lst true (s.B.map bX)), some (.str row), some (.lst false ((wordsOf row).map T.str)), some (.lst false ((osOf (wordsOf row)).map optI)), some (.int (((wordsOf row).length : Nat) : Int)), some (.bl (lastL s)), x9, x10, x11, x12, x13, none] := by
  have sp := sp_str (s := row) (by omega)
  have wl := words_le row
  have wle : ∀ w ∈ wordsOf row, w.length ≤ 600 := fun w hw => Nat.le_trans (word_le hw) hr
  have wn := words_ne row
  generalize wordsOf row = ws at *
  have fW := st_fz ws
  have rW := erL_of_fz fW
  have c6 := cut_16 ws wn
  have f6 := st_fz ((ws.drop 1).take 5)
  have lc := numl_loop R (some (.int (s.m - 1))) (some (.lst true (s.W.map wX))) (some (.lst true (s.B.map bX))) (some (.str row)) (some (.lst false (ws.map T.str))) x6 x7 x8 x9 x10 x11 x12 x13 ((ws.drop 1).take 5) [] (fun w hw => wle w (List.mem_of_mem_drop (List.mem_of_mem_take hw))) (by rw [List.length_take]; simp; omega)
  rw [List.nil_append] at lc
  have ll : lenT [.lst false (ws.map T.str)] = some (.int ((ws.length : Nat) : Int)) := by simp
  have fO := os_fz (osOf ws)
  have rO := erL_of_fz fO
  have nn := neT_nil true true (s.W.map wX) (Ws_dle 13 s.W)
  have fWs := Ws_fz s.W
  have la : s.W ≠ [] → ∃ w : Wx, ixT (.lst true (s.W.map wX)) (.int (-1)) = some (wX w) ∧ ixT (wX w) (.int 0) = some (.int w.k) ∧ lastL s = decide (w.k = s.m - 1) := fun h => by
    refine ⟨s.W.getLast h, ?_, by simp [wX], ?_⟩
    · have e : atI (s.W.map wX) (-1) = some (wX (s.W.getLast h)) := by rw [atI_map, atI_last s.W h]; rfl
      simp [e, wX_fz]
    · unfold lastL
      rw [List.getLast?_eq_some_getLast h]
  have hln : s.W = [] → lastL s = false := fun h => by unfold lastL; rw [h]; rfl
  rw [ldB_eq]
  unfold encL
  unfold osOf at fO rO ⊢
  generalize hT : ltl = TL at *
  cases hW : s.W with
  | nil =>
    rw [hln hW]
    rw [hW] at nn lc
    simp only [List.map_nil] at nn lc ⊢
    generalize ws.map T.str = WT at *
    generalize ((ws.drop 1).take 5).map T.str = D6 at *
    generalize ((((ws.drop 1).take 5).map numM).map optI) = OS at *
    generalize s.B.map bX = BM at *
    generalize ((ws.length : Nat) : Int) = WL at *
    generalize s.m - 1 = M1 at *
    clear la hln
    have nn : neT (.lst true []) (.lst true []) = some (.bl false) := nn
    simp [cO1, sp, fW, rW, c6, f6, lc, fO, rO, ll, nn]
  | cons w0 r0 =>
    obtain ⟨w, g1, g2, g3⟩ := la (by rw [hW]; simp)
    rw [g3]
    rw [← hW]
    have ne : (s.W.map wX).isEmpty = false := by rw [hW]; rfl
    rw [ne] at nn
    have q := eqT_ints w.k (s.m - 1)
    generalize s.W.map wX = WM at *
    generalize ws.map T.str = WT at *
    generalize ((ws.drop 1).take 5).map T.str = D6 at *
    generalize ((((ws.drop 1).take 5).map numM).map optI) = OS at *
    generalize s.B.map bX = BM at *
    generalize ((ws.length : Nat) : Int) = WL at *
    generalize s.m - 1 = M1 at *
    generalize wX w = WW at *
    clear la hln g3 hW
    simp [-ixT_lst, cO1, sp, fW, rW, c6, f6, lc, fO, rO, ll, nn, g1, g2]

/-- where the row is judged -/
theorem e_ltail (R : Option T) (s : St5) (row : Str) (hr : row.length ≤ 600) (hW : s.W.length ≤ 1000) (hB : s.B.length ≤ 1000) (x9 x10 x11 x12 x13 : Option T) :
    ∃ o, ltl [R, some (.int (s.m - 1)), some (.lst true (s.W.map wX)), some (.lst true (s.B.map bX)), some (.str row), some (.lst false ((wordsOf row).map T.str)), some (.lst false ((osOf (wordsOf row)).map optI)), some (.int (((wordsOf row).length : Nat) : Int)), some (.bl (lastL s)), x9, x10, x11, x12, x13, none] = some o ∧ StepL R o (stepL s (wordsOf row)) := by
  have wle : ∀ w ∈ wordsOf row, w.length ≤ 600 := fun w hw => Nat.le_trans (word_le hw) hr
  have wn := words_ne row
  generalize wordsOf row = ws at *
  have i0 : atI (ws.map T.str) 0 = some (.str (hd ws)) := by
    cases ws with
    | nil => exact absurd rfl wn
    | cons a r => rw [List.map_cons, atI_0]; rfl
  have i6 : ws.length = 7 → ixT (.lst false (ws.map T.str)) (.int 6) = some (.str (six ws)) ∧ f__law_is_word [.str (six ws)] = some (.bl (isW (six ws)), [.str (six ws)]) := fun h => by
    have g : ws[6]? = some (ws[6]'(by omega)) := List.getElem?_eq_getElem (by omega)
    have e : six ws = ws[6]'(by omega) := by unfold six; rw [g]; rfl
    have a : atI (ws.map T.str) 6 = some (.str (six ws)) := by
      rw [atI_map, atI_of (v := six ws) (by decide) (by show ws[6]? = _; rw [g, e])]
      rfl
    refine ⟨by simp [a], e_lisw ?_⟩
    rw [e]
    exact wle _ (List.getElem_mem _)
  have q1 := eqT_strs (hd ws) "leaf"
  have q2 := eqT_strs (hd ws) "box"
  have q3 := eqT_strs (hd ws) "word"
  have qo := eq_opts false true (osOf ws) [some s.m]
  rw [List.map_cons, List.map_nil] at qo
  have qo : eqT (.lst false ((osOf ws).map optI)) (.lst true [.int s.m]) = _ := qo
  have qn := in_opts (osOf ws) false
  have lo : lenT [.lst false ((osOf ws).map optI)] = some (.int (((osOf ws).length : Nat) : Int)) := by simp
  have d2 : decide (((ws.length : Nat) : Int) = 2) = decide (ws.length = 2) := decide_eq_decide.mpr (by omega)
  have d6 : decide (((ws.length : Nat) : Int) = 6) = decide (ws.length = 6) := decide_eq_decide.mpr (by omega)
  have d7 : decide (((ws.length : Nat) : Int) = 7) = decide (ws.length = 7) := decide_eq_decide.mpr (by omega)
  have d5 : decide ((((osOf ws).length : Nat) : Int) = 5) = decide ((osOf ws).length = 5) := decide_eq_decide.mpr (by omega)
  have fO := os_fz (osOf ws)
  have aN := allS_none (osOf ws)
  have aS := @allS_some (osOf ws)
  have zW : (s.W.map wX).length < sizeLine := by rw [List.length_map]; exact szl (by omega)
  have zB : (s.B.map bX).length < sizeLine := by rw [List.length_map]; exact szl (by omega)
  have mm : s.m - 1 + 1 = s.m := by omega
  have mp : s.m + 1 - 1 = s.m := by omega
  have fW := st_fz ws
  unfold stepL
  obtain ⟨E, hE⟩ : ∃ E : LP.Env, E = [R, some (.int (s.m - 1)), some (.lst true (s.W.map wX)), some (.lst true (s.B.map bX)), some (.str row), some (.lst false (ws.map T.str)), some (.lst false ((osOf ws).map optI)), some (.int ((ws.length : Nat) : Int)), some (.bl (lastL s)), x9, x10, x11, x12, x13, none] := ⟨_, rfl⟩
  have k1 : lc1 E = some ((decide (hd ws = "leaf") && (decide (ws.length = 2) && decide (osOf ws = [some s.m]))), E) := by
    rw [hE]
    unfold lc1
    rw [← d2]
    generalize decide (osOf ws = [some s.m]) = E1 at *
    generalize (osOf ws).map optI = OS at *
    generalize ws.map T.str = WT at *
    generalize ((ws.length : Nat) : Int) = WL at *
    generalize s.m - 1 = M1 at *
    generalize decide (hd ws = "leaf") = Q1 at *
    cases Q1 with
    | false => simp [i0, fW, q1]
    | true =>
      by_cases h2 : WL = 2
      · simp [-neT_ints, i0, fW, q1, h2, mm, qo]
      · simp [i0, fW, q1, h2]
  have k2 : lc2 E = some ((decide (s.m - 1 < 0) || (decide (none ∈ osOf ws) || decide (¬ (osOf ws).length = 5))), E) := by
    rw [hE]
    have d5' : decide (¬ (osOf ws).length = 5) = !decide ((osOf ws).length = 5) := by by_cases h : (osOf ws).length = 5 <;> simp [h]
    rw [d5', ← d5]
    unfold lc2
    generalize decide (none ∈ osOf ws) = NN at *
    generalize (((osOf ws).length : Nat) : Int) = OL at *
    generalize (osOf ws).map optI = OS at *
    generalize s.m - 1 = M1 at *
    by_cases h1 : M1 < 0
    · simp [h1]
    · cases NN with
      | true => simp [-inFT_lst, h1, qn]
      | false => simp [-inFT_lst, h1, qn, lo]
  have k3 : lc3 E = some ((decide (hd ws = "box") && (decide (ws.length = 6) && !lastL s)), E) := by
    rw [hE]
    unfold lc3
    rw [← d6]
    generalize (osOf ws).map optI = OS at *
    generalize ws.map T.str = WT at *
    generalize ((ws.length : Nat) : Int) = WL at *
    generalize decide (hd ws = "box") = Q2 at *
    cases Q2 with
    | false => simp [i0, fW, q2]
    | true => by_cases h6 : WL = 6 <;> simp [i0, fW, q2, h6]
  have k4 : lc4 E = some ((decide (hd ws = "word") && (decide (ws.length = 7) && isW (six ws))), E) := by
    rw [hE]
    unfold lc4
    by_cases h7 : ws.length = 7
    · obtain ⟨g1, g2⟩ := i6 h7
      have d7 := of_decide_eq_true (d7.trans (decide_eq_true h7))
      rw [decide_eq_true h7]
      generalize (osOf ws).map optI = OS at *
      generalize ws.map T.str = WT at *
      generalize ((ws.length : Nat) : Int) = WL at *
      generalize decide (hd ws = "word") = Q3 at *
      generalize isW (six ws) = IW at *
      generalize six ws = SX at *
      cases Q3 with
      | false => simp [i0, fW, q3]
      | true => simp [-ixT_lst, show ixT (.lst false WT) (.int 0) = some (.str (hd ws)) from by simp [i0, fW], q3, d7, g1, g2]
    · have d7 := of_decide_eq_false (d7.trans (decide_eq_false h7))
      rw [decide_eq_false h7]
      generalize (osOf ws).map optI = OS at *
      generalize ws.map T.str = WT at *
      generalize ((ws.length : Nat) : Int) = WL at *
      generalize decide (hd ws = "word") = Q3 at *
      cases Q3 with
      | false => simp [i0, fW, q3]
      | true => simp [i0, fW, q3, d7]
  rw [← hE]
  generalize hB1 : (decide (hd ws = "leaf") && (decide (ws.length = 2) && decide (osOf ws = [some s.m]))) = B1 at *
  generalize hB2 : (decide (s.m - 1 < 0) || (decide (none ∈ osOf ws) || decide (¬ (osOf ws).length = 5))) = B2 at *
  generalize hB3 : (decide (hd ws = "box") && (decide (ws.length = 6) && !lastL s)) = B3 at *
  generalize hB4 : (decide (hd ws = "word") && (decide (ws.length = 7) && isW (six ws))) = B4 at *
  have go : ltl E = if B1 = true then la1 E else if B2 = true then (cRet (cK .non)) E else if B3 = true then la3 E else if B4 = true then la4 E else (cRet (cK .non)) E := by
    unfold ltl
    generalize lc1 = c1 at *
    generalize lc2 = c2 at *
    generalize lc3 = c3 at *
    generalize lc4 = c4 at *
    generalize la1 = a1 at *
    generalize la3 = a3 at *
    generalize la4 = a4 at *
    generalize (cRet (cK T.non)) = a5 at *
    cases B1 <;> cases B2 <;> cases B3 <;> cases B4 <;> simp [k1, k2, k3, k4]
  have bad : (cRet (cK .non)) E = some (.rt .non E) := by simp
  rw [go]
  cases B1 with
  | true =>
    rw [if_pos rfl, if_pos rfl]
    rw [hE]
    exact ⟨.nx [R, some (.int s.m), some (.lst true (s.W.map wX)), some (.lst true (s.B.map bX)), some (.str row), some (.lst false (ws.map T.str)), some (.lst false ((osOf ws).map optI)), some (.int ((ws.length : Nat) : Int)), some (.bl (lastL s)), x9, x10, x11, x12, x13, none], by
      generalize (osOf ws).map optI = OS at *
      generalize ws.map T.str = WT at *
      generalize ((ws.length : Nat) : Int) = WL at *
      simp [mm], [some (.str row), some (.lst false (ws.map T.str)), some (.lst false ((osOf ws).map optI)), some (.int ((ws.length : Nat) : Int)), some (.bl (lastL s)), x9, x10, x11, x12, x13], rfl, by simp [encL, mp]⟩
  | false =>
    rw [if_neg Bool.false_ne_true, if_neg Bool.false_ne_true]
    cases B2 with
    | true =>
      rw [if_pos rfl, if_pos rfl, bad, hE]
      exact ⟨_, rfl, _, rfl⟩
    | false =>
      rw [if_neg Bool.false_ne_true, if_neg Bool.false_ne_true]
      have os5 : ∃ ns : List Int, allS (osOf ws) = some ns ∧ (ns.length : Int) = 5 ∧ osOf ws = ns.map some := by
        simp only [Bool.or_eq_false_iff, decide_eq_false_iff_not, Decidable.not_not] at hB2
        obtain ⟨_, h2, h3⟩ := hB2
        cases ha : allS (osOf ws) with
        | none =>
          rw [ha] at aN
          exact absurd (of_decide_eq_true (aN.trans (decide_eq_true rfl))) h2
        | some ns =>
          have e := aS ha
          rw [e, List.length_map] at h3
          exact ⟨ns, rfl, by omega, e⟩
      obtain ⟨ns, ha, h5, he⟩ := os5
      obtain ⟨a, b, c, d, e, rfl⟩ := five_of h5
      have hO : (osOf ws).map optI = [.int a, .int b, .int c, .int d, .int e] := by rw [he]; rfl
      rw [ha]
      rw [hO] at hE
      cases B3 with
      | true =>
        rw [if_pos rfl, if_pos rfl]
        rw [hE]
        refine ⟨.nx [R, some (.int (s.m - 1)), some (.lst true (s.W.map wX)), some (.lst true (s.B.map bX ++ [.tup false [.int (s.m - 1), .int a, .int b, .int c, .int d, .int e]])), some (.str row), some (.lst false (ws.map T.str)), some (.lst false [.int a, .int b, .int c, .int d, .int e]), some (.int ((ws.length : Nat) : Int)), some (.bl (lastL s)), x9, x10, x11, x12, x13, none], ?_, [some (.str row), some (.lst false (ws.map T.str)), some (.lst false [.int a, .int b, .int c, .int d, .int e]), some (.int ((ws.length : Nat) : Int)), some (.bl (lastL s)), x9, x10, x11, x12, x13], rfl, by simp [encL, bX]⟩
        generalize ws.map T.str = WT at *
        generalize ((ws.length : Nat) : Int) = WL at *
        generalize s.B.map bX = BM at *
        generalize s.W.map wX = WM at *
        generalize s.m - 1 = M1 at *
        have zz : (1 : Nat) + 5 ≤ sizeLine := sz (by omega)
        simp [zB, zz, sz]
      | false =>
        rw [if_neg Bool.false_ne_true, if_neg Bool.false_ne_true]
        cases B4 with
        | false =>
          rw [if_neg Bool.false_ne_true, if_neg Bool.false_ne_true, bad, hE]
          exact ⟨_, rfl, _, rfl⟩
        | true =>
          rw [if_pos rfl, if_pos rfl]
          have h7 : ws.length = 7 := by
            simp only [Bool.and_eq_true, decide_eq_true_eq] at hB4
            exact hB4.2.1
          obtain ⟨g1, _⟩ := i6 h7
          rw [hE]
          refine ⟨.nx [R, some (.int (s.m - 1)), some (.lst true (s.W.map wX ++ [.tup false [.int (s.m - 1), .int a, .int b, .int d, .int e, .str (six ws), .int c]])), some (.lst true (s.B.map bX)), some (.str row), some (.lst false (ws.map T.str)), some (.lst false [.int a, .int b, .int c, .int d, .int e]), some (.int ((ws.length : Nat) : Int)), some (.bl (lastL s)), some (.int a), some (.int b), some (.int c), some (.int d), some (.int e), none], ?_, [some (.str row), some (.lst false (ws.map T.str)), some (.lst false [.int a, .int b, .int c, .int d, .int e]), some (.int ((ws.length : Nat) : Int)), some (.bl (lastL s)), some (.int a), some (.int b), some (.int c), some (.int d), some (.int e)], rfl, by simp [encL, wX]⟩
          generalize ws.map T.str = WT at *
          generalize ((ws.length : Nat) : Int) = WL at *
          generalize s.B.map bX = BM at *
          generalize s.W.map wX = WM at *
          generalize s.m - 1 = M1 at *
          generalize six ws = SX at *
          simp [-ixT_lst, g1, zW, sz]
def runL : St5 → List (List Str) → Option St5
  | s, [] => some s
  | s, ws :: r => (stepL s ws).bind fun s' => runL s' r
theorem stepL_len {s s' : St5} {ws : List Str} (h : stepL s ws = some s') : s'.W.length ≤ s.W.length + 1 ∧ s'.B.length ≤ s.B.length + 1 := by
  unfold stepL at h
  split at h
  · cases h; exact ⟨by simp, by simp⟩
  · split at h
    · cases h
    · split at h
      · unfold boxN at h
        split at h
        · cases h; exact ⟨by simp, by simp⟩
        · cases h
      · split at h
        · unfold wordN at h
          split at h
          · cases h; exact ⟨by simp, by simp⟩
          · cases h
        · cases h
theorem loop_nx {g : Tg} {b : S} {x : T} {env e : LP.Env} (r : List T) (h : (g x env).bind b = some (.nx e)) : loop g b (x :: r) env = loop g b r e := by
  rw [loop]
  cases hg : g x env with
  | none => rw [hg] at h; cases h
  | some e1 =>
    rw [hg] at h
    simp only [Option.bind_some] at h
    simp only [h]
theorem loop_rt {g : Tg} {b : S} {x t : T} {env e : LP.Env} (r : List T) (h : (g x env).bind b = some (.rt t e)) : loop g b (x :: r) env = some (.rt t e) := by
  rw [loop]
  cases hg : g x env with
  | none => rw [hg] at h; cases h
  | some e1 =>
    rw [hg] at h
    simp only [Option.bind_some] at h
    simp only [h]
theorem ten {ys : LP.Env} (h : ys.length = 10) : ∃ a b c d e f g h i j, ys = [a, b, c, d, e, f, g, h, i, j] := by
  match ys, h with
  | [a, b, c, d, e, f, g, h, i, j], _ => exact ⟨a, b, c, d, e, f, g, h, i, j, rfl⟩
theorem ld_loop (R : Option T) : ∀ (rows : List Str) (s : St5) (ys : LP.Env), ys.length = 10 → (∀ r ∈ rows, r.length ≤ 600) → s.W.length + rows.length ≤ 1000 → s.B.length + rows.length ≤ 1000 →
    ∃ o, loop (gN 4) ldB (rows.map T.str) (encL R s (ys ++ [none])) = some o ∧ StepL R o (runL s (rows.map wordsOf))
  | [], s, ys, hy, _, _, _ => ⟨_, rfl, ys, hy, rfl⟩
  | row :: r, s, ys, hy, hr, hW, hB => by
    obtain ⟨a, b, c, d, e, f, g, h, i, j, rfl⟩ := ten hy
    rw [List.length_cons] at hW hB
    have hrow := hr row (List.mem_cons_self ..)
    obtain ⟨o, h1, h2⟩ := e_ltail R s row hrow (by omega) (by omega) f g h i j
    rw [← e_lhead R s row hrow a b c d e f g h i j] at h1
    rw [List.map_cons, List.map_cons, runL]
    cases hs : stepL s (wordsOf row) with
    | none =>
      rw [hs] at h2
      obtain ⟨e', rfl⟩ := h2
      exact ⟨_, loop_rt _ h1, e', rfl⟩
    | some s' =>
      rw [hs] at h2
      obtain ⟨ys', hy', rfl⟩ := h2
      obtain ⟨l1, l2⟩ := stepL_len hs
      obtain ⟨o, h3, h4⟩ := ld_loop R r s' ys' hy' (fun x hx => hr x (List.mem_cons_of_mem _ hx)) (by omega) (by omega)
      refine ⟨o, ?_, h4⟩
      change loop (gN 4) ldB (T.str row :: r.map T.str) (encL R s [a, b, c, d, e, f, g, h, i, j, none]) = _
      rw [loop_nx _ h1, h3]
def dueT : Option St5 → T
  | some s => resT s
  | none => .non
theorem e_due (rows : List Str) (hr : ∀ r ∈ rows, r.length ≤ 600) (hl : rows.length ≤ 900) : f__law_due [.lst false (rows.map T.str)] = some (dueT (runL s0 (rows.map wordsOf)), [.lst false (rows.map T.str)]) := by
  obtain ⟨o, h1, h2⟩ := ld_loop (some (.lst false (rows.map T.str))) rows s0 [none, none, none, none, none, none, none, none, none, none] rfl hr (by simp [s0]; omega) (by simp [s0]; omega)
  have fz := st_fz rows
  have e0 : encL (some (.lst false (rows.map T.str))) s0 ([none, none, none, none, none, none, none, none, none, none] ++ [none]) = [some (.lst false (rows.map T.str)), some (.int (-1)), some (.lst true []), some (.lst true []), none, none, none, none, none, none, none, none, none, none, none] := rfl
  rw [e0] at h1
  generalize rows.map T.str = RT at *
  cases hp : runL s0 (rows.map wordsOf) with
  | none =>
    rw [hp] at h2
    obtain ⟨e, rfl⟩ := h2
    generalize hB : ldB = B1 at *
    unfold f__law_due b__law_due
    simp only [hB]
    simp [-loop_cons, h1, fz, dueT]
  | some s =>
    rw [hp] at h2
    obtain ⟨ys, hy, rfl⟩ := h2
    obtain ⟨a, b, c, d, e, f, g, h, i, j, rfl⟩ := ten hy
    have fW := Ws_fz s.W
    have fB := Bs_fz s.B
    have mm : s.m - 1 + 1 = s.m := by omega
    unfold encL at h1
    unfold dueT resT
    dsimp only
    generalize s.W.map wX = WM at *
    generalize s.B.map bX = BM at *
    generalize hM1 : s.m - 1 = M1 at *
    generalize s.m = M at *
    generalize hB : ldB = B1 at *
    unfold f__law_due b__law_due
    simp only [hB]
    simp [-loop_cons, h1, fz, fW, fB, mm, sz]
/-! both judge alike -/
def Inv5 (s : St5) : Prop := 0 ≤ s.m ∧ s.bx = (decide (0 < s.m) && !lastL s) ∧ ∀ w ∈ s.W, w.k < s.m
theorem last_lt {s : St5} (h : ∀ w ∈ s.W, w.k < s.m) (bx : Bool) : lastL { s with m := s.m + 1, bx := bx } = false := by
  unfold lastL
  cases hg : s.W.getLast? with
  | none => simp [hg]
  | some w =>
    have := h w (List.mem_of_getLast? hg)
    simp [hg]
    omega
theorem inv_step {s s' : St5} {ws : List Str} (I : Inv5 s) (h : stepP s ws = some s') : Inv5 s' := by
  obtain ⟨i1, i2, i3⟩ := I
  unfold stepP at h
  split at h
  · split at h
    · cases h
      refine ⟨by show 0 ≤ s.m + 1; omega, ?_, fun w hw => by have := i3 w hw; show w.k < s.m + 1; omega⟩
      rw [last_lt i3]
      have : decide (0 < s.m + 1) = true := decide_eq_true (by omega)
      show true = (decide (0 < s.m + 1) && !false)
      rw [this]
      rfl
    · cases h
  · split at h
    · unfold boxN at h
      split at h
      · cases h; exact ⟨i1, i2, i3⟩
      · cases h
    · split at h
      · next hc =>
        simp only [Bool.and_eq_true, decide_eq_true_eq] at hc
        unfold wordN at h
        split at h
        · cases h
          refine ⟨i1, ?_, fun w hw => ?_⟩
          · have : ∀ x : Wx, x.k = s.m - 1 → lastL { s with W := s.W ++ [x], bx := false } = true := fun x hx => by
              unfold lastL
              simp [hx]
            rw [this _ rfl]
            simp
          · rcases List.mem_append.mp hw with z | z
            · exact i3 w z
            · rw [List.mem_singleton.mp z]
              show s.m - 1 < s.m
              omega
        · cases h
      · cases h
theorem numsO_os {ws : List Str} (h : ws.length = 6) : numsO (ws.drop 1) 5 = allS (osOf ws) := by
  unfold numsO osOf
  rw [if_pos (by rw [List.length_drop]; omega), numsM_all, List.take_of_length_le (by rw [List.length_drop]; omega)]
theorem numsO_os7 {ws : List Str} (h : ws.length = 7) : numsO ((ws.drop 1).dropLast) 5 = allS (osOf ws) := by
  unfold numsO osOf
  have hl : (ws.drop 1).length = 6 := by rw [List.length_drop]; omega
  rw [List.dropLast_eq_take, hl]
  rw [if_pos (by rw [List.length_take, hl]; rfl), numsM_all]
theorem boxN_none {s : St5} : boxN s none = none := rfl
theorem wordN_none {s : St5} {w : Str} : wordN s w none = none := rfl
theorem hd_ne {ws : List Str} {a b : Str} (h : hd ws = a) (n : ¬ a = b) : decide (hd ws = b) = false := decide_eq_false fun z => n (h.symm.trans z)
theorem step_eq {s : St5} {ws : List Str} (I : Inv5 s) : stepL s ws = stepP s ws := by
  obtain ⟨i1, i2, i3⟩ := I
  have os5 : decide (none ∈ osOf ws) = decide (allS (osOf ws) = none) := allS_none _
  by_cases hL : hd ws = "leaf"
  · have nb := hd_ne hL (b := "box") (by decide +kernel)
    have nw := hd_ne hL (b := "word") (by decide +kernel)
    have e : (decide (ws.length = 2) && decide (osOf ws = [some s.m])) = decide (numsO (ws.drop 1) 1 = some [s.m]) := by
      unfold numsO
      by_cases h2 : ws.length = 2
      · rw [if_pos (by rw [List.length_drop]; omega), decide_eq_true h2, Bool.true_and]
        unfold osOf
        match ws, h2 with
        | [a, b], _ =>
          show decide ([numM b] = [some s.m]) = decide (((numM b).bind fun n => some [n]) = some [s.m])
          cases numM b with
          | none => simp
          | some n => simp
      · rw [if_neg (by rw [List.length_drop]; omega), decide_eq_false h2]
        simp
    unfold stepL stepP
    rw [decide_eq_true hL, Bool.true_and, e, nb, nw]
    cases decide (numsO (ws.drop 1) 1 = some [s.m]) with
    | true => simp
    | false => simp
  · unfold stepL stepP
    rw [decide_eq_false hL, Bool.false_and, if_neg Bool.false_ne_true, if_neg Bool.false_ne_true]
    have b1 : decide (s.m - 1 < 0) = !decide (0 < s.m) := by
      by_cases h : 0 < s.m
      · rw [decide_eq_true h, decide_eq_false (by omega)]; rfl
      · rw [decide_eq_false h, decide_eq_true (by omega)]; rfl
    rw [i2, os5, b1]
    by_cases hB : hd ws = "box"
    · have nw := hd_ne hB (b := "word") (by decide +kernel)
      rw [decide_eq_true hB, nw]
      simp only [Bool.true_and, Bool.false_and]
      cases hm : decide (0 < s.m) with
      | false => simp
      | true =>
        simp only [Bool.not_true, Bool.false_or, Bool.true_and]
        cases hl : lastL s with
        | true => simp
        | false =>
          simp only [Bool.not_false, Bool.and_true, if_true]
          by_cases h6 : ws.length = 6
          · rw [numsO_os h6]
            have l5 : (osOf ws).length = 5 := by unfold osOf; rw [List.length_map, List.length_take, List.length_drop]; omega
            cases ha : allS (osOf ws) with
            | none => simp [boxN_none]
            | some ns => simp [l5, h6]
          · have : numsO (ws.drop 1) 5 = none := by
              unfold numsO
              by_cases h0 : ws.length = 0
              · rw [if_neg (by rw [List.length_drop]; omega)]
              · rw [if_neg (by rw [List.length_drop]; omega)]
            rw [this, boxN_none]
            simp [h6]
    · rw [decide_eq_false hB]
      simp only [Bool.false_and, Bool.false_eq_true, if_false]
      by_cases hw : hd ws = "word"
      · rw [decide_eq_true hw]
        simp only [Bool.true_and]
        cases hm : decide (0 < s.m) with
        | false => simp
        | true =>
          simp only [Bool.not_true, Bool.false_or, Bool.true_and]
          by_cases h7 : ws.length = 7
          · rw [numsO_os7 h7]
            have l5 : (osOf ws).length = 5 := by unfold osOf; rw [List.length_map, List.length_take, List.length_drop]; omega
            have e6 : six ws = ls ws := by
              match ws, h7 with
              | [_, _, _, _, _, _, g], _ => rfl
            rw [e6]
            cases ha : allS (osOf ws) with
            | none => simp [wordN_none]
            | some ns => simp [l5, h7]
          · have : numsO ((ws.drop 1).dropLast) 5 = none := by
              unfold numsO
              rw [if_neg (by rw [List.length_dropLast, List.length_drop]; omega)]
            rw [this, wordN_none]
            simp [h7]
      · rw [decide_eq_false hw]
        simp
theorem run_eq : ∀ (rows : List (List Str)) (s : St5), Inv5 s → runL s rows = runP s rows
  | [], _, _ => rfl
  | ws :: r, s, I => by
    rw [runL, runP, step_eq I]
    cases h : stepP s ws with
    | none => rfl
    | some s' => exact run_eq r s' (inv_step I h)
theorem inv0 : Inv5 s0 := ⟨by decide, by decide, fun w hw => by cases hw⟩
def rws (rows : List Str) : List T := rows.map T.str
def okRw (n : Nat) (rows : List Str) : Prop := rows.length ≤ 40 ∧ ∀ r ∈ rows, r.length ≤ n
theorem e_ref {rows : List Str} (h : okRw 600 rows) (hp : runP s0 (rows.map wordsOf) = none) : f__law_refused [.lst false (rows.map T.str)] = some (.bl true, [.lst false (rows.map T.str)]) := by
  have e := e_read rows h.2 (by have := h.1; omega)
  rw [hp] at e
  unfold readR at e
  have fz := st_fz rows
  generalize rows.map T.str = RT at *
  have n2 : neT (.int 2) (.int 2) = some (.bl false) := by simp
  simp [f__law_refused, b__law_refused, e, fz]
theorem st_dle (n : Nat) (l : List Str) : dleL (n + 1) (l.map T.str) = true := dleL_map (n + 1) T.str (fun _ => by simp) l
theorem resT_er (s : St5) : (resT s).er = .tup false [.int s.m, .lst false (s.W.map wX), .lst false (s.B.map bX)] := by
  unfold resT
  have rW := erL_of_fz (Ws_fz s.W)
  have rB := erL_of_fz (Bs_fz s.B)
  simp [rW, rB]
theorem resT_dle (s : St5) : (resT s).dle 16 = true := by
  unfold resT
  have rW := Ws_dle 12 s.W
  have rB := Bs_dle 12 s.B
  simp [rW, rB]
theorem e_asked {rows : List Str} (h : okRw 600 rows) : f__law_asked [.lst false (rows.map T.str)] = some (.bl true, [.lst false (rows.map T.str)]) := by
  have d := e_due rows h.2 (by have := h.1; omega)
  rw [run_eq _ _ inv0] at d
  have fz := st_fz rows
  have er := erL_of_fz fz
  have eqr : eqT (.lst false (rows.map T.str)) (.lst false (rows.map T.str)) = some (.bl true) := eqT_self (by simp [st_dle 14 rows])
  cases hp : runP s0 (rows.map wordsOf) with
  | none =>
    have r := e_ref h hp
    rw [hp] at d
    unfold dueT at d
    generalize rows.map T.str = RT at *
    simp [f__law_asked, b__law_asked, isN, d, fz, er, r, eqr]
  | some s =>
    have e := e_read rows h.2 (by have := h.1; omega)
    rw [hp] at d e
    unfold dueT at d
    unfold readR at e
    dsimp only at d e
    have re := resT_er s
    have q : eqT (resT s) (.tup false [.int s.m, .lst false (s.W.map wX), .lst false (s.B.map bX)]) = some (.bl true) := by
      rw [← re]
      have dl := resT_dle s
      refine eqT_py dl ?_ ?_
      · rw [re]
        have rW := Ws_dle 12 s.W
        have rB := Bs_dle 12 s.B
        simp [rW, rB]
      · rw [re]
        unfold resT
        simp [T.py, pyL]
    have fW := Ws_fz s.W
    have fB := Bs_fz s.B
    have gp : gPart f_read_drawing [] [.lst false (rows.map T.str)] = some (resT s, [.lst false (rows.map T.str)]) := by
      unfold gPart gOk
      rw [List.append_nil, e]
      rfl
    generalize rows.map T.str = RT at *
    unfold resT at d gp q re
    generalize s.W.map wX = WM at *
    generalize s.B.map bX = BM at *
    have rW := erL_of_fz fW
    have rB := erL_of_fz fB
    clear e
    simp [f__law_asked, b__law_asked, isN, d, fz, er, eqr, gp, q, rW, rB, fW, fB]
theorem joinS (ss : List Str) (o : Bool) (h : (ss.map (·.length)).sum + ss.length ≤ 16777216) : joinT " " (.lst o (ss.map T.str)) = some (.str (Str.join " " ss)) ∧ (Str.join " " ss).length ≤ (ss.map (·.length)).sum + ss.length := by
  have d1 : (" " : Str).length = 1 := rfl
  have b := join_len " " ss
  rw [d1] at b
  refine ⟨?_, by omega⟩
  rw [joinT_map, if_pos (by rw [d1]; omega), TL.join_eq]
theorem strI3 {n : Int} (h0 : -9 ≤ n) (h1 : n ≤ 99) : (strI n).length ≤ 3 := by
  rw [str_len]
  rcases strI_cases n with ⟨m, rfl⟩ | ⟨m, rfl⟩
  · rw [strI_nat]
    have := dg_len 1 m (by omega)
    omega
  · rw [strI_neg, List.length_cons]
    have := dg_len 1 (m + 1) (by omega)
    omega
theorem strn {n : Int} (h0 : -9 ≤ n) (h1 : n ≤ 99) : strT [.int n] = some (.str (strI n)) := by
  rw [strT_int, if_pos (by omega)]
/-- five numbers drawn -/
theorem e_five (a b : Int) (x1 x2 x3 x4 : Option T) : ∃ (ss : List Str) (a' b' : Int), ss.length = 5 ∧ (∀ s ∈ ss, s.length ≤ 3) ∧
    lcLoop [5] (gN 5) cYes (cON strT (aCons (cO2 subT (cCall f__law_take [true, false] (aCons (cV 0) (aCons (cK (.int 30)) aNil))) (cK (.int 9))) aNil)) (rngI 0 5) [] [some (.lst true [.int a, .int b]), x1, x2, x3, x4, none]
      = some (ss.map T.str, [some (.lst true [.int a', .int b']), x1, x2, x3, x4, none]) := by
  obtain ⟨acc, e, h, ss, a', b', l, k, rfl, rfl⟩ := lc_rng (vs := [5]) (g := gN 5) (c := cYes) (a := (cON strT (aCons (cO2 subT (cCall f__law_take [true, false] (aCons (cV 0) (aCons (cK (.int 30)) aNil))) (cK (.int 9))) aNil))) (lo := 0) (n := 5)
    (env := [some (.lst true [.int a, .int b]), x1, x2, x3, x4, none])
    (fun i acc e => ∃ (ss : List Str) (a' b' : Int), ss.length = i ∧ (∀ s ∈ ss, s.length ≤ 3) ∧ acc = ss.map T.str ∧ e = [some (.lst true [.int a', .int b']), x1, x2, x3, x4, none])
    ⟨[], a, b, rfl, (fun s hs => by cases hs), rfl, rfl⟩ (by
    rintro i acc e hi ⟨ss, a', b', l, k, rfl, rfl⟩
    obtain ⟨d, a2, b2, t, p, q⟩ := take_ok a' b' 30 (by decide) (by decide)
    have st := strn (n := d - 9) (by omega) (by omega)
    have z : (ss.map T.str).length < sizeLine := by rw [List.length_map]; exact szl (by omega)
    refine ⟨ss.map T.str ++ [.str (strI (d - 9))], [some (.lst true [.int a2, .int b2]), x1, x2, x3, x4, none], ?_, ss ++ [strI (d - 9)], a2, b2, by simp [l], fun s hs => ?_, by simp, rfl⟩
    · generalize ss.map T.str = ST at *
      generalize strI (d - 9) = SD at *
      generalize (0 : Int) + (i : Int) = II at *
      simp [-strT_int, lcTurn, t, st, z]
    · rcases List.mem_append.mp hs with w | w
      · exact k s w
      · rw [List.mem_singleton.mp w]
        exact strI3 (by omega) (by omega))
  exact ⟨ss, a', b', l, k, h⟩
theorem sum3 : ∀ {ss : List Str} {n : Nat}, (∀ s ∈ ss, s.length ≤ n) → (ss.map (·.length)).sum ≤ n * ss.length
  | [], n, _ => by simp
  | s :: r, n, h => by
    have h1 := h s (List.mem_cons_self ..)
    have h2 := sum3 (ss := r) (n := n) fun z hz => h z (List.mem_cons_of_mem _ hz)
    rw [List.map_cons, List.sum_cons, List.length_cons, Nat.mul_add]
    omega
theorem e_join5 {ss : List Str} (l : ss.length = 5) (h : ∀ s ∈ ss, s.length ≤ 3) (o : Bool) : joinT " " (.lst o (ss.map T.str)) = some (.str (Str.join " " ss)) ∧ (Str.join " " ss).length ≤ 20 := by
  have s3 := sum3 h
  rw [l] at s3
  obtain ⟨h1, h2⟩ := joinS ss o (by omega)
  exact ⟨h1, by omega⟩
noncomputable abbrev bxB : S := (cDrop (cApp 1 (cO2 addT (cK (.str "box ")) (cJoin " " (cLc 6 [5] (iR1 (aCons (cK (.int 5)) aNil)) (gN 5) cYes (cON strT (aCons (cO2 subT (cCall f__law_take [true, false] (aCons (cV 0) (aCons (cK (.int 30)) aNil))) (cK (.int 9))) aNil)))))))
noncomputable abbrev wdB : S := (cSeq (cAsg (cFr (cLc 6 [5] (iR1 (aCons (cK (.int 5)) aNil)) (gN 5) cYes (cON strT (aCons (cO2 subT (cCall f__law_take [true, false] (aCons (cV 0) (aCons (cK (.int 30)) aNil))) (cK (.int 9))) aNil)))) (gN 4))
  (cDrop (cApp 1 (cO2 addT (cO2 addT (cO2 addT (cK (.str "word ")) (cJoin " " (cV 4))) (cK (.str " "))) (cO2 ixT (cLst (aCons (cK (.str "a")) (aCons (cK (.str "b.")) (aCons (cK (.str "7")) (aCons (cK (.str "-3")) (aCons (cK (.str "it's")) aNil)))))) (cCall f__law_take [true, false] (aCons (cV 0) (aCons (cK (.int 5)) aNil))))))))
theorem addS' {a b : Str} (h : a.length + b.length ≤ 100000) : addT (.str a) (.str b) = some (.str (a ++ b)) := addS (sz (by omega))
theorem e_boxes (n : Nat) (hn : n ≤ 10) (N : Nat) (hN : N ≤ 100) (x2 : Option T) {e : LP.Env} (h : ∃ (rows : List Str) (a b : Int) (x3 x4 : Option T), e = [some (.lst true [.int a, .int b]), some (.lst true (rows.map T.str)), x2, x3, x4, none] ∧ rows.length ≤ N ∧ ∀ r ∈ rows, r.length ≤ 40) :
    ∃ e', loop (gN 3) bxB (rngI 0 n) e = some (.nx e') ∧ ∃ (rows : List Str) (a b : Int) (x3 x4 : Option T), e' = [some (.lst true [.int a, .int b]), some (.lst true (rows.map T.str)), x2, x3, x4, none] ∧ rows.length ≤ N + n ∧ ∀ r ∈ rows, r.length ≤ 40 := by
  obtain ⟨e', h1, h2⟩ := loop_rng (g := gN 3) (b := bxB) (lo := 0) (n := n) (env := e)
    (fun i e => ∃ (rows : List Str) (a b : Int) (x3 x4 : Option T), e = [some (.lst true [.int a, .int b]), some (.lst true (rows.map T.str)), x2, x3, x4, none] ∧ rows.length ≤ N + i ∧ ∀ r ∈ rows, r.length ≤ 40) h (by
    rintro i e hi ⟨rows, a, b, x3, x4, rfl, l, k⟩
    obtain ⟨ss, a2, b2, l5, k3, h5⟩ := e_five a b (some (.lst true (rows.map T.str))) x2 (some (.int (0 + (i : Int)))) x4
    obtain ⟨j1, j2⟩ := e_join5 l5 k3 true
    have z : (rows.map T.str).length < sizeLine := by rw [List.length_map]; exact szl (by omega)
    have d1 : ("box " : Str).length = 4 := rfl
    have ad : addT (.str "box ") (.str (Str.join " " ss)) = some (.str ("box " ++ Str.join " " ss)) := addS' (by omega)
    have r5 : inR 5 = true := inR_of (by omega) (by omega)
    refine ⟨[some (.lst true [.int a2, .int b2]), some (.lst true (rows.map T.str ++ [.str ("box " ++ Str.join " " ss)])), x2, some (.int (0 + (i : Int))), x4, none], ?_, rows ++ ["box " ++ Str.join " " ss], a2, b2, some (.int (0 + (i : Int))), x4, by simp, by simp; omega, fun r hr => ?_⟩
    · generalize rows.map T.str = RT at *
      generalize ss.map T.str = ST at *
      generalize Str.join " " ss = J at *
      generalize ("box " ++ J : Str) = BJ at *
      generalize (0 : Int) + (i : Int) = II at *
      simp [-loop_cons, -joinT_map, cO1, cJoin, r5, h5, j1, ad, z, sz]
    · rcases List.mem_append.mp hr with w | w
      · exact k r w
      · rw [List.mem_singleton.mp w, len_app]
        omega)
  exact ⟨e', h1, h2⟩
theorem pick5 (d : Int) (h0 : 0 ≤ d) (h1 : d < 5) : ∃ w : Str, ixT (.lst true [.str "a", .str "b.", .str "7", .str "-3", .str "it's"]) (.int d) = some (.str w) ∧ w.length ≤ 4 := by
  have : d = 0 ∨ d = 1 ∨ d = 2 ∨ d = 3 ∨ d = 4 := by omega
  rcases this with rfl | rfl | rfl | rfl | rfl
  · exact ⟨_, rfl, by decide +kernel⟩
  · exact ⟨_, rfl, by decide +kernel⟩
  · exact ⟨_, rfl, by decide +kernel⟩
  · exact ⟨_, rfl, by decide +kernel⟩
  · exact ⟨_, rfl, by decide +kernel⟩
theorem e_wds (n : Nat) (hn : n ≤ 10) (N : Nat) (hN : N ≤ 100) (x2 : Option T) {e : LP.Env} (h : ∃ (rows : List Str) (a b : Int) (x3 x4 : Option T), e = [some (.lst true [.int a, .int b]), some (.lst true (rows.map T.str)), x2, x3, x4, none] ∧ rows.length ≤ N ∧ ∀ r ∈ rows, r.length ≤ 40) :
    ∃ e', loop (gN 3) wdB (rngI 0 n) e = some (.nx e') ∧ ∃ (rows : List Str) (a b : Int) (x3 x4 : Option T), e' = [some (.lst true [.int a, .int b]), some (.lst true (rows.map T.str)), x2, x3, x4, none] ∧ rows.length ≤ N + n ∧ ∀ r ∈ rows, r.length ≤ 40 := by
  obtain ⟨e', h1, h2⟩ := loop_rng (g := gN 3) (b := wdB) (lo := 0) (n := n) (env := e)
    (fun i e => ∃ (rows : List Str) (a b : Int) (x3 x4 : Option T), e = [some (.lst true [.int a, .int b]), some (.lst true (rows.map T.str)), x2, x3, x4, none] ∧ rows.length ≤ N + i ∧ ∀ r ∈ rows, r.length ≤ 40) h (by
    rintro i e hi ⟨rows, a, b, x3, x4, rfl, l, k⟩
    obtain ⟨ss, a2, b2, l5, k3, h5⟩ := e_five a b (some (.lst true (rows.map T.str))) x2 (some (.int (0 + (i : Int)))) x4
    obtain ⟨d, a3, b3, t3, p3, q3⟩ := take_ok a2 b2 5 (by decide) (by decide)
    obtain ⟨w, pw, lw⟩ := pick5 d p3 q3
    obtain ⟨j1, j2⟩ := e_join5 l5 k3 false
    have fS := st_fz ss
    have rS := erL_of_fz fS
    have z : (rows.map T.str).length < sizeLine := by rw [List.length_map]; exact szl (by omega)
    have d1 : ("word " : Str).length = 5 := rfl
    have d2 : (" " : Str).length = 1 := rfl
    have ad1 : addT (.str "word ") (.str (Str.join " " ss)) = some (.str ("word " ++ Str.join " " ss)) := addS' (by omega)
    have l1 : ("word " ++ Str.join " " ss : Str).length ≤ 25 := by rw [len_app]; omega
    have ad2 : addT (.str ("word " ++ Str.join " " ss)) (.str " ") = some (.str ("word " ++ Str.join " " ss ++ " ")) := addS' (by omega)
    have l2 : ("word " ++ Str.join " " ss ++ " " : Str).length ≤ 26 := by rw [len_app]; omega
    have ad3 : addT (.str ("word " ++ Str.join " " ss ++ " ")) (.str w) = some (.str ("word " ++ Str.join " " ss ++ " " ++ w)) := addS' (by omega)
    have r5 : inR 5 = true := inR_of (by omega) (by omega)
    refine ⟨[some (.lst true [.int a3, .int b3]), some (.lst true (rows.map T.str ++ [.str ("word " ++ Str.join " " ss ++ " " ++ w)])), x2, some (.int (0 + (i : Int))), some (.lst false (ss.map T.str)), none], ?_, rows ++ ["word " ++ Str.join " " ss ++ " " ++ w], a3, b3, some (.int (0 + (i : Int))), some (.lst false (ss.map T.str)), by simp, by simp; omega, fun r hr => ?_⟩
    · generalize rows.map T.str = RT at *
      generalize ss.map T.str = ST at *
      generalize Str.join " " ss = J at *
      generalize ("word " ++ J ++ " " ++ w : Str) = BJ at *
      generalize ("word " ++ J ++ " " : Str) = BK at *
      generalize ("word " ++ J : Str) = BL at *
      generalize (0 : Int) + (i : Int) = II at *
      simp [-loop_cons, -joinT_map, -ixT_lst, cO1, cJoin, r5, h5, j1, fS, rS, t3, pw, ad1, ad2, ad3, z, sz]
    · rcases List.mem_append.mp hr with v | v
      · exact k r v
      · rw [List.mem_singleton.mp v, len_app]
        omega)
  exact ⟨e', h1, h2⟩
noncomputable abbrev lfB : S := (cSeq (cDrop (cApp 1 (cO2 addT (cK (.str "leaf ")) (cON strT (aCons (cV 2) aNil)))))
  (cSeq (cFor (iR1 (aCons (cCall f__law_take [true, false] (aCons (cV 0) (aCons (cK (.int 4)) aNil))) aNil)) (gN 3) bxB)
  (cFor (iR1 (aCons (cCall f__law_take [true, false] (aCons (cV 0) (aCons (cK (.int 4)) aNil))) aNil)) (gN 3) wdB)))
theorem e_rows (a b : Int) : ∃ (rows : List Str) (a' b' : Int), f__law_rows [.lst true [.int a, .int b]] = some (.lst true (rows.map T.str), [.lst true [.int a', .int b']]) ∧ rows.length ≤ 14 ∧ ∀ r ∈ rows, r.length ≤ 40 := by
  obtain ⟨d0, a0, b0, t0, p0, q0⟩ := take_ok a b 2 (by decide) (by decide)
  obtain ⟨n, hn⟩ : ∃ n : Nat, 1 + d0 = n := ⟨(1 + d0).toNat, by omega⟩
  obtain ⟨e', h1, rows, a', b', x2, x3, x4, rfl, l, k⟩ := loop_rng (g := gN 2) (b := lfB) (lo := 0) (n := n) (env := [some (.lst true [.int a0, .int b0]), some (.lst true []), none, none, none, none])
    (fun i e => ∃ (rows : List Str) (a b : Int) (x2 x3 x4 : Option T), e = [some (.lst true [.int a, .int b]), some (.lst true (rows.map T.str)), x2, x3, x4, none] ∧ rows.length ≤ 7 * i ∧ ∀ r ∈ rows, r.length ≤ 40)
    ⟨[], a0, b0, none, none, none, rfl, by simp, fun r hr => by cases hr⟩ (by
    rintro i e hi ⟨rows, a, b, x2, x3, x4, rfl, l, k⟩
    have st := strn (n := 0 + (i : Int)) (by omega) (by omega)
    have s3 := strI3 (n := 0 + (i : Int)) (by omega) (by omega)
    have d1 : ("leaf " : Str).length = 5 := rfl
    have ad1 : addT (.str "leaf ") (.str (strI (0 + (i : Int)))) = some (.str ("leaf " ++ strI (0 + (i : Int)))) := addS' (by omega)
    have z : (rows.map T.str).length < sizeLine := by rw [List.length_map]; exact szl (by omega)
    obtain ⟨d2, a2, b2, t2, p2, q2⟩ := take_ok a b 4 (by decide) (by decide)
    obtain ⟨n2, hn2⟩ : ∃ n : Nat, d2 = n := ⟨d2.toNat, by omega⟩
    subst hn2
    have lr : ("leaf " ++ strI (0 + (i : Int)) : Str).length ≤ 40 := by rw [len_app]; omega
    obtain ⟨e1, g1, rows1, a3, b3, x31, x41, rfl, l1, k1⟩ := e_boxes n2 (by omega) (7 * i + 1) (by omega) (some (.int (0 + (i : Int)))) (e := [some (.lst true [.int a2, .int b2]), some (.lst true ((rows ++ ["leaf " ++ strI (0 + (i : Int))]).map T.str)), some (.int (0 + (i : Int))), x3, x4, none])
      ⟨_, a2, b2, x3, x4, rfl, by simp; omega, fun r hr => by
        rcases List.mem_append.mp hr with v | v
        · exact k r v
        · rw [List.mem_singleton.mp v]; exact lr⟩
    obtain ⟨d4, a4, b4, t4, p4, q4⟩ := take_ok a3 b3 4 (by decide) (by decide)
    obtain ⟨n4, hn4⟩ : ∃ n : Nat, d4 = n := ⟨d4.toNat, by omega⟩
    subst hn4
    obtain ⟨e2, g2, rows2, a5, b5, x32, x42, rfl, l2, k2⟩ := e_wds n4 (by omega) (7 * i + 1 + n2) (by omega) (some (.int (0 + (i : Int)))) (e := [some (.lst true [.int a4, .int b4]), some (.lst true (rows1.map T.str)), some (.int (0 + (i : Int))), x31, x41, none])
      ⟨_, a4, b4, x31, x41, rfl, l1, k1⟩
    refine ⟨[some (.lst true [.int a5, .int b5]), some (.lst true (rows2.map T.str)), some (.int (0 + (i : Int))), x32, x42, none], ?_, rows2, a5, b5, _, _, _, rfl, by omega, k2⟩
    have r2 : inR (n2 : Int) = true := inR_of (by omega) (by omega)
    have r4 : inR (n4 : Int) = true := inR_of (by omega) (by omega)
    have m2 : (n2 : Int).toNat = n2 := by omega
    have m4 : (n4 : Int).toNat = n4 := by omega
    rw [List.map_append, List.map_cons, List.map_nil] at g1
    unfold lfB
    generalize bxB = BB at *
    generalize wdB = WB at *
    generalize rows.map T.str = RT at *
    generalize rows1.map T.str = RT1 at *
    generalize rows2.map T.str = RT2 at *
    generalize ("leaf " ++ strI (0 + (i : Int)) : Str) = BJ at *
    generalize strI (0 + (i : Int)) = SI at *
    generalize (0 : Int) + (i : Int) = II at *
    simp [-loop_cons, -strT_int, st, ad1, z, t2, r2, m2, g1, t4, r4, m4, g2, sz])
  refine ⟨rows, a', b', ?_, by omega, k⟩
  have r1 : inR (n : Int) = true := inR_of (by omega) (by omega)
  have m1 : (n : Int).toNat = n := by omega
  have fz := st_fz rows
  generalize rows.map T.str = RT at *
  generalize hB : lfB = BB at *
  unfold f__law_rows b__law_rows
  simp only [hB]
  simp [-loop_cons, t0, hn, r1, m1, h1, fz, sz]
theorem sum_set : ∀ (l : List Str) (i : Nat) (x : Str), ((l.set i x).map (·.length)).sum ≤ (l.map (·.length)).sum + x.length
  | [], i, x => by simp
  | y :: r, 0, x => by simp only [List.set_cons_zero, List.map_cons, List.sum_cons]; omega
  | y :: r, i + 1, x => by
    have := sum_set r i x
    simp only [List.set_cons_succ, List.map_cons, List.sum_cons]
    omega
theorem sum_erase : ∀ (l : List Str) (i : Nat), ((l.eraseIdx i).map (·.length)).sum ≤ (l.map (·.length)).sum
  | [], i => by simp
  | y :: r, 0 => by simp only [List.eraseIdx_cons_zero, List.map_cons, List.sum_cons]; omega
  | y :: r, i + 1 => by
    have := sum_erase r i
    simp only [List.eraseIdx_cons_succ, List.map_cons, List.sum_cons]
    omega
theorem sum_ins (l : List Str) (i : Nat) (x : Str) : ((l.take i ++ [x] ++ l.drop i).map (·.length)).sum = (l.map (·.length)).sum + x.length := by
  have h : (l.map (·.length)).sum = ((l.take i).map (·.length)).sum + ((l.drop i).map (·.length)).sum := by
    rw [← List.sum_append, ← List.map_append, List.take_append_drop]
  simp only [List.map_append, List.sum_append, List.map_cons, List.map_nil, List.sum_cons, List.sum_nil]
  omega
theorem ixN_of {n : Nat} {i : Int} (h0 : 0 ≤ i) (h1 : i < n) : ixN n i = some i.toNat := by
  unfold ixN
  rw [if_pos h0, if_pos h1]
theorem erase_map {α β : Type} (f : α → β) : ∀ (l : List α) (i : Nat), (l.map f).eraseIdx i = (l.eraseIdx i).map f
  | [], _ => rfl
  | y :: r, 0 => rfl
  | y :: r, i + 1 => by simp only [List.map_cons, List.eraseIdx_cons_succ]; rw [erase_map f r i]
noncomputable abbrev btl : S := (cSeq (cIfS (cTest (cO2 eqT (cV 2) (cK (.int 3)))) (cAsg (cTup (aCons (cO2 ixT (cV 5) (cV 7)) (aCons (cO2 ixT (cV 5) (cV 6)) aNil))) (gUn 2 (gNc (gIx 5 (cV 6)) (gNc (gIx 5 (cV 7)) gN0)))) cSkip)
  (cSeq (cIfS (cTest (cO2 eqT (cV 2) (cK (.int 4)))) (cPopV 5 (fun _ => some []) 6) cSkip)
  (cSeq (cIfS (cTest (cO2 eqT (cV 2) (cK (.int 5)))) (cDrop (cIns 5 (cV 6) (cO2 ixT (cV 5) (cV 7)))) cSkip)
  (cSeq (cIfS (cTest (cO2 gtT (cV 2) (cK (.int 5)))) (cAsg (cO2 ixT (cV 8) (cCall f__law_take [true, false] (aCons (cV 1) (aCons (cK (.int 20)) aNil)))) (gIx 5 (cV 6))) cSkip)
  (cRet (cJoin " " (cV 5)))))))
theorem e_btl (row : Str) (a b way one other : Int) (x3 x4 : Option T) (ws : List Str) (OD : List T) (L : Nat) (hL : L ≤ 1000) (w0 : 3 ≤ way) (w1 : way < 8) (o0 : 0 ≤ one) (o1 : one < ws.length) (p0 : 0 ≤ other) (p1 : other < ws.length)
    (hs : (ws.map (·.length)).sum + ws.length ≤ L + 1) (hx : ∀ w ∈ ws, w.length ≤ L) (hOD : ∀ d : Int, 0 ≤ d → d < 20 → ∃ s : Str, ixT (.lst true OD) (.int d) = some (.str s) ∧ s.length ≤ 21) :
    ∃ (row' : Str) (a' b' : Int) (rest : LP.Env), btl [some (.str row), some (.lst true [.int a, .int b]), some (.int way), x3, x4, some (.lst true (ws.map T.str)), some (.int one), some (.int other), some (.lst true OD)] = some (.rt (.str row') (some (.str row) :: some (.lst true [.int a', .int b']) :: rest)) ∧ row'.length ≤ 3 * L + 30 := by
  have lm : (ws.map T.str).length = ws.length := List.length_map ..
  have g1 : ws[one.toNat]? = some (ws[one.toNat]'(by omega)) := List.getElem?_eq_getElem (by omega)
  have g2 : ws[other.toNat]? = some (ws[other.toNat]'(by omega)) := List.getElem?_eq_getElem (by omega)
  have m1 : (ws[one.toNat]'(by omega)) ∈ ws := List.getElem_mem _
  have m2 : (ws[other.toNat]'(by omega)) ∈ ws := List.getElem_mem _
  generalize (ws[one.toNat]'(by omega)) = s1 at *
  generalize (ws[other.toNat]'(by omega)) = s2 at *
  have L1 := hx s1 m1
  have L2 := hx s2 m2
  have i1 : atI (ws.map T.str) one = some (.str s1) := by rw [atI_map, atI_of o0 g1]; rfl
  have i2 : atI (ws.map T.str) other = some (.str s2) := by rw [atI_map, atI_of p0 g2]; rfl
  have n1 : ixN (ws.map T.str).length one = some one.toNat := by rw [lm]; exact ixN_of o0 o1
  have n2 : ixN (ws.map T.str).length other = some other.toNat := by rw [lm]; exact ixN_of p0 p1
  have fz := st_fz ws
  have r1 : inR one = true := inR_of (by omega) (by omega)
  have zl : (ws.map T.str).length < sizeLine := by rw [lm]; exact szl (by omega)
  have jn : ∀ ws' : List Str, (ws'.map (·.length)).sum + ws'.length ≤ 3 * L + 30 → ∃ r : Str, joinT " " (.lst true (ws'.map T.str)) = some (.str r) ∧ r.length ≤ 3 * L + 30 := fun ws' h => by
    obtain ⟨j1, j2⟩ := joinS ws' true (by omega)
    exact ⟨_, j1, by omega⟩
  have hway : way = 3 ∨ way = 4 ∨ way = 5 ∨ 5 < way := by omega
  rcases hway with rfl | rfl | rfl | h5
  · have e1 : ((ws.map T.str).set one.toNat (.str s2)).set other.toNat (.str s1) = ((ws.set one.toNat s2).set other.toNat s1).map T.str := by rw [List.map_set, List.map_set]
    have su1 := sum_set ws one.toNat s2
    have su2 := sum_set (ws.set one.toNat s2) other.toNat s1
    obtain ⟨r, j1, j2⟩ := jn ((ws.set one.toNat s2).set other.toNat s1) (by rw [List.length_set, List.length_set]; omega)
    rw [← e1] at j1
    have n2' : ixN ((ws.map T.str).set one.toNat (.str s2)).length other = some other.toNat := by rw [List.length_set]; exact n2
    refine ⟨r, a, b, [some (.int 3), x3, x4, some (.lst true (((ws.map T.str).set one.toNat (.str s2)).set other.toNat (.str s1))), some (.int one), some (.int other), some (.lst true OD)], ?_, j2⟩
    generalize ws.map T.str = WT at *
    simp [-joinT_map, cO1, cJoin, i1, i2, n1, n2, n2', j1, sz]
  · obtain ⟨r, j1, j2⟩ := jn (ws.eraseIdx one.toNat) (by
      have := sum_erase ws one.toNat
      have := List.length_eraseIdx_le ws one.toNat
      omega)
    rw [← erase_map] at j1
    refine ⟨r, a, b, [some (.int 4), x3, x4, some (.lst true ((ws.map T.str).eraseIdx one.toNat)), some (.int one), some (.int other), some (.lst true OD)], ?_, j2⟩
    generalize ws.map T.str = WT at *
    simp [-joinT_map, cO1, cJoin, slotT, LP.intAt, pthL, gtP, stP, n1, r1, j1]
  · obtain ⟨r, j1, j2⟩ := jn (ws.take one.toNat ++ [s2] ++ ws.drop one.toNat) (by
      rw [sum_ins]
      simp only [List.length_append, List.length_take, List.length_drop, List.length_cons, List.length_nil]
      omega)
    rw [List.map_append, List.map_append, List.map_take, List.map_drop, List.map_cons, List.map_nil] at j1
    refine ⟨r, a, b, [some (.int 5), x3, x4, some (.lst true ((ws.map T.str).take one.toNat ++ [.str s2] ++ (ws.map T.str).drop one.toNat)), some (.int one), some (.int other), some (.lst true OD)], ?_, j2⟩
    generalize ws.map T.str = WT at *
    simp [-joinT_map, cO1, cJoin, i2, r1, zl, o0] at j1 ⊢
    simp [j1]
  · obtain ⟨d, a2, b2, t, p, q⟩ := take_ok a b 20 (by decide) (by decide)
    obtain ⟨so, io, lo⟩ := hOD d p q
    obtain ⟨r, j1, j2⟩ := jn (ws.set one.toNat so) (by
      have := sum_set ws one.toNat so
      rw [List.length_set]
      omega)
    rw [List.map_set] at j1
    refine ⟨r, a2, b2, [some (.int way), x3, x4, some (.lst true ((ws.map T.str).set one.toNat (.str so))), some (.int one), some (.int other), some (.lst true OD)], ?_, j2⟩
    have n3 : ¬ way = 3 := by omega
    have n4 : ¬ way = 4 := by omega
    have n5 : ¬ way = 5 := by omega
    generalize ws.map T.str = WT at *
    simp [-ixT_lst, -joinT_map, cO1, cJoin, n3, n4, n5, h5, t, io, n1, j1]
def ODs : List Str := ["", "-0", "00", "07", "+1", "-", "1.0", "1_0", "999999999", "1000000000", "-999999999", "-1000000000", "leaf", "box", "word", repS "x" 20, repS "x" 21, "a*b", "1", "-05"]
theorem ODs_len : ∀ s ∈ ODs, s.length ≤ 21 := by decide +kernel
theorem e_odd (d : Int) (h0 : 0 ≤ d) (h1 : d < 20) : ∃ s : Str, ixT (.lst true (ODs.map T.str)) (.int d) = some (.str s) ∧ s.length ≤ 21 := by
  have hl : d.toNat < ODs.length := by
    have : ODs.length = 20 := rfl
    omega
  have g := List.getElem?_eq_getElem hl
  refine ⟨ODs[d.toNat], ?_, ODs_len _ (List.getElem_mem hl)⟩
  have e : atI (ODs.map T.str) d = some (.str ODs[d.toNat]) := by rw [atI_map, atI_of h0 g]; rfl
  generalize ODs[d.toNat] = s at *
  generalize ODs.map T.str = OT at *
  simp [e]
def SGN : Str := "07- _ax+.\t\n|*{~"
theorem e_sgn (i : Int) (h0 : 0 ≤ i) (h1 : i < 15) : ∃ c : Nat, ixT (.str SGN) (.int i) = some (.str ⟨#[c]⟩) :=
  ix_str (L := SGN) (n := 15) (by decide +kernel) (okS (by decide +kernel)) i h0 h1
theorem e_bent (row : Str) (a b : Int) (L : Nat) (hr : row.length ≤ L) (hL : L ≤ 600) : ∃ (row' : Str) (a' b' : Int), f__law_bent [.str row, .lst true [.int a, .int b]] = some (.str row', [.str row, .lst true [.int a', .int b']]) ∧ row'.length ≤ 3 * L + 30 := by
  obtain ⟨way, a0, b0, t0, p0, q0⟩ := take_ok a b 8 (by decide) (by decide)
  have ll := len_str (s := row) (by omega)
  obtain ⟨at_, a1, b1, t1, p1', q1⟩ := take_ok a0 b0 (((row.length : Nat) : Int) + 1) (by omega) (by omega)
  obtain ⟨sg, a2, b2, t2, p2, q2⟩ := take_ok a1 b1 15 (by decide) (by decide)
  obtain ⟨c, hc⟩ := e_sgn sg p2 q2
  have sp := sp_str (s := row) (by omega)
  have ws1 := words_sum row
  have wle : ∀ w ∈ wordsOf row, w.length ≤ L := fun w hw => Nat.le_trans (word_le hw) hr
  have wn := List.length_pos_iff.mpr (words_ne row)
  have wl := words_le row
  have lw : lenT [.lst true ((wordsOf row).map T.str)] = some (.int (((wordsOf row).length : Nat) : Int)) := by simp
  obtain ⟨one, a3, b3, t3, p3, q3⟩ := take_ok a2 b2 (((wordsOf row).length : Nat) : Int) (by omega) (by omega)
  obtain ⟨oth, a4, b4, t4, p4, q4⟩ := take_ok a3 b3 (((wordsOf row).length : Nat) : Int) (by omega) (by omega)
  have sl := sl_str (s := row) (by omega)
  have lc1 := len_cut row none (some at_)
  have lc2 := len_cut row (some at_) none
  have lc3 := len_cut row (some (at_ + 1)) none
  have l1 : (⟨#[c]⟩ : Str).length = 1 := rfl
  have ra : inR at_ = true := inR_of (by omega) (by omega)
  have ra2 : inR (at_ + 1) = true := inR_of (by omega) (by omega)
  have z1 : addT (.str (cutS row none (some at_))) (.str ⟨#[c]⟩) = some (.str (cutS row none (some at_) ++ ⟨#[c]⟩)) := addS' (by omega)
  have z1l : (cutS row none (some at_) ++ ⟨#[c]⟩ : Str).length ≤ L + 1 := by rw [len_app]; omega
  have z2 : addT (.str (cutS row none (some at_) ++ ⟨#[c]⟩)) (.str (cutS row (some at_) none)) = some (.str (cutS row none (some at_) ++ ⟨#[c]⟩ ++ cutS row (some at_) none)) := addS' (by omega)
  have z3 : addT (.str (cutS row none (some at_))) (.str (cutS row (some (at_ + 1)) none)) = some (.str (cutS row none (some at_) ++ cutS row (some (at_ + 1)) none)) := addS' (by omega)
  have z4 : addT (.str (cutS row none (some at_) ++ ⟨#[c]⟩)) (.str (cutS row (some (at_ + 1)) none)) = some (.str (cutS row none (some at_) ++ ⟨#[c]⟩ ++ cutS row (some (at_ + 1)) none)) := addS' (by omega)
  have s1 := sl none (some at_)
  have s2 := sl (some at_) none
  have s3 := sl (some (at_ + 1)) none
  unfold SGN at hc
  have hway : way = 0 ∨ way = 1 ∨ way = 2 ∨ 3 ≤ way := by omega
  rcases hway with rfl | rfl | rfl | h3
  · refine ⟨_, a2, b2, ?_, (by rw [len_app]; omega : (cutS row none (some at_) ++ ⟨#[c]⟩ ++ cutS row (some at_) none : Str).length ≤ 3 * L + 30)⟩
    generalize cutS row none (some at_) = C1 at *
    generalize cutS row (some at_) none = C2 at *
    generalize (⟨#[c]⟩ : Str) = C3 at *
    generalize ((row.length : Nat) : Int) = RL at *
    simp [-ixT_lst, f__law_bent, b__law_bent, t0, ll, t1, t2, hc, s1, s2, z1, z2, ra]
  · refine ⟨_, a2, b2, ?_, (by rw [len_app]; omega : (cutS row none (some at_) ++ cutS row (some (at_ + 1)) none : Str).length ≤ 3 * L + 30)⟩
    generalize cutS row none (some at_) = C1 at *
    generalize cutS row (some (at_ + 1)) none = C2 at *
    generalize (⟨#[c]⟩ : Str) = C3 at *
    generalize ((row.length : Nat) : Int) = RL at *
    simp [-ixT_lst, f__law_bent, b__law_bent, t0, ll, t1, t2, hc, s1, s3, z3, ra, ra2]
  · refine ⟨_, a2, b2, ?_, (by rw [len_app]; omega : (cutS row none (some at_) ++ ⟨#[c]⟩ ++ cutS row (some (at_ + 1)) none : Str).length ≤ 3 * L + 30)⟩
    generalize cutS row none (some at_) = C1 at *
    generalize cutS row (some (at_ + 1)) none = C2 at *
    generalize (⟨#[c]⟩ : Str) = C3 at *
    generalize ((row.length : Nat) : Int) = RL at *
    simp [-ixT_lst, f__law_bent, b__law_bent, t0, ll, t1, t2, hc, s1, s3, z1, z4, ra, ra2]
  · obtain ⟨row', a5, b5, rest, hb, lr⟩ := e_btl row a4 b4 way one oth (some (.int at_)) (some (.str ⟨#[c]⟩)) (wordsOf row) (ODs.map T.str) L (by omega) h3 q0 p3 q3 p4 q4 (by omega) wle e_odd
    refine ⟨row', a5, b5, ?_, lr⟩
    have n0 : ¬ way = 0 := by omega
    have n1 : ¬ way = 1 := by omega
    have n2 : ¬ way = 2 := by omega
    have x20 : okRep ("x" : Str).length 20 = true := okRep_of (by decide +kernel) (by decide) (by decide)
    have x21 : okRep ("x" : Str).length 21 = true := okRep_of (by decide +kernel) (by decide) (by decide)
    have e20 : repST (.str "x") (.int 20) = some (.str (repS "x" 20)) := by rw [repST_def, if_pos ⟨x20, by decide +kernel⟩]
    have e21 : repST (.str "x") (.int 21) = some (.str (repS "x" 21)) := by rw [repST_def, if_pos ⟨x21, by decide +kernel⟩]
    have eo : ODs.map T.str = [.str "", .str "-0", .str "00", .str "07", .str "+1", .str "-", .str "1.0", .str "1_0", .str "999999999", .str "1000000000", .str "-999999999", .str "-1000000000", .str "leaf", .str "box", .str "word", .str (repS "x" 20), .str (repS "x" 21), .str "a*b", .str "1", .str "-05"] := rfl
    rw [eo] at hb
    generalize repS "x" 20 = X20 at *
    generalize repS "x" 21 = X21 at *
    generalize (⟨#[c]⟩ : Str) = C3 at *
    generalize ((row.length : Nat) : Int) = RL at *
    generalize (((wordsOf row).length : Nat) : Int) = WL at *
    generalize (wordsOf row).map T.str = WT at *
    generalize hB : btl = BB at *
    unfold f__law_bent b__law_bent
    simp only [hB]
    simp [-ixT_lst, -repST_def, -lenT_lst, cO1, t0, ll, t1, t2, hc, n0, n1, n2, sp, lw, t3, t4, e20, e21, hb, sz]
theorem one_of4 (k : Int) (h0 : 0 ≤ k) (h1 : k < 4) : ∃ s : Str, slT (.lst true [.str "", .str "leaf", .str "leaf 1", .str "box 0 0 0 0 0"]) (some k) (some (k + 1)) = some (.lst true [.str s]) ∧ s.length ≤ 13 := by
  have : k = 0 ∨ k = 1 ∨ k = 2 ∨ k = 3 := by omega
  rcases this with rfl | rfl | rfl | rfl
  · exact ⟨_, rfl, by decide +kernel⟩
  · exact ⟨_, rfl, by decide +kernel⟩
  · exact ⟨_, rfl, by decide +kernel⟩
  · exact ⟨_, rfl, by decide +kernel⟩
theorem mem_ins {α : Type} {l : List α} {i : Nat} {x y : α} (h : y ∈ l.take i ++ [x] ++ l.drop i) : y = x ∨ y ∈ l := by
  rcases List.mem_append.mp h with h | h
  · rcases List.mem_append.mp h with h | h
    · exact .inr (List.mem_of_mem_take h)
    · exact .inl (List.mem_singleton.mp h)
  · exact .inr (List.mem_of_mem_drop h)
theorem e_spoil (rows : List Str) (a b : Int) (N L : Nat) (hN : rows.length ≤ N) (hN2 : N ≤ 100) (hr : ∀ r ∈ rows, r.length ≤ L) (hL : L ≤ 600) : ∃ (rows' : List Str) (a' b' : Int), f__law_spoiled [.lst false (rows.map T.str), .lst true [.int a, .int b]] = some (.lst true (rows'.map T.str), [.lst false (rows.map T.str), .lst true [.int a', .int b']]) ∧ rows'.length ≤ N + 1 ∧ ∀ r ∈ rows', r.length ≤ 3 * L + 30 := by
  obtain ⟨way, a0, b0, t0, p0, q0⟩ := take_ok a b 8 (by decide) (by decide)
  have ll : lenT [.lst false (rows.map T.str)] = some (.int ((rows.length : Nat) : Int)) := by simp
  have fz := st_fz rows
  have lm : (rows.map T.str).length = rows.length := List.length_map ..
  have mx : max2T [.int 1, .int ((rows.length : Nat) : Int)] = some (.int (max 1 ((rows.length : Nat) : Int))) := by
    rw [max2T_ints]
    by_cases h : ((rows.length : Nat) : Int) > 1
    · rw [if_pos h, Int.max_eq_right (by omega)]
    · rw [if_neg h, Int.max_eq_left (by omega)]
  obtain ⟨at_, a1, b1, t1, p1', q1⟩ := take_ok a0 b0 (max 1 ((rows.length : Nat) : Int)) (by omega) (by omega)
  have en := eqT_nil false true (rows.map T.str) (st_dle 14 rows)
  cases hrw : rows with
  | nil =>
    obtain ⟨s, hs, ls⟩ := one_of4 (way % 4) (Int.emod_nonneg _ (by decide)) (Int.emod_lt_of_pos _ (by decide))
    refine ⟨[s], a1, b1, ?_, by simp, fun r h => by rw [List.mem_singleton.mp h]; omega⟩
    rw [hrw] at ll mx t1 en fz
    simp only [List.map_nil] at ll en fz ⊢
    have en : eqT (.lst false []) (.lst true []) = some (.bl true) := en
    have ll : lenT [.lst false []] = some (.int 0) := ll
    have mx : max2T [.int 1, .int 0] = some (.int 1) := rfl
    have t1 : f__law_take [.lst true [.int a0, .int b0], .int 1] = _ := t1
    simp [-slT_lst, f__law_spoiled, b__law_spoiled, t0, ll, mx, t1, en, hs, sz]
  | cons r0 rs =>
    rw [← hrw]
    have hl : 0 < rows.length := by rw [hrw]; simp
    have ie : (rows.map T.str).isEmpty = false := by rw [hrw]; rfl
    rw [ie] at en
    clear hrw
    have mxe : max 1 ((rows.length : Nat) : Int) = ((rows.length : Nat) : Int) := Int.max_eq_right (by omega)
    rw [mxe] at mx t1 q1
    have g1 : rows[at_.toNat]? = some (rows[at_.toNat]'(by omega)) := List.getElem?_eq_getElem (by omega)
    have m1 : (rows[at_.toNat]'(by omega)) ∈ rows := List.getElem_mem _
    generalize (rows[at_.toNat]'(by omega)) = s1 at *
    have L1 := hr s1 m1
    have i1 : atI (rows.map T.str) at_ = some (.str s1) := by rw [atI_map, atI_of p1' g1]; rfl
    have n1 : ixN (rows.map T.str).length at_ = some at_.toNat := by rw [lm]; exact ixN_of p1' q1
    have ra : inR at_ = true := inR_of (by omega) (by omega)
    have zl : (rows.map T.str).length < sizeLine := by rw [lm]; exact szl (by omega)
    have gm : (rows.map T.str)[at_.toNat]? = some (.str s1) := by rw [List.getElem?_map, g1]; rfl
    have hway : way = 0 ∨ way = 1 ∨ way = 2 ∨ way = 3 ∨ 3 < way := by omega
    rcases hway with rfl | rfl | rfl | rfl | h3
    · refine ⟨rows, a1, b1, ?_, by omega, fun r h => by have := hr r h; omega⟩
      generalize rows.map T.str = RT at *
      generalize ((rows.length : Nat) : Int) = RL at *
      simp [-max2T_ints, f__law_spoiled, b__law_spoiled, t0, ll, mx, t1, en, fz]
    · refine ⟨rows.eraseIdx at_.toNat, a1, b1, ?_, by have := List.length_eraseIdx_le rows at_.toNat; omega, fun r h => by have := hr r (List.mem_of_mem_eraseIdx h); omega⟩
      rw [← erase_map]
      generalize rows.map T.str = RT at *
      generalize ((rows.length : Nat) : Int) = RL at *
      simp [-max2T_ints, f__law_spoiled, b__law_spoiled, slotT, LP.intAt, pthL, gtP, stP, t0, ll, mx, t1, en, fz, n1, ra]
    · refine ⟨rows.take at_.toNat ++ [s1] ++ rows.drop at_.toNat, a1, b1, ?_, by
        simp only [List.length_append, List.length_take, List.length_drop, List.length_cons, List.length_nil]
        omega, fun r h => ?_⟩
      · rw [List.map_append, List.map_append, List.map_take, List.map_drop, List.map_cons, List.map_nil]
        generalize rows.map T.str = RT at *
        generalize ((rows.length : Nat) : Int) = RL at *
        simp [-max2T_ints, f__law_spoiled, b__law_spoiled, t0, ll, mx, t1, en, fz, i1, ra, p1', zl]
      · rcases mem_ins h with rfl | h
        · omega
        · have := hr r h; omega
    · obtain ⟨d, a2, b2, t2, p2, q2⟩ := take_ok a1 b1 ((rows.length : Nat) : Int) (by omega) (by omega)
      have rd : inR d = true := inR_of (by omega) (by omega)
      refine ⟨(rows.eraseIdx at_.toNat).take d.toNat ++ [s1] ++ (rows.eraseIdx at_.toNat).drop d.toNat, a2, b2, ?_, by
        have := List.length_eraseIdx_le rows at_.toNat
        simp only [List.length_append, List.length_take, List.length_drop, List.length_cons, List.length_nil]
        omega, fun r h => ?_⟩
      · have zl2 : ((rows.map T.str).eraseIdx at_.toNat).length < sizeLine := Nat.lt_of_le_of_lt (List.length_eraseIdx_le _ _) zl
        rw [List.map_append, List.map_append, List.map_take, List.map_drop, List.map_cons, List.map_nil, ← erase_map]
        generalize rows.map T.str = RT at *
        generalize ((rows.length : Nat) : Int) = RL at *
        generalize hER : RT.eraseIdx at_.toNat = ER at *
        simp [-max2T_ints, f__law_spoiled, b__law_spoiled, LP.intAt, t0, ll, mx, t1, en, fz, n1, gm, ra, t2, hER, rd, p2, zl2]
      · rcases mem_ins h with rfl | h
        · omega
        · have := hr r (List.mem_of_mem_eraseIdx h); omega
    · obtain ⟨row', a2, b2, hb, lb⟩ := e_bent s1 a1 b1 L L1 hL
      refine ⟨rows.set at_.toNat row', a2, b2, ?_, by rw [List.length_set]; omega, fun r h => ?_⟩
      · rw [List.map_set]
        have n1' : ¬ way = 1 := by omega
        have n2' : ¬ way = 2 := by omega
        have n3' : ¬ way = 3 := by omega
        generalize rows.map T.str = RT at *
        generalize ((rows.length : Nat) : Int) = RL at *
        simp [-max2T_ints, f__law_spoiled, b__law_spoiled, t0, ll, mx, t1, en, fz, i1, n1, hb, h3, n1', n2', n3']
      · rcases List.mem_or_eq_of_mem_set h with h | rfl
        · have := hr r h; omega
        · exact lb
theorem law_true (ns : List Int) (hn : ns.length ≤ 63) : f_law [.scr ns] = some (.bl true, [.scr ns]) := by
  obtain ⟨a, b, st⟩ := stream_ok ns hn 0 (by decide) (by decide)
  obtain ⟨R0, a0, b0, h0, l0, k0⟩ := e_rows a b
  obtain ⟨R1, a1, b1, h1, l1, k1⟩ := e_spoil R0 a0 b0 14 40 l0 (by omega) k0 (by omega)
  obtain ⟨R2, a2, b2, h2, l2, k2⟩ := e_spoil R1 a1 b1 15 150 l1 (by omega) k1 (by omega)
  have q0 := e_asked (rows := R0) ⟨by omega, fun r h => by have := k0 r h; omega⟩
  have q1 := e_asked (rows := R1) ⟨by omega, fun r h => by have := k1 r h; omega⟩
  have q2 := e_asked (rows := R2) ⟨by omega, fun r h => by have := k2 r h; omega⟩
  have q3 := e_asked (rows := []) ⟨by simp, fun r h => by cases h⟩
  rw [List.map_nil] at q3
  have f0 := st_fz R0
  have f1 := st_fz R1
  have f2 := st_fz R2
  have e0 := erL_of_fz f0
  have e1 := erL_of_fz f1
  have e2 := erL_of_fz f2
  have r2 : rngI 0 2 = [.int 0, .int 1] := rfl
  have ir : inR 2 = true := inR_of (by omega) (by omega)
  generalize R0.map T.str = M0 at *
  generalize R1.map T.str = M1 at *
  generalize R2.map T.str = M2 at *
  simp [f_law, b_law, st, h0, f0, e0, ir, r2, h1, f1, e1, q1, h2, f2, e2, q2, q0, q3]
end Bleafpress_k55_drawings_refused
namespace Bleafpress_k55_drawings_refused
open PySem L2 LP
def topS (i : Nat) : Stmt := PySem.Challenge.pw_leafpress_k55_drawings_refused.main.body.getD i (.Pass ⟨0, 0, 0, 0⟩)
structure Gs (K : PySem.W.Frag) (mg : Str → Option Value) (w : World) : Prop where
  z_ValueError : mg "ValueError" = none
  z_int : mg "int" = none
  z_isinstance : mg "isinstance" = none
  z_len : mg "len" = none
  z_list : mg "list" = none
  z_max : mg "max" = none
  z_range : mg "range" = none
  z_str : mg "str" = none
  z_tuple : mg "tuple" = none
  kk_FIGURES : ∃ t, mg "FIGURES" = some (.str "0123456789" t)
  kk_MOST_FIGURES : ∃ t, mg "MOST_FIGURES" = some (.int 9 t)
  kk_MOST_SIGNS : ∃ t, mg "MOST_SIGNS" = some (.int 20 t)
  kk_WORD_SIGNS : ∃ t, mg "WORD_SIGNS" = some (.str "abcdefghijklmnopqrstuvwxyzABCDEFGHIJKLMNOPQRSTUVWXYZ0123456789.,-;:'()!?" t)
  y_NoBook : mg "NoBook" = some (.ref (adr mg "NoBook"))
  y_NoDrawing : mg "NoDrawing" = some (.ref (adr mg "NoDrawing"))
  y_NoFace : mg "NoFace" = some (.ref (adr mg "NoFace"))
  y_NoLeaf : mg "NoLeaf" = some (.ref (adr mg "NoLeaf"))
  y_NoNode : mg "NoNode" = some (.ref (adr mg "NoNode"))
  y_NoPart : mg "NoPart" = some (.ref (adr mg "NoPart"))
  y_NoRule : mg "NoRule" = some (.ref (adr mg "NoRule"))
  y_NoSheet : mg "NoSheet" = some (.ref (adr mg "NoSheet"))
  y_PressError : mg "PressError" = some (.ref (adr mg "PressError"))
  x_NoDrawing : ExO K (adr mg "NoDrawing")
  w_NoDrawing : ExcC K (adr mg "NoDrawing")
  h_NoDrawing_NoDrawing : PySem.W.exmOne K (.ref (adr mg "NoDrawing")) (.ref (adr mg "NoDrawing")) = some true
  h_NoDrawing_PressError : PySem.W.exmOne K (.ref (adr mg "NoDrawing")) (.ref (adr mg "PressError")) = some true
  i_NoDrawing_NoBook : PySem.W.kitOne K (.ref (adr mg "NoDrawing")) (.ref (adr mg "NoBook")) = some false
  i_NoDrawing_NoFace : PySem.W.kitOne K (.ref (adr mg "NoDrawing")) (.ref (adr mg "NoFace")) = some false
  i_NoDrawing_NoLeaf : PySem.W.kitOne K (.ref (adr mg "NoDrawing")) (.ref (adr mg "NoLeaf")) = some false
  i_NoDrawing_NoNode : PySem.W.kitOne K (.ref (adr mg "NoDrawing")) (.ref (adr mg "NoNode")) = some false
  i_NoDrawing_NoPart : PySem.W.kitOne K (.ref (adr mg "NoDrawing")) (.ref (adr mg "NoPart")) = some false
  i_NoDrawing_NoRule : PySem.W.kitOne K (.ref (adr mg "NoDrawing")) (.ref (adr mg "NoRule")) = some false
  i_NoDrawing_NoSheet : PySem.W.kitOne K (.ref (adr mg "NoDrawing")) (.ref (adr mg "NoSheet")) = some false
  i_NoDrawing_ValueError : PySem.W.kitOne K (.ref (adr mg "NoDrawing")) (.type "ValueError") = some true
theorem Gs.k_FIGURES {K : PySem.W.Frag} {mg : Str → Option Value} {w : World} (G : Gs K mg w) : mg "FIGURES" = some (.str "0123456789" G.kk_FIGURES.choose) := G.kk_FIGURES.choose_spec
theorem Gs.k_MOST_FIGURES {K : PySem.W.Frag} {mg : Str → Option Value} {w : World} (G : Gs K mg w) : mg "MOST_FIGURES" = some (.int 9 G.kk_MOST_FIGURES.choose) := G.kk_MOST_FIGURES.choose_spec
theorem Gs.k_MOST_SIGNS {K : PySem.W.Frag} {mg : Str → Option Value} {w : World} (G : Gs K mg w) : mg "MOST_SIGNS" = some (.int 20 G.kk_MOST_SIGNS.choose) := G.kk_MOST_SIGNS.choose_spec
theorem Gs.k_WORD_SIGNS {K : PySem.W.Frag} {mg : Str → Option Value} {w : World} (G : Gs K mg w) : mg "WORD_SIGNS" = some (.str "abcdefghijklmnopqrstuvwxyzABCDEFGHIJKLMNOPQRSTUVWXYZ0123456789.,-;:'()!?" G.kk_WORD_SIGNS.choose) := G.kk_WORD_SIGNS.choose_spec
section
variable {P : Program} {w : World} {K : PySem.W.Frag} {mg : Str → Option Value} {base : Heap}
theorem sc__law_stream : FnScope ["_law_script", "_law_k"] ["_law_script", "_law_k"] (defScope (topS 24)) := ⟨rfl, rfl, rfl, by decide +kernel, rfl, by decide +kernel, by decide +kernel⟩
theorem c__law_stream (G : Gs K mg w) (D : DefOk K mg "_law_stream" (topS 24))   : Cal P w K mg base 1 "_law_stream" ["_law_script", "_law_k"] [false, false] f__law_stream := by
  obtain ⟨fa, fd, Fu, hm⟩ := D
  refine ⟨fa, fd, ?_, hm, Fu.kp, Fu.binds (ps := ["_law_script", "_law_k"]) (fun _ _ _ _ _ _ us hl => match us, hl with | [_, _], _ => rfl), fun_lk Fu⟩
  exact fn_ok Fu sc__law_stream [false, false] rfl (b := b__law_stream) (fun cdv A outer s H E hr => ⟨_, (zCons (zIf (yLt (xV (pv 1)) (xLen (by rfl) G.z_len (xA (xV (pv 0)) xA0))) (zOne (zRet (xLst (xA (xIx (xV (pv 0)) (xV (pv 1))) (xA (xAdd (xAdd (xMod (xIx (xV (pv 0)) (xV (pv 1))) xInt) (xMul (xV (pv 1)) (xV (pv 1)))) xInt) xA0))))) zNil)
  (zOne (zRet (xLst (xA (xAdd (xMul (xMul (xV (pv 1)) (xV (pv 1))) xInt) xInt) (xA (xAdd (xV (pv 1)) xInt) xA0))))))⟩)

theorem sc__law_take : FnScope ["_law_stream_here", "_law_most", "_law_digit"] ["_law_stream_here", "_law_most"] (defScope (topS 25)) := ⟨rfl, rfl, rfl, by decide +kernel, rfl, by decide +kernel, by decide +kernel⟩
theorem c__law_take (G : Gs K mg w) (D : DefOk K mg "_law_take" (topS 25))   : Cal P w K mg base 1 "_law_take" ["_law_stream_here", "_law_most"] [true, false] f__law_take := by
  obtain ⟨fa, fd, Fu, hm⟩ := D
  refine ⟨fa, fd, ?_, hm, Fu.kp, Fu.binds (ps := ["_law_stream_here", "_law_most"]) (fun _ _ _ _ _ _ us hl => match us, hl with | [_, _], _ => rfl), fun_lk Fu⟩
  exact fn_ok Fu sc__law_take [true, false] rfl (b := b__law_take) (fun cdv A outer s H E hr => ⟨_, (zCons (zIf (wOr (yEq hr.units (xIx (xV (pv 0)) xInt) xInt) (wOr1 (yEq hr.units (xIx (xV (pv 0)) xInt) (xNeg xInt)))).t (zCons (zAsg (xMod (xAdd (xMul (xIx (xV (pv 0)) xInt) xInt) xInt) xInt) (gIx_ (pv 0) xInt))
  (zOne (zRet (xMod (xMod (xMul (xIx (xV (pv 0)) xInt) (xIx (xV (pv 0)) xInt)) xInt) (xV (pv 1)))))) zNil)
  (zCons (zAsg (xMod (xIx (xV (pv 0)) xInt) (xV (pv 1))) (gName_ (i := 2) (pg_name sc__law_take.nd rfl (.inl rfl))))
  (zCons (zAsg (xDiv (xIx (xV (pv 0)) xInt) (xV (pv 1))) (gIx_ (pv 0) xInt))
  (zOne (zRet (xV (pv 2)))))))⟩)

theorem sc__law_rows : FnScope ["_law_stream_here", "_law_rows_here", "_law_leaf", "_law_k", "_law_numbers", "_law_j"] ["_law_stream_here"] (defScope (topS 26)) := ⟨rfl, rfl, rfl, by decide +kernel, rfl, by decide +kernel, by decide +kernel⟩
theorem c__law_rows (G : Gs K mg w) (D : DefOk K mg "_law_rows" (topS 26)) (C__law_take : Cal P w K mg base 1 "_law_take" ["_law_stream_here", "_law_most"] [true, false] f__law_take)  : Cal P w K mg base 2 "_law_rows" ["_law_stream_here"] [true] f__law_rows := by
  obtain ⟨fa, fd, Fu, hm⟩ := D
  refine ⟨fa, fd, ?_, hm, Fu.kp, Fu.binds (ps := ["_law_stream_here"]) (fun _ _ _ _ _ _ us hl => match us, hl with | [_], _ => rfl), fun_lk Fu⟩
  exact fn_ok Fu sc__law_rows [true] rfl (b := b__law_rows) (fun cdv A outer s H E hr => ⟨_, (zCons (zAsg (xLst xA0) (gName_ (i := 1) (pg_name sc__law_rows.nd rfl (.inl rfl))))
  (zCons (zFor PassesOwn.never rfl (iR1_ (by rfl) G.z_range (xA (xAdd xInt (xCall C__law_take hr (xA (xV (pv 0)) (xA xInt xA0)))) xA0)) (gName_ (i := 2) (pg_name sc__law_rows.nd rfl (.inl rfl))) (zCons (zExpr (xApp (pv 1) (xAdd xStr (xStr1 (by rfl) G.z_str (xA (xV (pv 2)) xA0)))))
  (zCons (zFor PassesOwn.never rfl (iR1_ (by rfl) G.z_range (xA (xCall C__law_take hr (xA (xV (pv 0)) (xA xInt xA0))) xA0)) (gName_ (i := 3) (pg_name sc__law_rows.nd rfl (.inl rfl))) (zOne (zExpr (xApp (pv 1) (xAdd xStr (xJoin xStr (xLc (own := [("_law_j", 5)]) (n := 6) (pn := [0, 1, 2, 3, 4]) rfl sc__law_rows.nd (iR1_ (by rfl) G.z_range (xA xInt xA0)) (blkOk_by (N := ["_law_stream_here", "_law_rows_here", "_law_leaf", "_law_k", "_law_numbers", "_law_j"]) (sc := defScope (topS 26)) (by decide +kernel)) (fun _ _ _ _ _ => (gName_ (i := 5) (pg_name sc__law_rows.nd rfl (.inl rfl)))) (fun _ _ _ _ _ => cNoIf) (fun _ _ _ _ _ => (xStr1 (by rfl) G.z_str (xA (xSub (xCall C__law_take hr (xA (xV (pv 0)) (xA xInt xA0))) xInt) xA0))))))))))
  (zOne (zFor PassesOwn.never rfl (iR1_ (by rfl) G.z_range (xA (xCall C__law_take hr (xA (xV (pv 0)) (xA xInt xA0))) xA0)) (gName_ (i := 3) (pg_name sc__law_rows.nd rfl (.inl rfl))) (zCons (zSetLcF (i := 4) (own := [("_law_j", 5)]) (n := 6) (pm := [0, 1, 2, 3, 4]) rfl sc__law_rows.nd rfl rfl (sw_true rfl rfl rfl (by decide +kernel)) (iR1_ (by rfl) G.z_range (xA xInt xA0)) (blkOk_by (N := ["_law_stream_here", "_law_rows_here", "_law_leaf", "_law_k", "_law_numbers", "_law_j"]) (sc := defScope (topS 26)) (by decide +kernel)) (fun _ _ _ _ _ => (gName_ (i := 5) (pg_name sc__law_rows.nd rfl (.inl rfl)))) (fun _ _ _ _ _ => cNoIf) (fun _ _ _ _ _ => (xStr1 (by rfl) G.z_str (xA (xSub (xCall C__law_take hr (xA (xV (pv 0)) (xA xInt xA0))) xInt) xA0))))
  (zOne (zExpr (xApp (pv 1) (xAdd (xAdd (xAdd xStr (xJoin xStr (xV (pv 4)))) xStr) (xIx (xLst (xA xStr (xA xStr (xA xStr (xA xStr (xA xStr xA0)))))) (xCall C__law_take hr (xA (xV (pv 0)) (xA xInt xA0))))))))))))))
  (zOne (zRet (xMv (pv 1))))))⟩)

theorem sc__law_bent : FnScope ["_law_row", "_law_stream_here", "_law_way", "_law_at", "_law_sign", "_law_words", "_law_one", "_law_other", "_law_odd"] ["_law_row", "_law_stream_here"] (defScope (topS 27)) := ⟨rfl, rfl, rfl, by decide +kernel, rfl, by decide +kernel, by decide +kernel⟩
theorem c__law_bent (G : Gs K mg w) (D : DefOk K mg "_law_bent" (topS 27)) (C__law_take : Cal P w K mg base 1 "_law_take" ["_law_stream_here", "_law_most"] [true, false] f__law_take)  : Cal P w K mg base 2 "_law_bent" ["_law_row", "_law_stream_here"] [false, true] f__law_bent := by
  obtain ⟨fa, fd, Fu, hm⟩ := D
  refine ⟨fa, fd, ?_, hm, Fu.kp, Fu.binds (ps := ["_law_row", "_law_stream_here"]) (fun _ _ _ _ _ _ us hl => match us, hl with | [_, _], _ => rfl), fun_lk Fu⟩
  exact fn_ok Fu sc__law_bent [false, true] rfl (b := b__law_bent) (fun cdv A outer s H E hr => ⟨_, (zCons (zAsg (xFr (xCall C__law_take hr (xA (xV (pv 1)) (xA xInt xA0)))) (gName_ (i := 2) (pg_name sc__law_bent.nd rfl (.inl rfl))))
  (zCons (zAsg (xFr (xCall C__law_take hr (xA (xV (pv 1)) (xA (xAdd (xLen (by rfl) G.z_len (xA (xV (pv 0)) xA0)) xInt) xA0)))) (gName_ (i := 3) (pg_name sc__law_bent.nd rfl (.inl rfl))))
  (zCons (zAsg (xFr (xIx xStr (xCall C__law_take hr (xA (xV (pv 1)) (xA xInt xA0))))) (gName_ (i := 4) (pg_name sc__law_bent.nd rfl (.inl rfl))))
  (zCons (zIf (yEq hr.units (xV (pv 2)) xInt) (zOne (zRet (xAdd (xAdd (xSl (xV (pv 0)) xP0 (xP1 (xV (pv 3)))) (xV (pv 4))) (xSl (xV (pv 0)) (xP1 (xV (pv 3))) xP0)))) zNil)
  (zCons (zIf (yEq hr.units (xV (pv 2)) xInt) (zOne (zRet (xAdd (xSl (xV (pv 0)) xP0 (xP1 (xV (pv 3)))) (xSl (xV (pv 0)) (xP1 (xAdd (xV (pv 3)) xInt)) xP0)))) zNil)
  (zCons (zIf (yEq hr.units (xV (pv 2)) xInt) (zOne (zRet (xAdd (xAdd (xSl (xV (pv 0)) xP0 (xP1 (xV (pv 3)))) (xV (pv 4))) (xSl (xV (pv 0)) (xP1 (xAdd (xV (pv 3)) xInt)) xP0)))) zNil)
  (zCons (zAsg (xSplit (xV (pv 0)) xStr) (gName_ (i := 5) (pg_name sc__law_bent.nd rfl (.inl rfl))))
  (zCons (zAsg (xFr (xCall C__law_take hr (xA (xV (pv 1)) (xA (xLen (by rfl) G.z_len (xA (xV (pv 5)) xA0)) xA0)))) (gName_ (i := 6) (pg_name sc__law_bent.nd rfl (.inl rfl))))
  (zCons (zAsg (xFr (xCall C__law_take hr (xA (xV (pv 1)) (xA (xLen (by rfl) G.z_len (xA (xV (pv 5)) xA0)) xA0)))) (gName_ (i := 7) (pg_name sc__law_bent.nd rfl (.inl rfl))))
  (zCons (zAsg (xFr (xLst (xA xStr (xA xStr (xA xStr (xA xStr (xA xStr (xA xStr (xA xStr (xA xStr (xA xStr (xA xStr (xA xStr (xA xStr xA0)))))))))))))) (gName_ (i := 8) (pg_name sc__law_bent.nd rfl (.inl rfl))))
  (zCons (zAsg (xAdd (xV (pv 8)) (xLst (xA xStr (xA xStr (xA xStr (xA (xRepS xStr xInt) (xA (xRepS xStr xInt) (xA xStr (xA xStr (xA xStr xA0)))))))))) (gName_ (i := 8) (pg_name sc__law_bent.nd rfl (.inl rfl))))
  (zCons (zIf (yEq hr.units (xV (pv 2)) xInt) (zOne (zAsg (xTup (xA (xIx (xV (pv 5)) (xV (pv 7))) (xA (xIx (xV (pv 5)) (xV (pv 6))) xA0))) (gTup_ (n := 2) rfl (gCons_ (gIx_ (pv 5) (xV (pv 6))) (gCons_ (gIx_ (pv 5) (xV (pv 7))) gNil_))))) zNil)
  (zCons (zIf (yEq hr.units (xV (pv 2)) xInt) (zOne (zPopV (pvC (pth := []) (ptV (pv 5))) (pv 6))) zNil)
  (zCons (zIf (yEq hr.units (xV (pv 2)) xInt) (zOne (zExpr (xIns (pv 5) (xV (pv 6)) (xIx (xV (pv 5)) (xV (pv 7)))))) zNil)
  (zCons (zIf (yGt (xV (pv 2)) xInt) (zOne (zAsg (xIx (xV (pv 8)) (xCall C__law_take hr (xA (xV (pv 1)) (xA xInt xA0)))) (gIx_ (pv 5) (xV (pv 6))))) zNil)
  (zOne (zRet (xJoin xStr (xV (pv 5))))))))))))))))))))⟩)

theorem sc__law_spoiled : FnScope ["_law_rows_here", "_law_stream_here", "_law_way", "_law_at", "_law_found"] ["_law_rows_here", "_law_stream_here"] (defScope (topS 28)) := ⟨rfl, rfl, rfl, by decide +kernel, rfl, by decide +kernel, by decide +kernel⟩
theorem c__law_spoiled (G : Gs K mg w) (D : DefOk K mg "_law_spoiled" (topS 28)) (C__law_take : Cal P w K mg base 1 "_law_take" ["_law_stream_here", "_law_most"] [true, false] f__law_take) (C__law_bent : Cal P w K mg base 2 "_law_bent" ["_law_row", "_law_stream_here"] [false, true] f__law_bent)  : Cal P w K mg base 3 "_law_spoiled" ["_law_rows_here", "_law_stream_here"] [false, true] f__law_spoiled := by
  obtain ⟨fa, fd, Fu, hm⟩ := D
  refine ⟨fa, fd, ?_, hm, Fu.kp, Fu.binds (ps := ["_law_rows_here", "_law_stream_here"]) (fun _ _ _ _ _ _ us hl => match us, hl with | [_, _], _ => rfl), fun_lk Fu⟩
  exact fn_ok Fu sc__law_spoiled [false, true] rfl (b := b__law_spoiled) (fun cdv A outer s H E hr => ⟨_, (zCons (zAsg (xFr (xCall C__law_take hr (xA (xV (pv 1)) (xA xInt xA0)))) (gName_ (i := 2) (pg_name sc__law_spoiled.nd rfl (.inl rfl))))
  (zCons (zAsg (xFr (xCall C__law_take hr (xA (xV (pv 1)) (xA (xMax2 rfl (by rfl) G.z_max (xA xInt (xA (xLen (by rfl) G.z_len (xA (xV (pv 0)) xA0)) xA0))) xA0)))) (gName_ (i := 3) (pg_name sc__law_spoiled.nd rfl (.inl rfl))))
  (zCons (zAsg (xList (by rfl) G.z_list (xA (xV (pv 0)) xA0)) (gName_ (i := 4) (pg_name sc__law_spoiled.nd rfl (.inl rfl))))
  (zCons (zIf (yEq hr.units (xV (pv 0)) (xLst xA0)) (zOne (zRet (xSl (xLst (xA xStr (xA xStr (xA xStr (xA xStr xA0))))) (xP1 (xMod (xV (pv 2)) xInt)) (xP1 (xAdd (xMod (xV (pv 2)) xInt) xInt))))) zNil)
  (zCons (zIf (yEq hr.units (xV (pv 2)) xInt) (zOne (zPopV (pvC (pth := []) (ptV (pv 4))) (pv 3))) (zOne (zIf (yEq hr.units (xV (pv 2)) xInt) (zOne (zExpr (xIns (pv 4) (xV (pv 3)) (xIx (xV (pv 0)) (xV (pv 3)))))) (zOne (zIf (yEq hr.units (xV (pv 2)) xInt) (zOne (zExpr (xIns (pv 4) (xCall C__law_take hr (xA (xV (pv 1)) (xA (xLen (by rfl) G.z_len (xA (xV (pv 0)) xA0)) xA0))) (xPopI (pv 4) (pv 3))))) (zOne (zIf (yGt (xV (pv 2)) xInt) (zOne (zAsg (xCall C__law_bent hr (xA (xIx (xV (pv 0)) (xV (pv 3))) (xA (xV (pv 1)) xA0))) (gIx_ (pv 4) (xV (pv 3))))) zNil)))))))
  (zOne (zRet (xMv (pv 4)))))))))⟩)

theorem sc__law_number : FnScope ["_law_word", "_law_figures", "_law_sign"] ["_law_word"] (defScope (topS 29)) := ⟨rfl, rfl, rfl, by decide +kernel, rfl, by decide +kernel, by decide +kernel⟩
theorem c__law_number (G : Gs K mg w) (D : DefOk K mg "_law_number" (topS 29))   : Cal P w K mg base 1 "_law_number" ["_law_word"] [false] f__law_number := by
  obtain ⟨fa, fd, Fu, hm⟩ := D
  refine ⟨fa, fd, ?_, hm, Fu.kp, Fu.binds (ps := ["_law_word"]) (fun _ _ _ _ _ _ us hl => match us, hl with | [_], _ => rfl), fun_lk Fu⟩
  exact fn_ok Fu sc__law_number [false] rfl (b := b__law_number) (fun cdv A outer s H E hr => ⟨_, (zCons (zAsg (xFr (xSl (xV (pv 0)) (xP1 (xInt1 (by rfl) G.z_int (xA (xEq hr.units (xSl (xV (pv 0)) xP0 (xP1 xInt)) xStr) xA0))) xP0)) (gName_ (i := 1) (pg_name sc__law_number.nd rfl (.inl rfl))))
  (zCons (zIf (wOr (yEq hr.units (xV (pv 1)) xStr) (wOr1 (yGt (xLen (by rfl) G.z_len (xA (xV (pv 1)) xA0)) xInt))).t (zOne (zRet xNon)) zNil)
  (zCons (zIf (yNe hr.units (xLen (by rfl) G.z_len (xA (xLc (own := [("_law_sign", 2)]) (n := 3) (pn := [0, 1]) rfl sc__law_number.nd (iStr_ (xV (pv 1))) (blkOk_by (N := ["_law_word", "_law_figures", "_law_sign"]) (sc := defScope (topS 29)) (by decide +kernel)) (fun _ _ _ _ _ => (gName_ (i := 2) (pg_name sc__law_number.nd rfl (.inl rfl)))) (fun _ _ _ _ _ => (cIf1 (yInS (xV (pv 2)) xStr (by first | exact nobehind _ (by decide) (by decide) | rfl)))) (fun _ _ _ _ _ => (xV (pv 2)))) xA0)) (xLen (by rfl) G.z_len (xA (xV (pv 1)) xA0))) (zOne (zRet xNon)) zNil)
  (zCons (zIf (wAnd (yEq hr.units (xIx (xV (pv 1)) xInt) xStr) (wAnd1 (yNe hr.units (xV (pv 0)) xStr))).t (zOne (zRet xNon)) zNil)
  (zOne (zRet (xIntS (by rfl) G.z_int (xA (xV (pv 0)) xA0))))))))⟩)

theorem sc__law_is_word : FnScope ["_law_word", "_law_signs", "_law_sign"] ["_law_word"] (defScope (topS 30)) := ⟨rfl, rfl, rfl, by decide +kernel, rfl, by decide +kernel, by decide +kernel⟩
theorem c__law_is_word (G : Gs K mg w) (D : DefOk K mg "_law_is_word" (topS 30))   : Cal P w K mg base 1 "_law_is_word" ["_law_word"] [false] f__law_is_word := by
  obtain ⟨fa, fd, Fu, hm⟩ := D
  refine ⟨fa, fd, ?_, hm, Fu.kp, Fu.binds (ps := ["_law_word"]) (fun _ _ _ _ _ _ us hl => match us, hl with | [_], _ => rfl), fun_lk Fu⟩
  exact fn_ok Fu sc__law_is_word [false] rfl (b := b__law_is_word) (fun cdv A outer s H E hr => ⟨_, (zCons (zAsg xStr (gName_ (i := 1) (pg_name sc__law_is_word.nd rfl (.inr rfl))))
  (zOne (zRet (xAndV (xChn op_le cmp_int op_le sCmp xInt (xLen (by rfl) G.z_len (xA (xV (pv 0)) xA0)) xInt) (xOne (xEq hr.units (xLen (by rfl) G.z_len (xA (xLc (own := [("_law_sign", 2)]) (n := 3) (pn := [0, 1]) rfl sc__law_is_word.nd (iStr_ (xV (pv 0))) (blkOk_by (N := ["_law_word", "_law_signs", "_law_sign"]) (sc := defScope (topS 30)) (by decide +kernel)) (fun _ _ _ _ _ => (gName_ (i := 2) (pg_name sc__law_is_word.nd rfl (.inl rfl)))) (fun _ _ _ _ _ => (cIf1 (yInS (xV (pv 2)) (xV (pv 1)) (by first | exact nobehind _ (by decide) (by decide) | rfl)))) (fun _ _ _ _ _ => (xV (pv 2)))) xA0)) (xLen (by rfl) G.z_len (xA (xV (pv 0)) xA0))))))))⟩)

theorem sc__law_due : FnScope ["_law_rows_here", "_law_leaf", "_law_words", "_law_boxes", "_law_row", "_law_parts", "_law_numbers", "_law_many", "_law_last", "_law_x", "_law_y", "_law_face", "_law_node", "_law_piece", "_law_part"] ["_law_rows_here"] (defScope (topS 31)) := ⟨rfl, rfl, rfl, by decide +kernel, rfl, by decide +kernel, by decide +kernel⟩
theorem c__law_due (G : Gs K mg w) (D : DefOk K mg "_law_due" (topS 31)) (C__law_is_word : Cal P w K mg base 1 "_law_is_word" ["_law_word"] [false] f__law_is_word) (C__law_number : Cal P w K mg base 1 "_law_number" ["_law_word"] [false] f__law_number)  : Cal P w K mg base 2 "_law_due" ["_law_rows_here"] [false] f__law_due := by
  obtain ⟨fa, fd, Fu, hm⟩ := D
  refine ⟨fa, fd, ?_, hm, Fu.kp, Fu.binds (ps := ["_law_rows_here"]) (fun _ _ _ _ _ _ us hl => match us, hl with | [_], _ => rfl), fun_lk Fu⟩
  exact fn_ok Fu sc__law_due [false] rfl (b := b__law_due) (fun cdv A outer s H E hr => ⟨_, (zCons (zAsg (xFr (xNeg xInt)) (gName_ (i := 1) (pg_name sc__law_due.nd rfl (.inl rfl))))
  (zCons (zAsg (xLst xA0) (gName_ (i := 2) (pg_name sc__law_due.nd rfl (.inl rfl))))
  (zCons (zAsg (xLst xA0) (gName_ (i := 3) (pg_name sc__law_due.nd rfl (.inl rfl))))
  (zCons (zFor PassesOwn.never rfl (iList_ (xV (pv 0))) (gName_ (i := 4) (pg_name sc__law_due.nd rfl (.inl rfl))) (zCons (zAsg (xFr (xSplit (xV (pv 4)) xStr)) (gName_ (i := 5) (pg_name sc__law_due.nd rfl (.inl rfl))))
  (zCons (zSetLcF (i := 6) (own := [("_law_part", 14)]) (n := 15) (pm := [0, 1, 2, 3, 4, 5, 6, 7, 8, 9, 10, 11, 12, 13]) rfl sc__law_due.nd rfl rfl (sw_true rfl rfl rfl (by decide +kernel)) (iList_ (xSl (xV (pv 5)) (xP1 xInt) (xP1 xInt))) (blkOk_by (N := ["_law_rows_here", "_law_leaf", "_law_words", "_law_boxes", "_law_row", "_law_parts", "_law_numbers", "_law_many", "_law_last", "_law_x", "_law_y", "_law_face", "_law_node", "_law_piece", "_law_part"]) (sc := defScope (topS 31)) (by decide +kernel)) (fun _ _ _ _ _ => (gName_ (i := 14) (pg_name sc__law_due.nd rfl (.inl rfl)))) (fun _ _ _ _ _ => cNoIf) (fun _ _ _ _ _ => (xCall C__law_number hr (xA (xV (pv 14)) xA0))))
  (zCons (zAsg (xFr (xLen (by rfl) G.z_len (xA (xV (pv 5)) xA0))) (gName_ (i := 7) (pg_name sc__law_due.nd rfl (.inl rfl))))
  (zCons (zAsg (xAndV (xNe hr.units (xV (pv 2)) (xLst xA0)) (xOne (xEq hr.units (xIx (xIx (xV (pv 2)) (xNeg xInt)) xInt) (xV (pv 1))))) (gName_ (i := 8) (pg_name sc__law_due.nd rfl (.inl rfl))))
  (zOne (zIf (wAnd (yEq hr.units (xIx (xV (pv 5)) xInt) xStr) (wAnd (yEq hr.units (xV (pv 7)) xInt) (wAnd1 (yEq hr.units (xV (pv 6)) (xLst (xA (xAdd (xV (pv 1)) xInt) xA0)))))).t (zOne (zAsg (xAdd (xV (pv 1)) xInt) (gName_ (i := 1) (pg_name sc__law_due.nd rfl (.inl rfl))))) (zOne (zIf (wOr (yLt (xV (pv 1)) xInt) (wOr (yInF xNon (xV (pv 6)) (by first | exact nobehind _ (by decide) (by decide) | rfl)) (wOr1 (yNe hr.units (xLen (by rfl) G.z_len (xA (xV (pv 6)) xA0)) xInt)))).t (zOne (zRet xNon)) (zOne (zIf (wAnd (yEq hr.units (xIx (xV (pv 5)) xInt) xStr) (wAnd (yEq hr.units (xV (pv 7)) xInt) (wAnd1 (yNot (yVal (xV (pv 8))))))).t (zOne (zExpr (xApp (pv 3) (xTuple (by rfl) G.z_tuple (xA (xAdd (xLst (xA (xV (pv 1)) xA0)) (xV (pv 6))) xA0))))) (zOne (zIf (wAnd (yEq hr.units (xIx (xV (pv 5)) xInt) xStr) (wAnd (yEq hr.units (xV (pv 7)) xInt) (wAnd1 (yVal (xCall C__law_is_word hr (xA (xIx (xV (pv 5)) xInt) xA0)))))).t (zCons (zAsg (xV (pv 6)) (gTup_ (n := 5) rfl (gCons_ (gName_ (i := 9) (pg_name sc__law_due.nd rfl (.inl rfl))) (gCons_ (gName_ (i := 10) (pg_name sc__law_due.nd rfl (.inl rfl))) (gCons_ (gName_ (i := 11) (pg_name sc__law_due.nd rfl (.inl rfl))) (gCons_ (gName_ (i := 12) (pg_name sc__law_due.nd rfl (.inl rfl))) (gCons_ (gName_ (i := 13) (pg_name sc__law_due.nd rfl (.inl rfl))) gNil_)))))))
  (zOne (zExpr (xApp (pv 2) (xTup (xA (xV (pv 1)) (xA (xV (pv 9)) (xA (xV (pv 10)) (xA (xV (pv 12)) (xA (xV (pv 13)) (xA (xIx (xV (pv 5)) xInt) (xA (xV (pv 11)) xA0)))))))))))) (zOne (zRet xNon)))))))))))))))
  (zOne (zRet (xTup (xA (xAdd (xV (pv 1)) xInt) (xA (xMv (pv 2)) (xA (xMv (pv 3)) xA0))))))))))⟩)

theorem sc_made_of : FnScope ["text", "signs", "sign"] ["text", "signs"] (defScope (topS 14)) := ⟨rfl, rfl, rfl, by decide +kernel, rfl, by decide +kernel, by decide +kernel⟩
theorem c_made_of (G : Gs K mg w) (D : DefOk K mg "made_of" (topS 14))   : Cal P w K mg base 1 "made_of" ["text", "signs"] [false, false] f_made_of := by
  obtain ⟨fa, fd, Fu, hm⟩ := D
  refine ⟨fa, fd, ?_, hm, Fu.kp, Fu.binds (ps := ["text", "signs"]) (fun _ _ _ _ _ _ us hl => match us, hl with | [_, _], _ => rfl), fun_lk Fu⟩
  exact fn_ok Fu sc_made_of [false, false] rfl (b := b_made_of) (fun cdv A outer s H E hr => ⟨_, (zCons (zFor PassesOwn.never rfl (iStr_ (xV (pv 0))) (gName_ (i := 2) (pg_name sc_made_of.nd rfl (.inl rfl))) (zOne (zIf (yNotInS (xV (pv 2)) (xV (pv 1)) (by first | exact nobehind _ (by decide) (by decide) | rfl)) (zOne (zRet xBl)) zNil)))
  (zOne (zRet xBl)))⟩)

theorem sc_number_told : FnScope ["word", "figures"] ["word"] (defScope (topS 19)) := ⟨rfl, rfl, rfl, by decide +kernel, rfl, by decide +kernel, by decide +kernel⟩
theorem c_number_told (G : Gs K mg w) (D : DefOk K mg "number_told" (topS 19)) (C_made_of : Cal P w K mg base 1 "made_of" ["text", "signs"] [false, false] f_made_of)  : CalX P w K mg base 2 "number_told" ["word"] [false] f_number_told := by
  obtain ⟨fa, fd, Fu, hm⟩ := D
  refine ⟨fa, fd, ?_, hm, Fu.kp, Fu.binds (ps := ["word"]) (fun _ _ _ _ _ _ us hl => match us, hl with | [_], _ => rfl)⟩
  exact fn_okX Fu sc_number_told [false] rfl (b := b_number_told) (fun cdv A outer s H E hr => ⟨_, (yCons (yLf (zAsg (xV (pv 0)) (gName_ (i := 1) (pg_name sc_number_told.nd rfl (.inl rfl)))))
  (yCons (yLf (zIf (yEq hr.units (xSl (xV (pv 0)) xP0 (xP1 xInt)) xStr) (zOne (zAsg (xFr (xSl (xV (pv 0)) (xP1 xInt) xP0)) (gName_ (i := 1) (pg_name sc_number_told.nd rfl (.inl rfl))))) zNil))
  (yCons (yIf (wOr (yEq hr.units (xV (pv 1)) xStr) (wOr (yGt (xLen (by rfl) G.z_len (xA (xV (pv 1)) xA0)) (xGI (by rfl) G.k_MOST_FIGURES)) (wOr1 (yNot (yVal (xCall C_made_of hr (xA (xV (pv 1)) (xA (xGS (by rfl) G.k_FIGURES) xA0)))))))).t (yOne (yRaise ⟨_, G.y_NoDrawing, G.x_NoDrawing⟩)) yNil)
  (yCons (yIf (wAnd (yEq hr.units (xIx (xV (pv 1)) xInt) xStr) (wAnd1 (yNe hr.units (xV (pv 0)) xStr))).t (yOne (yRaise ⟨_, G.y_NoDrawing, G.x_NoDrawing⟩)) yNil)
  (yOne (yLf (zRet (xIntS (by rfl) G.z_int (xA (xV (pv 0)) xA0)))))))))⟩)

theorem sc_numbers_told : FnScope ["words", "many", "word"] ["words", "many"] (defScope (topS 20)) := ⟨rfl, rfl, rfl, by decide +kernel, rfl, by decide +kernel, by decide +kernel⟩
theorem c_numbers_told (G : Gs K mg w) (D : DefOk K mg "numbers_told" (topS 20)) (C_number_told : CalX P w K mg base 2 "number_told" ["word"] [false] f_number_told)  : CalX P w K mg base 3 "numbers_told" ["words", "many"] [false, false] f_numbers_told := by
  obtain ⟨fa, fd, Fu, hm⟩ := D
  refine ⟨fa, fd, ?_, hm, Fu.kp, Fu.binds (ps := ["words", "many"]) (fun _ _ _ _ _ _ us hl => match us, hl with | [_, _], _ => rfl)⟩
  exact fn_okX Fu sc_numbers_told [false, false] rfl (b := b_numbers_told) (fun cdv A outer s H E hr => ⟨_, (yCons (yIf (yNe hr.units (xLen (by rfl) G.z_len (xA (xV (pv 0)) xA0)) (xV (pv 1))) (yOne (yRaise ⟨_, G.y_NoDrawing, G.x_NoDrawing⟩)) yNil)
  (yOne (yRet (yLcX (own := [("word", 2)]) (n := 3) (pm := [0, 1]) C_number_told hr rfl sc_numbers_told.nd (iList_ (xV (pv 0))) (blkOk_by (N := ["words", "many", "word"]) (sc := defScope (topS 20)) (by decide +kernel)) (fun _ _ _ _ _ => (gName_ (i := 2) (pg_name sc_numbers_told.nd rfl (.inl rfl)))) (fun _ _ _ _ _ => (xA (xV (pv 2)) xA0))))))⟩)

theorem sc_read_leaf : FnScope ["words", "many"] ["words", "many"] (defScope (topS 21)) := ⟨rfl, rfl, rfl, by decide +kernel, rfl, by decide +kernel, by decide +kernel⟩
theorem c_read_leaf (G : Gs K mg w) (D : DefOk K mg "read_leaf" (topS 21)) (C_numbers_told : CalX P w K mg base 3 "numbers_told" ["words", "many"] [false, false] f_numbers_told)  : CalX P w K mg base 4 "read_leaf" ["words", "many"] [false, false] f_read_leaf := by
  obtain ⟨fa, fd, Fu, hm⟩ := D
  refine ⟨fa, fd, ?_, hm, Fu.kp, Fu.binds (ps := ["words", "many"]) (fun _ _ _ _ _ _ us hl => match us, hl with | [_, _], _ => rfl)⟩
  exact fn_okX Fu sc_read_leaf [false, false] rfl (b := b_read_leaf) (fun cdv A outer s H E hr => ⟨_, (yOne (yIfNeX hr.units (yCallX C_numbers_told hr (xA (xSl (xV (pv 0)) (xP1 xInt) xP0) (xA xInt xA0))) (xLst (xA (xV (pv 1)) xA0)) (yOne (yRaise ⟨_, G.y_NoDrawing, G.x_NoDrawing⟩)) yNil))⟩)

theorem sc_is_word : FnScope ["text"] ["text"] (defScope (topS 15)) := ⟨rfl, rfl, rfl, by decide +kernel, rfl, by decide +kernel, by decide +kernel⟩
theorem c_is_word (G : Gs K mg w) (D : DefOk K mg "is_word" (topS 15)) (C_made_of : Cal P w K mg base 1 "made_of" ["text", "signs"] [false, false] f_made_of)  : Cal P w K mg base 2 "is_word" ["text"] [false] f_is_word := by
  obtain ⟨fa, fd, Fu, hm⟩ := D
  refine ⟨fa, fd, ?_, hm, Fu.kp, Fu.binds (ps := ["text"]) (fun _ _ _ _ _ _ us hl => match us, hl with | [_], _ => rfl), fun_lk Fu⟩
  exact fn_ok Fu sc_is_word [false] rfl (b := b_is_word) (fun cdv A outer s H E hr => ⟨_, (zOne (zRet (xAndV (xLe xInt (xLen (by rfl) G.z_len (xA (xV (pv 0)) xA0))) (xAndV (xLe (xLen (by rfl) G.z_len (xA (xV (pv 0)) xA0)) (xGI (by rfl) G.k_MOST_SIGNS)) (xOne (xCall C_made_of hr (xA (xV (pv 0)) (xA (xGS (by rfl) G.k_WORD_SIGNS) xA0))))))))⟩)

theorem sc_read_drawing : FnScope ["rows", "many", "words", "boxes", "boxed", "row", "signs", "left", "top", "wide", "high", "node", "x", "y", "face", "piece"] ["rows"] (defScope (topS 22)) := ⟨rfl, rfl, rfl, by decide +kernel, rfl, by decide +kernel, by decide +kernel⟩
theorem c_read_drawing (G : Gs K mg w) (D : DefOk K mg "read_drawing" (topS 22)) (C_read_leaf : CalX P w K mg base 4 "read_leaf" ["words", "many"] [false, false] f_read_leaf) (C_numbers_told : CalX P w K mg base 3 "numbers_told" ["words", "many"] [false, false] f_numbers_told) (C_is_word : Cal P w K mg base 2 "is_word" ["text"] [false] f_is_word)  : CalX P w K mg base 5 "read_drawing" ["rows"] [false] f_read_drawing := by
  obtain ⟨fa, fd, Fu, hm⟩ := D
  refine ⟨fa, fd, ?_, hm, Fu.kp, Fu.binds (ps := ["rows"]) (fun _ _ _ _ _ _ us hl => match us, hl with | [_], _ => rfl)⟩
  exact fn_okX Fu sc_read_drawing [false] rfl (b := b_read_drawing) (fun cdv A outer s H E hr => ⟨_, (yCons (yLf (zAsg xInt (gName_ (i := 1) (pg_name sc_read_drawing.nd rfl (.inl rfl)))))
  (yCons (yLf (zAsg (xLst xA0) (gName_ (i := 2) (pg_name sc_read_drawing.nd rfl (.inl rfl)))))
  (yCons (yLf (zAsg (xLst xA0) (gName_ (i := 3) (pg_name sc_read_drawing.nd rfl (.inl rfl)))))
  (yCons (yLf (zAsg xBl (gName_ (i := 4) (pg_name sc_read_drawing.nd rfl (.inl rfl)))))
  (yCons (yFor (iList_ (xV (pv 0))) (gName_ (i := 5) (pg_name sc_read_drawing.nd rfl (.inl rfl))) (yCons (yLf (zAsg (xFr (xSplit (xV (pv 5)) xStr)) (gName_ (i := 6) (pg_name sc_read_drawing.nd rfl (.inl rfl)))))
  (yOne (yIf (yEq hr.units (xIx (xV (pv 6)) xInt) xStr) (yCons (yExpr (yCallX C_read_leaf hr (xA (xV (pv 6)) (xA (xV (pv 1)) xA0))))
  (yCons (yLf (zAug (i := 1) sc_read_drawing.nd rfl (.inl rfl) xInt ip_add sAddI))
  (yOne (yLf (zAsg xBl (gName_ (i := 4) (pg_name sc_read_drawing.nd rfl (.inl rfl)))))))) (yOne (yIf (wAnd (yEq hr.units (xIx (xV (pv 6)) xInt) xStr) (wAnd1 (yVal (xV (pv 4))))).t (yCons (yAsg (yCallX C_numbers_told hr (xA (xSl (xV (pv 6)) (xP1 xInt) xP0) (xA xInt xA0))) (gTup_ (n := 5) rfl (gCons_ (gName_ (i := 7) (pg_name sc_read_drawing.nd rfl (.inl rfl))) (gCons_ (gName_ (i := 8) (pg_name sc_read_drawing.nd rfl (.inl rfl))) (gCons_ (gName_ (i := 9) (pg_name sc_read_drawing.nd rfl (.inl rfl))) (gCons_ (gName_ (i := 10) (pg_name sc_read_drawing.nd rfl (.inl rfl))) (gCons_ (gName_ (i := 11) (pg_name sc_read_drawing.nd rfl (.inl rfl))) gNil_)))))))
  (yOne (yLf (zExpr (xApp (pv 3) (xTup (xA (xSub (xV (pv 1)) xInt) (xA (xV (pv 7)) (xA (xV (pv 8)) (xA (xV (pv 9)) (xA (xV (pv 10)) (xA (xV (pv 11)) xA0)))))))))))) (yOne (yIf (wAnd (yEq hr.units (xIx (xV (pv 6)) xInt) xStr) (wAnd (yGt (xV (pv 1)) xInt) (wAnd1 (yVal (xCall C_is_word hr (xA (xIx (xV (pv 6)) (xNeg xInt)) xA0)))))).t (yCons (yAsg (yCallX C_numbers_told hr (xA (xSl (xV (pv 6)) (xP1 xInt) (xP1 (xNeg xInt))) (xA xInt xA0))) (gTup_ (n := 5) rfl (gCons_ (gName_ (i := 12) (pg_name sc_read_drawing.nd rfl (.inl rfl))) (gCons_ (gName_ (i := 13) (pg_name sc_read_drawing.nd rfl (.inl rfl))) (gCons_ (gName_ (i := 14) (pg_name sc_read_drawing.nd rfl (.inl rfl))) (gCons_ (gName_ (i := 11) (pg_name sc_read_drawing.nd rfl (.inl rfl))) (gCons_ (gName_ (i := 15) (pg_name sc_read_drawing.nd rfl (.inl rfl))) gNil_)))))))
  (yCons (yLf (zExpr (xApp (pv 2) (xTup (xA (xSub (xV (pv 1)) xInt) (xA (xV (pv 12)) (xA (xV (pv 13)) (xA (xV (pv 11)) (xA (xV (pv 15)) (xA (xIx (xV (pv 6)) (xNeg xInt)) (xA (xV (pv 14)) xA0)))))))))))
  (yOne (yLf (zAsg xBl (gName_ (i := 4) (pg_name sc_read_drawing.nd rfl (.inl rfl)))))))) (yOne (yRaise ⟨_, G.y_NoDrawing, G.x_NoDrawing⟩))))))))))
  (yOne (yLf (zRet (xTup (xA (xV (pv 1)) (xA (xMv (pv 2)) (xA (xMv (pv 3)) xA0))))))))))))⟩)

theorem sc__law_alone : FnScope ["_law_error"] ["_law_error"] (defScope (topS 32)) := ⟨rfl, rfl, rfl, by decide +kernel, rfl, by decide +kernel, by decide +kernel⟩
theorem c__law_alone (G : Gs K mg w) (D : DefOk K mg "_law_alone" (topS 32)) : CalP P w K mg base 1 "_law_alone" "_law_error" (adr mg "NoDrawing") true := by
  obtain ⟨fa, fd, Fu, hm⟩ := D
  exact ⟨fa, fd, fnP_ok (k := 0) Fu sc__law_alone rfl (fun cdv A outer s H E => ⟨_, (vNot (vIsT (X := (cxOf (L2.CX P w) P w K mg base ["_law_error"] "_law_alone" (defScope (topS 32)) fa cdv A outer s H E)) G.w_NoDrawing (fun _ _ _ => pv 0) (by rfl) G.z_isinstance (vcC (X := (cxOf (L2.CX P w) P w K mg base ["_law_error"] "_law_alone" (defScope (topS 32)) fa cdv A outer s H E)) (by rfl) G.y_NoFace (vcC (X := (cxOf (L2.CX P w) P w K mg base ["_law_error"] "_law_alone" (defScope (topS 32)) fa cdv A outer s H E)) (by rfl) G.y_NoBook (vcC (X := (cxOf (L2.CX P w) P w K mg base ["_law_error"] "_law_alone" (defScope (topS 32)) fa cdv A outer s H E)) (by rfl) G.y_NoRule (vcC (X := (cxOf (L2.CX P w) P w K mg base ["_law_error"] "_law_alone" (defScope (topS 32)) fa cdv A outer s H E)) (by rfl) G.y_NoSheet (vcC (X := (cxOf (L2.CX P w) P w K mg base ["_law_error"] "_law_alone" (defScope (topS 32)) fa cdv A outer s H E)) (by rfl) G.y_NoNode (vcC (X := (cxOf (L2.CX P w) P w K mg base ["_law_error"] "_law_alone" (defScope (topS 32)) fa cdv A outer s H E)) (by rfl) G.y_NoPart (vcC (X := (cxOf (L2.CX P w) P w K mg base ["_law_error"] "_law_alone" (defScope (topS 32)) fa cdv A outer s H E)) (by rfl) G.y_NoLeaf (vc0 (X := (cxOf (L2.CX P w) P w K mg base ["_law_error"] "_law_alone" (defScope (topS 32)) fa cdv A outer s H E)))))))))) (by simp) (kitAny_no G.i_NoDrawing_NoFace (kitAny_no G.i_NoDrawing_NoBook (kitAny_no G.i_NoDrawing_NoRule (kitAny_no G.i_NoDrawing_NoSheet (kitAny_no G.i_NoDrawing_NoNode (kitAny_no G.i_NoDrawing_NoPart (kitAny_no G.i_NoDrawing_NoLeaf LP.kitAny_nil)))))))))⟩), hm, Fu.kp, Fu.binds (ps := ["_law_error"]) (fun _ _ _ _ _ _ us hl => match us, hl with | [_], _ => rfl)⟩

theorem sc__law_refused : FnScope ["_law_rows_here", "_law_seen", "_law_error"] ["_law_rows_here"] (defScope (topS 33)) := ⟨rfl, rfl, rfl, by decide +kernel, rfl, by decide +kernel, by decide +kernel⟩
theorem c__law_refused (G : Gs K mg w) (D : DefOk K mg "_law_refused" (topS 33)) (C_read_drawing : CalX P w K mg base 5 "read_drawing" ["rows"] [false] f_read_drawing) (C__law_alone : CalP P w K mg base 1 "_law_alone" "_law_error" (adr mg "NoDrawing") true)  : Cal P w K mg base 6 "_law_refused" ["_law_rows_here"] [false] f__law_refused := by
  obtain ⟨fa, fd, Fu, hm⟩ := D
  refine ⟨fa, fd, ?_, hm, Fu.kp, Fu.binds (ps := ["_law_rows_here"]) (fun _ _ _ _ _ _ us hl => match us, hl with | [_], _ => rfl), fun_lk Fu⟩
  exact fn_ok Fu sc__law_refused [false] rfl (b := b__law_refused) (fun cdv A outer s H E hr => ⟨_, (zCons (zAsg xInt (gName_ (i := 1) (pg_name sc__law_refused.nd rfl (.inl rfl))))
  (zCons (zTryI (X := (cxOf CX0 P w K mg base ["_law_rows_here", "_law_seen", "_law_error"] "_law_refused" (defScope (topS 33)) fa cdv A outer s H E).nox) rfl rfl sc__law_refused.nd rfl rfl ⟨by rfl, by decide, .inl G.y_NoDrawing⟩ (cvl_of G.y_NoDrawing) G.h_NoDrawing_NoDrawing (by decide) (by decide) (by decide) (fun pns xe => (yOne (yExpr (yCallX (X := ((cxOf CX0 P w K mg base ["_law_rows_here", "_law_seen", "_law_error"] "_law_refused" (defScope (topS 33)) fa cdv A outer s H E).nox).tr pns xe) C_read_drawing hr (xA (xV (pv 0)) xA0))))) (fun _ _ _ => pg_name (i := 1) sc__law_refused.nd rfl (.inl rfl)) (viAdd (viC (X := (cxOf CX0 P w K mg base ["_law_rows_here", "_law_seen", "_law_error"] "_law_refused" (defScope (topS 33)) fa cdv A outer s H E).nox)) (viInt (vCall (X := (cxOf CX0 P w K mg base ["_law_rows_here", "_law_seen", "_law_error"] "_law_refused" (defScope (topS 33)) fa cdv A outer s H E).nox) C__law_alone hr (fun _ _ _ => pv 2)) (by rfl) G.z_int)))
  (zCons (zIf (yNe hr.units (xV (pv 1)) xInt) (zOne (zRet xBl)) zNil)
  (zCons (zTryI (X := (cxOf CX0 P w K mg base ["_law_rows_here", "_law_seen", "_law_error"] "_law_refused" (defScope (topS 33)) fa cdv A outer s H E).nox) rfl rfl sc__law_refused.nd rfl rfl ⟨by rfl, by decide, .inl G.y_PressError⟩ (cvl_of G.y_NoDrawing) G.h_NoDrawing_PressError (by decide) (by decide) (by decide) (fun pns xe => (yOne (yExpr (yCallX (X := ((cxOf CX0 P w K mg base ["_law_rows_here", "_law_seen", "_law_error"] "_law_refused" (defScope (topS 33)) fa cdv A outer s H E).nox).tr pns xe) C_read_drawing hr (xA (xV (pv 0)) xA0))))) (fun _ _ _ => pg_name (i := 1) sc__law_refused.nd rfl (.inl rfl)) (viMul (viC (X := (cxOf CX0 P w K mg base ["_law_rows_here", "_law_seen", "_law_error"] "_law_refused" (defScope (topS 33)) fa cdv A outer s H E).nox)) (viInt (vIsB (X := (cxOf CX0 P w K mg base ["_law_rows_here", "_law_seen", "_law_error"] "_law_refused" (defScope (topS 33)) fa cdv A outer s H E).nox) G.w_NoDrawing (fun _ _ _ => pv 2) (by rfl) G.z_isinstance (by rfl) G.z_ValueError (by decide +kernel) G.i_NoDrawing_ValueError) (by rfl) G.z_int) (.inl ⟨by decide, by decide⟩)))
  (zOne (zRet (xEq hr.units (xV (pv 1)) xInt)))))))⟩)

theorem sc__law_asked : FnScope ["_law_rows_here", "_law_handed", "_law_due_here"] ["_law_rows_here"] (defScope (topS 34)) := ⟨rfl, rfl, rfl, by decide +kernel, rfl, by decide +kernel, by decide +kernel⟩
theorem c__law_asked (G : Gs K mg w) (D : DefOk K mg "_law_asked" (topS 34)) (C_read_drawing : CalX P w K mg base 5 "read_drawing" ["rows"] [false] f_read_drawing) (C__law_refused : Cal P w K mg base 6 "_law_refused" ["_law_rows_here"] [false] f__law_refused) (C__law_due : Cal P w K mg base 2 "_law_due" ["_law_rows_here"] [false] f__law_due)  : Cal P w K mg base 7 "_law_asked" ["_law_rows_here"] [false] f__law_asked := by
  obtain ⟨fa, fd, Fu, hm⟩ := D
  refine ⟨fa, fd, ?_, hm, Fu.kp, Fu.binds (ps := ["_law_rows_here"]) (fun _ _ _ _ _ _ us hl => match us, hl with | [_], _ => rfl), fun_lk Fu⟩
  exact fn_ok Fu sc__law_asked [false] rfl (b := b__law_asked) (fun cdv A outer s H E hr => ⟨_, (zCons (zAsg (xFr (xList (by rfl) G.z_list (xA (xV (pv 0)) xA0))) (gName_ (i := 1) (pg_name sc__law_asked.nd rfl (.inl rfl))))
  (zCons (zAsg (xFr (xCall C__law_due hr (xA (xV (pv 0)) xA0))) (gName_ (i := 2) (pg_name sc__law_asked.nd rfl (.inl rfl))))
  (zCons (zIf (yIs (xV (pv 2)) xNon) (zOne (zRet (xAndV (xCall C__law_refused hr (xA (xV (pv 1)) xA0)) (xOne (xEq hr.units (xV (pv 1)) (xV (pv 0))))))) zNil)
  (zOne (zRet (xAndV (xEq hr.units (xCallK C_read_drawing hr (xA (xV (pv 1)) xA0)) (xV (pv 2))) (xOne (xEq hr.units (xV (pv 1)) (xV (pv 0))))))))))⟩)

theorem sc_law : FnScope ["_law_script", "_law_stream_here", "_law_rows_here", "_law_spoiled_here", "_law_turn"] ["_law_script"] (defScope (topS 35)) := ⟨rfl, rfl, rfl, by decide +kernel, rfl, by decide +kernel, by decide +kernel⟩
theorem c_law (G : Gs K mg w) (D : DefOk K mg "law" (topS 35)) (C__law_asked : Cal P w K mg base 7 "_law_asked" ["_law_rows_here"] [false] f__law_asked) (C__law_spoiled : Cal P w K mg base 3 "_law_spoiled" ["_law_rows_here", "_law_stream_here"] [false, true] f__law_spoiled) (C__law_rows : Cal P w K mg base 2 "_law_rows" ["_law_stream_here"] [true] f__law_rows) (C__law_stream : Cal P w K mg base 1 "_law_stream" ["_law_script", "_law_k"] [false, false] f__law_stream)  : Cal P w K mg base 8 "law" ["_law_script"] [false] f_law := by
  obtain ⟨fa, fd, Fu, hm⟩ := D
  refine ⟨fa, fd, ?_, hm, Fu.kp, Fu.binds (ps := ["_law_script"]) (fun _ _ _ _ _ _ us hl => match us, hl with | [_], _ => rfl), fun_lk Fu⟩
  exact fn_ok Fu sc_law [false] rfl (b := b_law) (fun cdv A outer s H E hr => ⟨_, (zCons (zAsg (xCall C__law_stream hr (xA (xV (pv 0)) (xA xInt xA0))) (gName_ (i := 1) (pg_name sc_law.nd rfl (.inl rfl))))
  (zCons (zAsg (xFr (xCall C__law_rows hr (xA (xV (pv 1)) xA0))) (gName_ (i := 2) (pg_name sc_law.nd rfl (.inl rfl))))
  (zCons (zAsg (xV (pv 2)) (gName_ (i := 3) (pg_name sc_law.nd rfl (.inl rfl))))
  (zCons (zFor PassesOwn.never rfl (iR1_ (by rfl) G.z_range (xA xInt xA0)) (gName_ (i := 4) (pg_name sc_law.nd rfl (.inl rfl))) (zCons (zAsg (xFr (xCall C__law_spoiled hr (xA (xV (pv 3)) (xA (xV (pv 1)) xA0)))) (gName_ (i := 3) (pg_name sc_law.nd rfl (.inl rfl))))
  (zOne (zIf (yNot (yVal (xCall C__law_asked hr (xA (xV (pv 3)) xA0)))) (zOne (zRet xBl)) zNil))))
  (zOne (zRet (xAndV (xCall C__law_asked hr (xA (xV (pv 2)) xA0)) (xOne (xCall C__law_asked hr (xA (xLst xA0) xA0))))))))))⟩)

end
theorem all_ok {P : Program} {w : World} {K : PySem.W.Frag} {mg : Str → Option Value} {base : Heap} (G : Gs K mg w) (D0 : DefOk K mg "_law_stream" (topS 24)) (D1 : DefOk K mg "_law_take" (topS 25)) (D2 : DefOk K mg "_law_rows" (topS 26)) (D3 : DefOk K mg "_law_bent" (topS 27)) (D4 : DefOk K mg "_law_spoiled" (topS 28)) (D5 : DefOk K mg "_law_number" (topS 29)) (D6 : DefOk K mg "_law_is_word" (topS 30)) (D7 : DefOk K mg "_law_due" (topS 31)) (D8 : DefOk K mg "made_of" (topS 14)) (D9 : DefOk K mg "number_told" (topS 19)) (D10 : DefOk K mg "numbers_told" (topS 20)) (D11 : DefOk K mg "read_leaf" (topS 21)) (D12 : DefOk K mg "is_word" (topS 15)) (D13 : DefOk K mg "read_drawing" (topS 22)) (D14 : DefOk K mg "_law_alone" (topS 32)) (D15 : DefOk K mg "_law_refused" (topS 33)) (D16 : DefOk K mg "_law_asked" (topS 34)) (D17 : DefOk K mg "law" (topS 35)) : Cal P w K mg base 8 "law" ["_law_script"] [false] f_law := by
  have C__law_stream : Cal P w K mg base 1 "_law_stream" ["_law_script", "_law_k"] [false, false] f__law_stream := c__law_stream G D0  
  have C__law_take : Cal P w K mg base 1 "_law_take" ["_law_stream_here", "_law_most"] [true, false] f__law_take := c__law_take G D1  
  have C__law_rows : Cal P w K mg base 2 "_law_rows" ["_law_stream_here"] [true] f__law_rows := c__law_rows G D2 C__law_take 
  have C__law_bent : Cal P w K mg base 2 "_law_bent" ["_law_row", "_law_stream_here"] [false, true] f__law_bent := c__law_bent G D3 C__law_take 
  have C__law_spoiled : Cal P w K mg base 3 "_law_spoiled" ["_law_rows_here", "_law_stream_here"] [false, true] f__law_spoiled := c__law_spoiled G D4 C__law_take C__law_bent 
  have C__law_number : Cal P w K mg base 1 "_law_number" ["_law_word"] [false] f__law_number := c__law_number G D5  
  have C__law_is_word : Cal P w K mg base 1 "_law_is_word" ["_law_word"] [false] f__law_is_word := c__law_is_word G D6  
  have C__law_due : Cal P w K mg base 2 "_law_due" ["_law_rows_here"] [false] f__law_due := c__law_due G D7 C__law_is_word C__law_number 
  have C_made_of : Cal P w K mg base 1 "made_of" ["text", "signs"] [false, false] f_made_of := c_made_of G D8  
  have C_number_told : CalX P w K mg base 2 "number_told" ["word"] [false] f_number_told := c_number_told G D9 C_made_of 
  have C_numbers_told : CalX P w K mg base 3 "numbers_told" ["words", "many"] [false, false] f_numbers_told := c_numbers_told G D10 C_number_told 
  have C_read_leaf : CalX P w K mg base 4 "read_leaf" ["words", "many"] [false, false] f_read_leaf := c_read_leaf G D11 C_numbers_told 
  have C_is_word : Cal P w K mg base 2 "is_word" ["text"] [false] f_is_word := c_is_word G D12 C_made_of 
  have C_read_drawing : CalX P w K mg base 5 "read_drawing" ["rows"] [false] f_read_drawing := c_read_drawing G D13 C_read_leaf C_numbers_told C_is_word 
  have C__law_alone : CalP P w K mg base 1 "_law_alone" "_law_error" (adr mg "NoDrawing") true := c__law_alone G D14
  have C__law_refused : Cal P w K mg base 6 "_law_refused" ["_law_rows_here"] [false] f__law_refused := c__law_refused G D15 C_read_drawing C__law_alone 
  have C__law_asked : Cal P w K mg base 7 "_law_asked" ["_law_rows_here"] [false] f__law_asked := c__law_asked G D16 C_read_drawing C__law_refused C__law_due 
  have C_law : Cal P w K mg base 8 "law" ["_law_script"] [false] f_law := c_law G D17 C__law_asked C__law_spoiled C__law_rows C__law_stream 
  exact C_law
theorem all_mk {l : PySem.W.OpenLaw} {w : World} {K : PySem.W.Frag} {h : Heap} {mg : Str → Option Value} {fa : Addr} (X : K.In h) (G : h.Ns mainGlobals mg) (hfa : mg "law" = some (.ref fa))
    {od0 an0 : Option Addr} {sl0 : Array (Option Value)} {oc0 kV0 dc0 pm0 cd0 ct0 : Value} {f0 : Addr} (a0 : PySem.W.nsIn K mainGlobals "_law_stream" = some (some (.ref f0))) (l0 : K.lookup f0 = some ⟨oc0, od0, .func (PySem.W.fnOf "_law_stream" "_law_stream" (defArgs (topS 24)) (defBody (topS 24)) (defScope (topS 24)) .none kV0 dc0 pm0 an0 cd0 ct0), sl0⟩) (c0 : PySem.W.codeIn K cd0 "_law_stream" = true) (k0 : PySem.W.keepIn K (.ref f0) = true)
    {od1 an1 : Option Addr} {sl1 : Array (Option Value)} {oc1 kV1 dc1 pm1 cd1 ct1 : Value} {f1 : Addr} (a1 : PySem.W.nsIn K mainGlobals "_law_take" = some (some (.ref f1))) (l1 : K.lookup f1 = some ⟨oc1, od1, .func (PySem.W.fnOf "_law_take" "_law_take" (defArgs (topS 25)) (defBody (topS 25)) (defScope (topS 25)) .none kV1 dc1 pm1 an1 cd1 ct1), sl1⟩) (c1 : PySem.W.codeIn K cd1 "_law_take" = true) (k1 : PySem.W.keepIn K (.ref f1) = true)
    {od2 an2 : Option Addr} {sl2 : Array (Option Value)} {oc2 kV2 dc2 pm2 cd2 ct2 : Value} {f2 : Addr} (a2 : PySem.W.nsIn K mainGlobals "_law_rows" = some (some (.ref f2))) (l2 : K.lookup f2 = some ⟨oc2, od2, .func (PySem.W.fnOf "_law_rows" "_law_rows" (defArgs (topS 26)) (defBody (topS 26)) (defScope (topS 26)) .none kV2 dc2 pm2 an2 cd2 ct2), sl2⟩) (c2 : PySem.W.codeIn K cd2 "_law_rows" = true) (k2 : PySem.W.keepIn K (.ref f2) = true)
    {od3 an3 : Option Addr} {sl3 : Array (Option Value)} {oc3 kV3 dc3 pm3 cd3 ct3 : Value} {f3 : Addr} (a3 : PySem.W.nsIn K mainGlobals "_law_bent" = some (some (.ref f3))) (l3 : K.lookup f3 = some ⟨oc3, od3, .func (PySem.W.fnOf "_law_bent" "_law_bent" (defArgs (topS 27)) (defBody (topS 27)) (defScope (topS 27)) .none kV3 dc3 pm3 an3 cd3 ct3), sl3⟩) (c3 : PySem.W.codeIn K cd3 "_law_bent" = true) (k3 : PySem.W.keepIn K (.ref f3) = true)
    {od4 an4 : Option Addr} {sl4 : Array (Option Value)} {oc4 kV4 dc4 pm4 cd4 ct4 : Value} {f4 : Addr} (a4 : PySem.W.nsIn K mainGlobals "_law_spoiled" = some (some (.ref f4))) (l4 : K.lookup f4 = some ⟨oc4, od4, .func (PySem.W.fnOf "_law_spoiled" "_law_spoiled" (defArgs (topS 28)) (defBody (topS 28)) (defScope (topS 28)) .none kV4 dc4 pm4 an4 cd4 ct4), sl4⟩) (c4 : PySem.W.codeIn K cd4 "_law_spoiled" = true) (k4 : PySem.W.keepIn K (.ref f4) = true)
    {od5 an5 : Option Addr} {sl5 : Array (Option Value)} {oc5 kV5 dc5 pm5 cd5 ct5 : Value} {f5 : Addr} (a5 : PySem.W.nsIn K mainGlobals "_law_number" = some (some (.ref f5))) (l5 : K.lookup f5 = some ⟨oc5, od5, .func (PySem.W.fnOf "_law_number" "_law_number" (defArgs (topS 29)) (defBody (topS 29)) (defScope (topS 29)) .none kV5 dc5 pm5 an5 cd5 ct5), sl5⟩) (c5 : PySem.W.codeIn K cd5 "_law_number" = true) (k5 : PySem.W.keepIn K (.ref f5) = true)
    {od6 an6 : Option Addr} {sl6 : Array (Option Value)} {oc6 kV6 dc6 pm6 cd6 ct6 : Value} {f6 : Addr} (a6 : PySem.W.nsIn K mainGlobals "_law_is_word" = some (some (.ref f6))) (l6 : K.lookup f6 = some ⟨oc6, od6, .func (PySem.W.fnOf "_law_is_word" "_law_is_word" (defArgs (topS 30)) (defBody (topS 30)) (defScope (topS 30)) .none kV6 dc6 pm6 an6 cd6 ct6), sl6⟩) (c6 : PySem.W.codeIn K cd6 "_law_is_word" = true) (k6 : PySem.W.keepIn K (.ref f6) = true)
    {od7 an7 : Option Addr} {sl7 : Array (Option Value)} {oc7 kV7 dc7 pm7 cd7 ct7 : Value} {f7 : Addr} (a7 : PySem.W.nsIn K mainGlobals "_law_due" = some (some (.ref f7))) (l7 : K.lookup f7 = some ⟨oc7, od7, .func (PySem.W.fnOf "_law_due" "_law_due" (defArgs (topS 31)) (defBody (topS 31)) (defScope (topS 31)) .none kV7 dc7 pm7 an7 cd7 ct7), sl7⟩) (c7 : PySem.W.codeIn K cd7 "_law_due" = true) (k7 : PySem.W.keepIn K (.ref f7) = true)
    {od8 an8 : Option Addr} {sl8 : Array (Option Value)} {oc8 kV8 dc8 pm8 cd8 ct8 : Value} {f8 : Addr} (a8 : PySem.W.nsIn K mainGlobals "made_of" = some (some (.ref f8))) (l8 : K.lookup f8 = some ⟨oc8, od8, .func (PySem.W.fnOf "made_of" "made_of" (defArgs (topS 14)) (defBody (topS 14)) (defScope (topS 14)) .none kV8 dc8 pm8 an8 cd8 ct8), sl8⟩) (c8 : PySem.W.codeIn K cd8 "made_of" = true) (k8 : PySem.W.keepIn K (.ref f8) = true)
    {od9 an9 : Option Addr} {sl9 : Array (Option Value)} {oc9 kV9 dc9 pm9 cd9 ct9 : Value} {f9 : Addr} (a9 : PySem.W.nsIn K mainGlobals "number_told" = some (some (.ref f9))) (l9 : K.lookup f9 = some ⟨oc9, od9, .func (PySem.W.fnOf "number_told" "number_told" (defArgs (topS 19)) (defBody (topS 19)) (defScope (topS 19)) .none kV9 dc9 pm9 an9 cd9 ct9), sl9⟩) (c9 : PySem.W.codeIn K cd9 "number_told" = true) (k9 : PySem.W.keepIn K (.ref f9) = true)
    {od10 an10 : Option Addr} {sl10 : Array (Option Value)} {oc10 kV10 dc10 pm10 cd10 ct10 : Value} {f10 : Addr} (a10 : PySem.W.nsIn K mainGlobals "numbers_told" = some (some (.ref f10))) (l10 : K.lookup f10 = some ⟨oc10, od10, .func (PySem.W.fnOf "numbers_told" "numbers_told" (defArgs (topS 20)) (defBody (topS 20)) (defScope (topS 20)) .none kV10 dc10 pm10 an10 cd10 ct10), sl10⟩) (c10 : PySem.W.codeIn K cd10 "numbers_told" = true) (k10 : PySem.W.keepIn K (.ref f10) = true)
    {od11 an11 : Option Addr} {sl11 : Array (Option Value)} {oc11 kV11 dc11 pm11 cd11 ct11 : Value} {f11 : Addr} (a11 : PySem.W.nsIn K mainGlobals "read_leaf" = some (some (.ref f11))) (l11 : K.lookup f11 = some ⟨oc11, od11, .func (PySem.W.fnOf "read_leaf" "read_leaf" (defArgs (topS 21)) (defBody (topS 21)) (defScope (topS 21)) .none kV11 dc11 pm11 an11 cd11 ct11), sl11⟩) (c11 : PySem.W.codeIn K cd11 "read_leaf" = true) (k11 : PySem.W.keepIn K (.ref f11) = true)
    {od12 an12 : Option Addr} {sl12 : Array (Option Value)} {oc12 kV12 dc12 pm12 cd12 ct12 : Value} {f12 : Addr} (a12 : PySem.W.nsIn K mainGlobals "is_word" = some (some (.ref f12))) (l12 : K.lookup f12 = some ⟨oc12, od12, .func (PySem.W.fnOf "is_word" "is_word" (defArgs (topS 15)) (defBody (topS 15)) (defScope (topS 15)) .none kV12 dc12 pm12 an12 cd12 ct12), sl12⟩) (c12 : PySem.W.codeIn K cd12 "is_word" = true) (k12 : PySem.W.keepIn K (.ref f12) = true)
    {od13 an13 : Option Addr} {sl13 : Array (Option Value)} {oc13 kV13 dc13 pm13 cd13 ct13 : Value} {f13 : Addr} (a13 : PySem.W.nsIn K mainGlobals "read_drawing" = some (some (.ref f13))) (l13 : K.lookup f13 = some ⟨oc13, od13, .func (PySem.W.fnOf "read_drawing" "read_drawing" (defArgs (topS 22)) (defBody (topS 22)) (defScope (topS 22)) .none kV13 dc13 pm13 an13 cd13 ct13), sl13⟩) (c13 : PySem.W.codeIn K cd13 "read_drawing" = true) (k13 : PySem.W.keepIn K (.ref f13) = true)
    {od14 an14 : Option Addr} {sl14 : Array (Option Value)} {oc14 kV14 dc14 pm14 cd14 ct14 : Value} {f14 : Addr} (a14 : PySem.W.nsIn K mainGlobals "_law_alone" = some (some (.ref f14))) (l14 : K.lookup f14 = some ⟨oc14, od14, .func (PySem.W.fnOf "_law_alone" "_law_alone" (defArgs (topS 32)) (defBody (topS 32)) (defScope (topS 32)) .none kV14 dc14 pm14 an14 cd14 ct14), sl14⟩) (c14 : PySem.W.codeIn K cd14 "_law_alone" = true) (k14 : PySem.W.keepIn K (.ref f14) = true)
    {od15 an15 : Option Addr} {sl15 : Array (Option Value)} {oc15 kV15 dc15 pm15 cd15 ct15 : Value} {f15 : Addr} (a15 : PySem.W.nsIn K mainGlobals "_law_refused" = some (some (.ref f15))) (l15 : K.lookup f15 = some ⟨oc15, od15, .func (PySem.W.fnOf "_law_refused" "_law_refused" (defArgs (topS 33)) (defBody (topS 33)) (defScope (topS 33)) .none kV15 dc15 pm15 an15 cd15 ct15), sl15⟩) (c15 : PySem.W.codeIn K cd15 "_law_refused" = true) (k15 : PySem.W.keepIn K (.ref f15) = true)
    {od16 an16 : Option Addr} {sl16 : Array (Option Value)} {oc16 kV16 dc16 pm16 cd16 ct16 : Value} {f16 : Addr} (a16 : PySem.W.nsIn K mainGlobals "_law_asked" = some (some (.ref f16))) (l16 : K.lookup f16 = some ⟨oc16, od16, .func (PySem.W.fnOf "_law_asked" "_law_asked" (defArgs (topS 34)) (defBody (topS 34)) (defScope (topS 34)) .none kV16 dc16 pm16 an16 cd16 ct16), sl16⟩) (c16 : PySem.W.codeIn K cd16 "_law_asked" = true) (k16 : PySem.W.keepIn K (.ref f16) = true)
    {od17 an17 : Option Addr} {sl17 : Array (Option Value)} {oc17 kV17 dc17 pm17 cd17 ct17 : Value} {f17 : Addr} (a17 : PySem.W.nsIn K mainGlobals "law" = some (some (.ref f17))) (l17 : K.lookup f17 = some ⟨oc17, od17, .func (PySem.W.fnOf "law" "law" (defArgs (topS 35)) (defBody (topS 35)) (defScope (topS 35)) .none kV17 dc17 pm17 an17 cd17 ct17), sl17⟩) (c17 : PySem.W.codeIn K cd17 "law" = true) (k17 : PySem.W.keepIn K (.ref f17) = true)
    (z_ValueError : PySem.W.nsIn K mainGlobals "ValueError" = some none)
    (z_int : PySem.W.nsIn K mainGlobals "int" = some none)
    (z_isinstance : PySem.W.nsIn K mainGlobals "isinstance" = some none)
    (z_len : PySem.W.nsIn K mainGlobals "len" = some none)
    (z_list : PySem.W.nsIn K mainGlobals "list" = some none)
    (z_max : PySem.W.nsIn K mainGlobals "max" = some none)
    (z_range : PySem.W.nsIn K mainGlobals "range" = some none)
    (z_str : PySem.W.nsIn K mainGlobals "str" = some none)
    (z_tuple : PySem.W.nsIn K mainGlobals "tuple" = some none)
    {t_FIGURES : Tok} (q_FIGURES : PySem.W.nsIn K mainGlobals "FIGURES" = some (some (.str "0123456789" t_FIGURES)))
    {t_MOST_FIGURES : Tok} (q_MOST_FIGURES : PySem.W.nsIn K mainGlobals "MOST_FIGURES" = some (some (.int 9 t_MOST_FIGURES)))
    {t_MOST_SIGNS : Tok} (q_MOST_SIGNS : PySem.W.nsIn K mainGlobals "MOST_SIGNS" = some (some (.int 20 t_MOST_SIGNS)))
    {t_WORD_SIGNS : Tok} (q_WORD_SIGNS : PySem.W.nsIn K mainGlobals "WORD_SIGNS" = some (some (.str "abcdefghijklmnopqrstuvwxyzABCDEFGHIJKLMNOPQRSTUVWXYZ0123456789.,-;:'()!?" t_WORD_SIGNS)))
     {A_NoBook : Addr} (q_NoBook : PySem.W.nsIn K mainGlobals "NoBook" = some (some (.ref A_NoBook))) {A_NoDrawing : Addr} (q_NoDrawing : PySem.W.nsIn K mainGlobals "NoDrawing" = some (some (.ref A_NoDrawing))) {A_NoFace : Addr} (q_NoFace : PySem.W.nsIn K mainGlobals "NoFace" = some (some (.ref A_NoFace))) {A_NoLeaf : Addr} (q_NoLeaf : PySem.W.nsIn K mainGlobals "NoLeaf" = some (some (.ref A_NoLeaf))) {A_NoNode : Addr} (q_NoNode : PySem.W.nsIn K mainGlobals "NoNode" = some (some (.ref A_NoNode))) {A_NoPart : Addr} (q_NoPart : PySem.W.nsIn K mainGlobals "NoPart" = some (some (.ref A_NoPart))) {A_NoRule : Addr} (q_NoRule : PySem.W.nsIn K mainGlobals "NoRule" = some (some (.ref A_NoRule))) {A_NoSheet : Addr} (q_NoSheet : PySem.W.nsIn K mainGlobals "NoSheet" = some (some (.ref A_NoSheet))) {A_PressError : Addr} (q_PressError : PySem.W.nsIn K mainGlobals "PressError" = some (some (.ref A_PressError))) (e1_NoDrawing : PySem.W.excIn K A_NoDrawing [.type "ValueError", .type "Exception", .type "BaseException", .type "object"] "ValueError.__new__" = true) (e2_NoDrawing : PySem.W.keepIn K (.ref A_NoDrawing) = true) (e3_NoDrawing : PySem.W.subIn K (.ref A_NoDrawing) (.type "BaseException") = some true) (e4_NoDrawing : PySem.W.typeIn K (.ref A_NoDrawing) = some (.type "type")) (e5_NoDrawing : PySem.W.findIn K (.ref A_NoDrawing) "__getattribute__" = some (some (.builtin "BaseException.__getattribute__"))) (e6_NoDrawing : PySem.W.findIn K (.ref A_NoDrawing) "__getattr__" = some none) (e7_NoDrawing : PySem.W.hasDictIn K A_NoDrawing = true) (e8_NoDrawing : PySem.W.findIn K (.ref A_NoDrawing) "__class__" = some (some (.builtin "object.__class__"))) (e9_NoDrawing : PySem.W.specialIn K (.builtin "object.__class__") "__get__" = some (some (.builtin "getset_descriptor.__get__"))) (e10_NoDrawing : PySem.W.takesIn K (.builtin "object.__class__") = some true) (e11_NoDrawing : PySem.W.mroIn K A_NoDrawing (.type "object") = some true) (f1_NoBook : PySem.W.subIn K (.ref A_NoBook) (.type "BaseException") = some true) (f2_NoBook : PySem.W.hasDictIn K A_NoBook = true) (f3_NoBook : PySem.W.typeIn K (.ref A_NoBook) = some (.type "type")) (f1_NoDrawing : PySem.W.subIn K (.ref A_NoDrawing) (.type "BaseException") = some true) (f2_NoDrawing : PySem.W.hasDictIn K A_NoDrawing = true) (f3_NoDrawing : PySem.W.typeIn K (.ref A_NoDrawing) = some (.type "type")) (f1_NoFace : PySem.W.subIn K (.ref A_NoFace) (.type "BaseException") = some true) (f2_NoFace : PySem.W.hasDictIn K A_NoFace = true) (f3_NoFace : PySem.W.typeIn K (.ref A_NoFace) = some (.type "type")) (f1_NoLeaf : PySem.W.subIn K (.ref A_NoLeaf) (.type "BaseException") = some true) (f2_NoLeaf : PySem.W.hasDictIn K A_NoLeaf = true) (f3_NoLeaf : PySem.W.typeIn K (.ref A_NoLeaf) = some (.type "type")) (f1_NoNode : PySem.W.subIn K (.ref A_NoNode) (.type "BaseException") = some true) (f2_NoNode : PySem.W.hasDictIn K A_NoNode = true) (f3_NoNode : PySem.W.typeIn K (.ref A_NoNode) = some (.type "type")) (f1_NoPart : PySem.W.subIn K (.ref A_NoPart) (.type "BaseException") = some true) (f2_NoPart : PySem.W.hasDictIn K A_NoPart = true) (f3_NoPart : PySem.W.typeIn K (.ref A_NoPart) = some (.type "type")) (f1_NoRule : PySem.W.subIn K (.ref A_NoRule) (.type "BaseException") = some true) (f2_NoRule : PySem.W.hasDictIn K A_NoRule = true) (f3_NoRule : PySem.W.typeIn K (.ref A_NoRule) = some (.type "type")) (f1_NoSheet : PySem.W.subIn K (.ref A_NoSheet) (.type "BaseException") = some true) (f2_NoSheet : PySem.W.hasDictIn K A_NoSheet = true) (f3_NoSheet : PySem.W.typeIn K (.ref A_NoSheet) = some (.type "type")) (f1_PressError : PySem.W.subIn K (.ref A_PressError) (.type "BaseException") = some true) (f2_PressError : PySem.W.hasDictIn K A_PressError = true) (f3_PressError : PySem.W.typeIn K (.ref A_PressError) = some (.type "type")) (i_NoDrawing_NoBook : PySem.W.subIn K (.ref A_NoDrawing) (.ref A_NoBook) = some false) (n_NoDrawing_NoBook : (A_NoDrawing == A_NoBook) = false) (i_NoDrawing_NoDrawing : PySem.W.subIn K (.ref A_NoDrawing) (.ref A_NoDrawing) = some true) (i_NoDrawing_NoFace : PySem.W.subIn K (.ref A_NoDrawing) (.ref A_NoFace) = some false) (n_NoDrawing_NoFace : (A_NoDrawing == A_NoFace) = false) (i_NoDrawing_NoLeaf : PySem.W.subIn K (.ref A_NoDrawing) (.ref A_NoLeaf) = some false) (n_NoDrawing_NoLeaf : (A_NoDrawing == A_NoLeaf) = false) (i_NoDrawing_NoNode : PySem.W.subIn K (.ref A_NoDrawing) (.ref A_NoNode) = some false) (n_NoDrawing_NoNode : (A_NoDrawing == A_NoNode) = false) (i_NoDrawing_NoPart : PySem.W.subIn K (.ref A_NoDrawing) (.ref A_NoPart) = some false) (n_NoDrawing_NoPart : (A_NoDrawing == A_NoPart) = false) (i_NoDrawing_NoRule : PySem.W.subIn K (.ref A_NoDrawing) (.ref A_NoRule) = some false) (n_NoDrawing_NoRule : (A_NoDrawing == A_NoRule) = false) (i_NoDrawing_NoSheet : PySem.W.subIn K (.ref A_NoDrawing) (.ref A_NoSheet) = some false) (n_NoDrawing_NoSheet : (A_NoDrawing == A_NoSheet) = false) (i_NoDrawing_PressError : PySem.W.subIn K (.ref A_NoDrawing) (.ref A_PressError) = some true) (n_NoDrawing_PressError : (A_NoDrawing == A_PressError) = false) (i_NoDrawing_ValueError : PySem.W.subIn K (.ref A_NoDrawing) (.type "ValueError") = some true) :
    ∃ fd : FuncData, (∀ (s : Shared) (v : Value), BindsTo s fd ⟨[v], []⟩ [("_law_script", v)]) ∧ ∀ base : Heap, K.In base → base.Ns mainGlobals mg → FnOk l.prog w K mg base CX0 8 fa fd ["_law_script"] (spF K 1 f_law) := by
  have e := hfa.symm.trans (PySem.W.mg_of X G a17)
  cases e
  refine ⟨PySem.W.fnOf "law" "law" (defArgs (topS 35)) (defBody (topS 35)) (defScope (topS 35)) .none kV17 dc17 pm17 an17 cd17 ct17, fun s v => .of_eq rfl, fun base hb hn => ?_⟩
  obtain ⟨f', fd', h1, h2, _, _, h5⟩ := all_ok (P := l.prog) (w := w) (K := K) (mg := mg) (base := base) ⟨PySem.W.mg_none_of X G z_ValueError, PySem.W.mg_none_of X G z_int, PySem.W.mg_none_of X G z_isinstance, PySem.W.mg_none_of X G z_len, PySem.W.mg_none_of X G z_list, PySem.W.mg_none_of X G z_max, PySem.W.mg_none_of X G z_range, PySem.W.mg_none_of X G z_str, PySem.W.mg_none_of X G z_tuple, ⟨_, PySem.W.mg_of X G q_FIGURES⟩, ⟨_, PySem.W.mg_of X G q_MOST_FIGURES⟩, ⟨_, PySem.W.mg_of X G q_MOST_SIGNS⟩, ⟨_, PySem.W.mg_of X G q_WORD_SIGNS⟩, adr_mg (PySem.W.mg_of X G q_NoBook), adr_mg (PySem.W.mg_of X G q_NoDrawing), adr_mg (PySem.W.mg_of X G q_NoFace), adr_mg (PySem.W.mg_of X G q_NoLeaf), adr_mg (PySem.W.mg_of X G q_NoNode), adr_mg (PySem.W.mg_of X G q_NoPart), adr_mg (PySem.W.mg_of X G q_NoRule), adr_mg (PySem.W.mg_of X G q_NoSheet), adr_mg (PySem.W.mg_of X G q_PressError), (by rw [adr_of (PySem.W.mg_of X G q_NoDrawing)]; exact ⟨e1_NoDrawing, e2_NoDrawing, e3_NoDrawing, e4_NoDrawing⟩), (by rw [adr_of (PySem.W.mg_of X G q_NoDrawing)]; exact ⟨e5_NoDrawing, e6_NoDrawing, e3_NoDrawing, e7_NoDrawing, e8_NoDrawing, e9_NoDrawing, e10_NoDrawing, e11_NoDrawing⟩), (by rw [adr_of (PySem.W.mg_of X G q_NoDrawing)]; exact (ClsF.mk f1_NoDrawing f2_NoDrawing f3_NoDrawing).exm i_NoDrawing_NoDrawing), (by rw [adr_of (PySem.W.mg_of X G q_NoDrawing), adr_of (PySem.W.mg_of X G q_PressError)]; exact (ClsF.mk f1_PressError f2_PressError f3_PressError).exm i_NoDrawing_PressError), (by rw [adr_of (PySem.W.mg_of X G q_NoDrawing), adr_of (PySem.W.mg_of X G q_NoBook)]; exact (ClsF.mk f1_NoBook f2_NoBook f3_NoBook).kit n_NoDrawing_NoBook i_NoDrawing_NoBook), (by rw [adr_of (PySem.W.mg_of X G q_NoDrawing), adr_of (PySem.W.mg_of X G q_NoFace)]; exact (ClsF.mk f1_NoFace f2_NoFace f3_NoFace).kit n_NoDrawing_NoFace i_NoDrawing_NoFace), (by rw [adr_of (PySem.W.mg_of X G q_NoDrawing), adr_of (PySem.W.mg_of X G q_NoLeaf)]; exact (ClsF.mk f1_NoLeaf f2_NoLeaf f3_NoLeaf).kit n_NoDrawing_NoLeaf i_NoDrawing_NoLeaf), (by rw [adr_of (PySem.W.mg_of X G q_NoDrawing), adr_of (PySem.W.mg_of X G q_NoNode)]; exact (ClsF.mk f1_NoNode f2_NoNode f3_NoNode).kit n_NoDrawing_NoNode i_NoDrawing_NoNode), (by rw [adr_of (PySem.W.mg_of X G q_NoDrawing), adr_of (PySem.W.mg_of X G q_NoPart)]; exact (ClsF.mk f1_NoPart f2_NoPart f3_NoPart).kit n_NoDrawing_NoPart i_NoDrawing_NoPart), (by rw [adr_of (PySem.W.mg_of X G q_NoDrawing), adr_of (PySem.W.mg_of X G q_NoRule)]; exact (ClsF.mk f1_NoRule f2_NoRule f3_NoRule).kit n_NoDrawing_NoRule i_NoDrawing_NoRule), (by rw [adr_of (PySem.W.mg_of X G q_NoDrawing), adr_of (PySem.W.mg_of X G q_NoSheet)]; exact (ClsF.mk f1_NoSheet f2_NoSheet f3_NoSheet).kit n_NoDrawing_NoSheet i_NoDrawing_NoSheet), (by rw [adr_of (PySem.W.mg_of X G q_NoDrawing)]; exact kit_type (by decide +kernel) i_NoDrawing_ValueError)⟩ ⟨_, _, fun_mk (st := topS 24) l0 c0 k0, PySem.W.mg_of X G a0⟩ ⟨_, _, fun_mk (st := topS 25) l1 c1 k1, PySem.W.mg_of X G a1⟩ ⟨_, _, fun_mk (st := topS 26) l2 c2 k2, PySem.W.mg_of X G a2⟩ ⟨_, _, fun_mk (st := topS 27) l3 c3 k3, PySem.W.mg_of X G a3⟩ ⟨_, _, fun_mk (st := topS 28) l4 c4 k4, PySem.W.mg_of X G a4⟩ ⟨_, _, fun_mk (st := topS 29) l5 c5 k5, PySem.W.mg_of X G a5⟩ ⟨_, _, fun_mk (st := topS 30) l6 c6 k6, PySem.W.mg_of X G a6⟩ ⟨_, _, fun_mk (st := topS 31) l7 c7 k7, PySem.W.mg_of X G a7⟩ ⟨_, _, fun_mk (st := topS 14) l8 c8 k8, PySem.W.mg_of X G a8⟩ ⟨_, _, fun_mk (st := topS 19) l9 c9 k9, PySem.W.mg_of X G a9⟩ ⟨_, _, fun_mk (st := topS 20) l10 c10 k10, PySem.W.mg_of X G a10⟩ ⟨_, _, fun_mk (st := topS 21) l11 c11 k11, PySem.W.mg_of X G a11⟩ ⟨_, _, fun_mk (st := topS 15) l12 c12 k12, PySem.W.mg_of X G a12⟩ ⟨_, _, fun_mk (st := topS 22) l13 c13 k13, PySem.W.mg_of X G a13⟩ ⟨_, _, fun_mk (st := topS 32) l14 c14 k14, PySem.W.mg_of X G a14⟩ ⟨_, _, fun_mk (st := topS 33) l15 c15 k15, PySem.W.mg_of X G a15⟩ ⟨_, _, fun_mk (st := topS 34) l16 c16 k16, PySem.W.mg_of X G a16⟩ ⟨_, _, fun_mk (st := topS 35) l17 c17 k17, PySem.W.mg_of X G a17⟩
  rw [PySem.W.mg_of X G a17] at h2
  cases h2
  exact fn_same h1 h5 (fun_mk (st := topS 35) l17 c17 k17)
end Bleafpress_k55_drawings_refused
open PySem PySem.W PyProof.Rows in
set_option maxRecDepth 100000 in
set_option maxHeartbeats 0 in
theorem PySem.Challenge.cw_leafpress_k55_drawings_refused_holds : PySem.Challenge.rw_leafpress_k55_drawings_refused.Holds := by
  w_on; o_law; k_head; (case hw => w_witness2)
  k_fill
  refine L2.walk_of (l := PySem.Challenge.rw_leafpress_k55_drawings_refused) (n := 63) (k := 8) (x := "_law_script") (CX := fun _ => L2.CX0) (sp := fun w => LP.spF _ 1 Bleafpress_k55_drawings_refused.f_law) rfl (by decide) rfl ⟨rfl, by decide, by decide⟩ (fun w h Y => PySem.W.kIn_of Y) ?F (fun _ _ a ns hl hO hS => LP.law_of (Bleafpress_k55_drawings_refused.law_true ns hl) hO hS) (fun _ _ _ _ _ h => h)
  case F =>
    intro w mg fa h KX G hmg
    refine' Bleafpress_k55_drawings_refused.all_mk KX G hmg ?a0 ?l0 ?c0 ?k0 ?a1 ?l1 ?c1 ?k1 ?a2 ?l2 ?c2 ?k2 ?a3 ?l3 ?c3 ?k3 ?a4 ?l4 ?c4 ?k4 ?a5 ?l5 ?c5 ?k5 ?a6 ?l6 ?c6 ?k6 ?a7 ?l7 ?c7 ?k7 ?a8 ?l8 ?c8 ?k8 ?a9 ?l9 ?c9 ?k9 ?a10 ?l10 ?c10 ?k10 ?a11 ?l11 ?c11 ?k11 ?a12 ?l12 ?c12 ?k12 ?a13 ?l13 ?c13 ?k13 ?a14 ?l14 ?c14 ?k14 ?a15 ?l15 ?c15 ?k15 ?a16 ?l16 ?c16 ?k16 ?a17 ?l17 ?c17 ?k17 ?z_ValueError ?z_int ?z_isinstance ?z_len ?z_list ?z_max ?z_range ?z_str ?z_tuple ?q_FIGURES ?q_MOST_FIGURES ?q_MOST_SIGNS ?q_WORD_SIGNS ?q_NoBook ?q_NoDrawing ?q_NoFace ?q_NoLeaf ?q_NoNode ?q_NoPart ?q_NoRule ?q_NoSheet ?q_PressError ?e1_NoDrawing ?e2_NoDrawing ?e3_NoDrawing ?e4_NoDrawing ?e5_NoDrawing ?e6_NoDrawing ?e7_NoDrawing ?e8_NoDrawing ?e9_NoDrawing ?e10_NoDrawing ?e11_NoDrawing ?f1_NoBook ?f2_NoBook ?f3_NoBook ?f1_NoDrawing ?f2_NoDrawing ?f3_NoDrawing ?f1_NoFace ?f2_NoFace ?f3_NoFace ?f1_NoLeaf ?f2_NoLeaf ?f3_NoLeaf ?f1_NoNode ?f2_NoNode ?f3_NoNode ?f1_NoPart ?f2_NoPart ?f3_NoPart ?f1_NoRule ?f2_NoRule ?f3_NoRule ?f1_NoSheet ?f2_NoSheet ?f3_NoSheet ?f1_PressError ?f2_PressError ?f3_PressError ?i_NoDrawing_NoBook ?n_NoDrawing_NoBook ?i_NoDrawing_NoDrawing ?i_NoDrawing_NoFace ?n_NoDrawing_NoFace ?i_NoDrawing_NoLeaf ?n_NoDrawing_NoLeaf ?i_NoDrawing_NoNode ?n_NoDrawing_NoNode ?i_NoDrawing_NoPart ?n_NoDrawing_NoPart ?i_NoDrawing_NoRule ?n_NoDrawing_NoRule ?i_NoDrawing_NoSheet ?n_NoDrawing_NoSheet ?i_NoDrawing_PressError ?n_NoDrawing_PressError ?i_NoDrawing_ValueError
    (case a0 => k_is)
    (case l0 => k_is)
    (case c0 => k_is)
    (case k0 => k_is)
    (case a1 => k_is)
    (case l1 => k_is)
    (case c1 => k_is)
    (case k1 => k_is)
    (case a2 => k_is)
    (case l2 => k_is)
    (case c2 => k_is)
    (case k2 => k_is)
    (case a3 => k_is)
    (case l3 => k_is)
    (case c3 => k_is)
    (case k3 => k_is)
    (case a4 => k_is)
    (case l4 => k_is)
    (case c4 => k_is)
    (case k4 => k_is)
    (case a5 => k_is)
    (case l5 => k_is)
    (case c5 => k_is)
    (case k5 => k_is)
    (case a6 => k_is)
    (case l6 => k_is)
    (case c6 => k_is)
    (case k6 => k_is)
    (case a7 => k_is)
    (case l7 => k_is)
    (case c7 => k_is)
    (case k7 => k_is)
    (case a8 => k_is)
    (case l8 => k_is)
    (case c8 => k_is)
    (case k8 => k_is)
    (case a9 => k_is)
    (case l9 => k_is)
    (case c9 => k_is)
    (case k9 => k_is)
    (case a10 => k_is)
    (case l10 => k_is)
    (case c10 => k_is)
    (case k10 => k_is)
    (case a11 => k_is)
    (case l11 => k_is)
    (case c11 => k_is)
    (case k11 => k_is)
    (case a12 => k_is)
    (case l12 => k_is)
    (case c12 => k_is)
    (case k12 => k_is)
    (case a13 => k_is)
    (case l13 => k_is)
    (case c13 => k_is)
    (case k13 => k_is)
    (case a14 => k_is)
    (case l14 => k_is)
    (case c14 => k_is)
    (case k14 => k_is)
    (case a15 => k_is)
    (case l15 => k_is)
    (case c15 => k_is)
    (case k15 => k_is)
    (case a16 => k_is)
    (case l16 => k_is)
    (case c16 => k_is)
    (case k16 => k_is)
    (case a17 => k_is)
    (case l17 => k_is)
    (case c17 => k_is)
    (case k17 => k_is)
    (case z_ValueError => k_is)
    (case z_int => k_is)
    (case z_isinstance => k_is)
    (case z_len => k_is)
    (case z_list => k_is)
    (case z_max => k_is)
    (case z_range => k_is)
    (case z_str => k_is)
    (case z_tuple => k_is)
    (case q_FIGURES => k_is)
    (case q_MOST_FIGURES => k_is)
    (case q_MOST_SIGNS => k_is)
    (case q_WORD_SIGNS => k_is)
    (case q_NoBook => k_is)
    (case q_NoDrawing => k_is)
    (case q_NoFace => k_is)
    (case q_NoLeaf => k_is)
    (case q_NoNode => k_is)
    (case q_NoPart => k_is)
    (case q_NoRule => k_is)
    (case q_NoSheet => k_is)
    (case q_PressError => k_is)
    (case e1_NoDrawing => first | k_is | k_exc)
    (case e2_NoDrawing => k_is)
    (case e3_NoDrawing => k_is)
    (case e4_NoDrawing => k_is)
    (case e5_NoDrawing => k_is)
    (case e6_NoDrawing => k_is)
    (case e7_NoDrawing => k_is)
    (case e8_NoDrawing => k_is)
    (case e9_NoDrawing => k_is)
    (case e10_NoDrawing => k_is)
    (case e11_NoDrawing => k_is)
    (case f1_NoBook => k_is)
    (case f2_NoBook => k_is)
    (case f3_NoBook => k_is)
    (case f1_NoDrawing => k_is)
    (case f2_NoDrawing => k_is)
    (case f3_NoDrawing => k_is)
    (case f1_NoFace => k_is)
    (case f2_NoFace => k_is)
    (case f3_NoFace => k_is)
    (case f1_NoLeaf => k_is)
    (case f2_NoLeaf => k_is)
    (case f3_NoLeaf => k_is)
    (case f1_NoNode => k_is)
    (case f2_NoNode => k_is)
    (case f3_NoNode => k_is)
    (case f1_NoPart => k_is)
    (case f2_NoPart => k_is)
    (case f3_NoPart => k_is)
    (case f1_NoRule => k_is)
    (case f2_NoRule => k_is)
    (case f3_NoRule => k_is)
    (case f1_NoSheet => k_is)
    (case f2_NoSheet => k_is)
    (case f3_NoSheet => k_is)
    (case f1_PressError => k_is)
    (case f2_PressError => k_is)
    (case f3_PressError => k_is)
    (case i_NoDrawing_NoBook => k_is)
    (case n_NoDrawing_NoBook => rfl)
    (case i_NoDrawing_NoDrawing => k_is)
    (case i_NoDrawing_NoFace => k_is)
    (case n_NoDrawing_NoFace => rfl)
    (case i_NoDrawing_NoLeaf => k_is)
    (case n_NoDrawing_NoLeaf => rfl)
    (case i_NoDrawing_NoNode => k_is)
    (case n_NoDrawing_NoNode => rfl)
    (case i_NoDrawing_NoPart => k_is)
    (case n_NoDrawing_NoPart => rfl)
    (case i_NoDrawing_NoRule => k_is)
    (case n_NoDrawing_NoRule => rfl)
    (case i_NoDrawing_NoSheet => k_is)
    (case n_NoDrawing_NoSheet => rfl)
    (case i_NoDrawing_PressError => k_is)
    (case n_NoDrawing_PressError => rfl)
    (case i_NoDrawing_ValueError => k_is)
#print axioms PySem.Challenge.cw_leafpress_k55_drawings_refused_holds
