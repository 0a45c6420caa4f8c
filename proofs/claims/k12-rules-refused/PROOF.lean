import PyProof.Rows.All
import Wide.All
import OpenK.AllK
import Wide.FinOn
import HandS.Base
import HandS.Call
import HandS.List
import HandS.Comp
import HandS.Ends
import HandS.Words
import HandS.WordsList
import HandS.IsInst
import HandS.SortInts
import HandS.SortRule
import HandS.TupAny
import KE.DataEq
import HandS.TryOnly
import HandS.Iter
import HandS.Text
import HandS.Zip
import HandS.WordsDict
import HandS.Small
import HandS.More
import HandS.Conv
import HandS.HeadHook3
import HandS.RevRange
import HandS.Rev
import HandS.SortKw
import HandS.Defaults
import KE.GoesMore
import HandS.Exc
import HandS.ExcOwn
import HandS.ExcIs
import HandS.WordsExc
import HandS.Flt
import HandS.SortOrd
import HandS.Flow
import KE.KSortTupAny
import HandS.Strs
import HandS.SetFor
import HandS.SetTxt0
import HandS.Wide
import KE.DataMinMax
import PySem.Challenge.RW_leafpress_k12_rules_refused
set_option Elab.async false
set_option linter.all false
set_option maxRecDepth 100000
/-! LP: values as trees with ownership, and how they lie in HandS's abstract heap. -/
namespace LP
open PySem L2

/-- a value as a tree; o: the object is owned (it lies in O, nobody else has it) -/
inductive T where
  | non | bl (b : Bool) | int (i : Int) | str (s : Str)
  | lst (o : Bool) (xs : List T) | tup (o : Bool) (xs : List T)
  | scr (ns : List Int)
  | dic (o : Bool) (ks : List Key) (vs : List T)
  | dtu (o : Bool) (ks : List (List Key)) (vs : List T)
instance : Inhabited T := ⟨.non⟩

mutual
/-- nothing in it is owned -/
def T.fz : T → Bool
  | .lst o xs => !o && fzL xs
  | .tup o xs => !o && fzL xs
  | .dic o _ vs => !o && fzL vs
  | .dtu o _ vs => !o && fzL vs
  | .non => true
  | .bl _ => true
  | .int _ => true
  | .str _ => true
  | .scr _ => true
def fzL : List T → Bool
  | [] => true
  | x :: r => x.fz && fzL r
end
mutual
/-- all that was owned given free -/
def T.er : T → T
  | .lst _ xs => .lst false (erL xs)
  | .tup _ xs => .tup false (erL xs)
  | .dic _ ks vs => .dic false ks (erL vs)
  | .dtu _ ks vs => .dtu false ks (erL vs)
  | .non => .non
  | .bl b => .bl b
  | .int i => .int i
  | .str s => .str s
  | .scr ns => .scr ns
def erL : List T → List T
  | [] => []
  | x :: r => x.er :: erL r
end
mutual
/-- no list and no dict in it is free: it holds nothing that another may have and change -/
def T.nl : T → Bool
  | .lst o xs => o && nlL xs
  | .tup _ xs => nlL xs
  | .dic o _ vs => o && nlL vs
  | .dtu o _ vs => o && nlL vs
  | .non => true
  | .bl _ => true
  | .int _ => true
  | .str _ => true
  | .scr _ => true
def nlL : List T → Bool
  | [] => true
  | x :: r => x.nl && nlL r
end
mutual
/-- as data of the model, for == -/
def T.py : T → PyData
  | .non => .none
  | .bl b => .bool b
  | .int i => .int i
  | .str s => .str s
  | .lst _ xs => .list (pyL xs)
  | .tup _ xs => .tuple (pyL xs)
  | .scr ns => .list (ns.map PyData.int)
  | .dic _ _ _ => .none
  | .dtu _ _ _ => .none
def pyL : List T → List PyData
  | [] => []
  | x :: r => x.py :: pyL r
end
mutual
/-- no dict in it -/
def T.nd : T → Bool
  | .lst _ xs => ndL xs
  | .tup _ xs => ndL xs
  | .dic _ _ _ => false
  | .dtu _ _ _ => false
  | .non => true
  | .bl _ => true
  | .int _ => true
  | .str _ => true
  | .scr _ => true
def ndL : List T → Bool
  | [] => true
  | x :: r => x.nd && ndL r
end
/-! ### the heap: F what is free (never changed any more), O what is owned -/
def jn (F O : Hp) : Hp := fun a => match O a with
  | some o => some o
  | none => F a
def Dis (F O : Hp) : Prop := ∀ a, F a = none ∨ O a = none
theorem jn_O {F O : Hp} {a : Addr} {o : HO} (h : O a = some o) : jn F O a = some o := by unfold jn; rw [h]
theorem jn_none {F O : Hp} {a : Addr} (h : jn F O a = none) : F a = none ∧ O a = none := by
  unfold jn at h
  cases e : O a with
  | none => rw [e] at h; exact ⟨h, rfl⟩
  | some o => rw [e] at h; cases h
theorem Dis.jn_F {F O : Hp} (d : Dis F O) {a : Addr} {o : HO} (h : F a = some o) : jn F O a = some o := by
  rcases d a with e | e
  · rw [h] at e; cases e
  · unfold jn; rw [e]; exact h
theorem Dis.noO {F O : Hp} (d : Dis F O) {a : Addr} {o : HO} (h : F a = some o) : O a = none := by
  rcases d a with e | e
  · rw [h] at e; cases e
  · exact e
theorem Dis.noF {F O : Hp} (d : Dis F O) {a : Addr} {o : HO} (h : O a = some o) : F a = none := by
  rcases d a with e | e
  · exact e
  · rw [h] at e; cases e
theorem Dis.same {F O : Hp} (d : Dis F O) : Same F (jn F O) := fun _ _ h => d.jn_F h
theorem upd_jn {F O : Hp} {p : Addr} {o : HO} : upd (jn F O) p o = jn F (upd O p o) := by
  funext a
  by_cases e : a = p
  · subst e
    rw [upd_same, jn_O upd_same]
  · rw [upd_ne e]
    unfold jn
    rw [upd_ne e]
theorem upd_jnF {F O : Hp} {p : Addr} {o : HO} (h : O p = none) : upd (jn F O) p o = jn (upd F p o) O := by
  funext a
  by_cases e : a = p
  · subst e
    rw [upd_same]
    unfold jn
    rw [h, upd_same]
  · rw [upd_ne e]
    unfold jn
    rw [upd_ne e]
theorem Dis.updO {F O : Hp} (d : Dis F O) {p : Addr} {o : HO} (h : F p = none) : Dis F (upd O p o) := fun a => by
  by_cases e : a = p
  · subst e; exact .inl h
  · rw [upd_ne e]; exact d a
theorem Dis.updF {F O : Hp} (d : Dis F O) {p : Addr} {o : HO} (h : O p = none) : Dis (upd F p o) O := fun a => by
  by_cases e : a = p
  · subst e; exact .inr h
  · rw [upd_ne e]; exact d a
theorem same_new {F : Hp} {p : Addr} {o : HO} (h : F p = none) : Same F (upd F p o) := fun b x e => by
  rw [upd_ne (ne_of_none e h)]
  exact e
theorem Same.seqT {K : PySem.W.Frag} {H H' : Hp} {a : Addr} {xs : List V} (e : Same H H') (h : SqT K H a xs) : SqT K H' a xs := by
  rcases h with (h | ⟨o, h⟩) | h
  · exact .inl (.inl (e _ _ h))
  · exact .inl (.inr ⟨o, e _ _ h⟩)
  · exact .inr h

/-- the script: locked, or of the written part -/
def Scr (K : PySem.W.Frag) (F : Hp) (a : Addr) (ns : List Int) : Prop := (∃ o, F a = some (.frz o (.lst (ns.map V.int)))) ∨ SqL K (fun _ => none) a (ns.map V.int)
theorem Scr.seq {K : PySem.W.Frag} {F : Hp} {a : Addr} {ns : List Int} (h : Scr K F a ns) : SqL K F a (ns.map V.int) := by
  rcases h with ⟨o, h⟩ | (h | ⟨o, h⟩) | h
  · exact .inl (.inr ⟨o, h⟩)
  · cases h
  · cases h
  · exact .inr h
theorem Scr.mono {K : PySem.W.Frag} {F F' : Hp} {a : Addr} {ns : List Int} (s : Same F F') (h : Scr K F a ns) : Scr K F' a ns := by
  rcases h with ⟨o, h⟩ | h
  · exact .inl ⟨o, s _ _ h⟩
  · exact .inr h
/-- a list or a dict stands there -/
def LD (x : Option HO) : Prop := (∃ xs, x = some (.lst xs)) ∨ (∃ k, x = some (.dK k)) ∨ ∃ k, x = some (.dT k)

/-! ### how a tree lies in the heap; the last list: the addresses of what it owns -/
mutual
inductive Rl (K : PySem.W.Frag) (F O : Hp) : V → T → List Addr → Prop
  | non : Rl K F O .non .non []
  | bl (b : Bool) : Rl K F O (.bl b) (.bl b) []
  | int (i : Int) : Rl K F O (.int i) (.int i) []
  | str (s : Str) : Rl K F O (.str s) (.str s) []
  | scr {a : Addr} {ns : List Int} (h : Scr K F a ns) : Rl K F O (.ref a) (.scr ns) []
  | lstF {a : Addr} {vs : List V} {ts : List T} (h : F a = some (.lst vs)) (r : Rls K F O vs ts []) : Rl K F O (.ref a) (.lst false ts) []
  | lstO {a : Addr} {vs : List V} {ts : List T} {fs : List Addr} (h : O a = some (.lst vs)) (r : Rls K F O vs ts fs) : Rl K F O (.ref a) (.lst true ts) (a :: fs)
  | tupF {a : Addr} {vs : List V} {ts : List T} (h : SqT K F a vs) (r : Rls K F O vs ts []) : Rl K F O (.ref a) (.tup false ts) []
  | tupO {a : Addr} {vs : List V} {ts : List T} {fs : List Addr} (h : O a = some (.tup vs)) (r : Rls K F O vs ts fs) : Rl K F O (.ref a) (.tup true ts) (a :: fs)
  | dicF {a : Addr} {ks : List Key} {vs : List V} {ts : List T} (h : F a = some (.dK (ks.zip vs))) (n : ks.length = vs.length) (r : Rls K F O vs ts []) : Rl K F O (.ref a) (.dic false ks ts) []
  | dicO {a : Addr} {ks : List Key} {vs : List V} {ts : List T} {fs : List Addr} (h : O a = some (.dK (ks.zip vs))) (n : ks.length = vs.length) (r : Rls K F O vs ts fs) : Rl K F O (.ref a) (.dic true ks ts) (a :: fs)
  | dtuF {a : Addr} {ks : List (List Key)} {vs : List V} {ts : List T} (h : F a = some (.dT (ks.zip vs))) (n : ks.length = vs.length) (r : Rls K F O vs ts []) : Rl K F O (.ref a) (.dtu false ks ts) []
  | dtuO {a : Addr} {ks : List (List Key)} {vs : List V} {ts : List T} {fs : List Addr} (h : O a = some (.dT (ks.zip vs))) (n : ks.length = vs.length) (r : Rls K F O vs ts fs) : Rl K F O (.ref a) (.dtu true ks ts) (a :: fs)
inductive Rls (K : PySem.W.Frag) (F O : Hp) : List V → List T → List Addr → Prop
  | nil : Rls K F O [] [] []
  | cons {v : V} {t : T} {f : List Addr} {vs : List V} {ts : List T} {fs : List Addr} (h : Rl K F O v t f) (r : Rls K F O vs ts fs) : Rls K F O (v :: vs) (t :: ts) (f ++ fs)
end
section
variable {K : PySem.W.Frag} {F O F' O' : Hp}
mutual
theorem Rl.mono (s : Same F F') : ∀ {v : V} {t : T} {f : List Addr}, Rl K F O v t f → (∀ a ∈ f, ∀ o, O a = some o → O' a = some o) → Rl K F' O' v t f
  | _, _, _, .non, _ => .non
  | _, _, _, .bl b, _ => .bl b
  | _, _, _, .int b, _ => .int b
  | _, _, _, .str b, _ => .str b
  | _, _, _, .scr h, _ => .scr (h.mono s)
  | _, _, _, .lstF h r, k => .lstF (s _ _ h) (Rls.mono s r (fun a z => by cases z))
  | _, _, _, .lstO h r, k => .lstO (k _ (List.mem_cons_self ..) _ h) (Rls.mono s r fun a z => k a (List.mem_cons_of_mem _ z))
  | _, _, _, .tupF h r, k => .tupF (Same.seqT s h) (Rls.mono s r (fun a z => by cases z))
  | _, _, _, .tupO h r, k => .tupO (k _ (List.mem_cons_self ..) _ h) (Rls.mono s r fun a z => k a (List.mem_cons_of_mem _ z))
  | _, _, _, .dicF h n r, k => .dicF (s _ _ h) n (Rls.mono s r (fun a z => by cases z))
  | _, _, _, .dicO h n r, k => .dicO (k _ (List.mem_cons_self ..) _ h) n (Rls.mono s r fun a z => k a (List.mem_cons_of_mem _ z))
  | _, _, _, .dtuF h n r, k => .dtuF (s _ _ h) n (Rls.mono s r (fun a z => by cases z))
  | _, _, _, .dtuO h n r, k => .dtuO (k _ (List.mem_cons_self ..) _ h) n (Rls.mono s r fun a z => k a (List.mem_cons_of_mem _ z))
theorem Rls.mono (s : Same F F') : ∀ {v : List V} {t : List T} {f : List Addr}, Rls K F O v t f → (∀ a ∈ f, ∀ o, O a = some o → O' a = some o) → Rls K F' O' v t f
  | _, _, _, .nil, _ => .nil
  | _, _, _, .cons h r, k => .cons (Rl.mono s h fun a z => k a (List.mem_append_left _ z)) (Rls.mono s r fun a z => k a (List.mem_append_right _ z))
end
mutual
theorem Rl.alloc : ∀ {v : V} {t : T} {f : List Addr}, Rl K F O v t f → ∀ a ∈ f, ∃ o, O a = some o
  | _, _, _, .non, _, z => by cases z
  | _, _, _, .bl b, _, z => by cases z
  | _, _, _, .int b, _, z => by cases z
  | _, _, _, .str b, _, z => by cases z
  | _, _, _, .scr h, _, z => by cases z
  | _, _, _, .lstF h r, _, z => by cases z
  | _, _, _, .lstO h r, _, z => (List.mem_cons.mp z).elim (fun e => e ▸ ⟨_, h⟩) (Rls.alloc r _)
  | _, _, _, .tupF h r, _, z => by cases z
  | _, _, _, .tupO h r, _, z => (List.mem_cons.mp z).elim (fun e => e ▸ ⟨_, h⟩) (Rls.alloc r _)
  | _, _, _, .dicF h n r, _, z => by cases z
  | _, _, _, .dicO h n r, _, z => (List.mem_cons.mp z).elim (fun e => e ▸ ⟨_, h⟩) (Rls.alloc r _)
  | _, _, _, .dtuF h n r, _, z => by cases z
  | _, _, _, .dtuO h n r, _, z => (List.mem_cons.mp z).elim (fun e => e ▸ ⟨_, h⟩) (Rls.alloc r _)
theorem Rls.alloc : ∀ {v : List V} {t : List T} {f : List Addr}, Rls K F O v t f → ∀ a ∈ f, ∃ o, O a = some o
  | _, _, _, .nil, _, z => by cases z
  | _, _, _, .cons h r, _, z => (List.mem_append.mp z).elim (Rl.alloc h _) (Rls.alloc r _)
end
mutual
theorem Rl.noown : ∀ {v : V} {t : T} {f : List Addr}, Rl K F O v t f → t.fz = true → f = []
  | _, _, _, .non, _ => rfl
  | _, _, _, .bl b, _ => rfl
  | _, _, _, .int b, _ => rfl
  | _, _, _, .str b, _ => rfl
  | _, _, _, .scr h, _ => rfl
  | _, _, _, .lstF h r, _ => rfl
  | _, _, _, .lstO h r, z => by simp [T.fz] at z
  | _, _, _, .tupF h r, _ => rfl
  | _, _, _, .tupO h r, z => by simp [T.fz] at z
  | _, _, _, .dicF h n r, _ => rfl
  | _, _, _, .dicO h n r, z => by simp [T.fz] at z
  | _, _, _, .dtuF h n r, _ => rfl
  | _, _, _, .dtuO h n r, z => by simp [T.fz] at z
theorem Rls.noown : ∀ {v : List V} {t : List T} {f : List Addr}, Rls K F O v t f → fzL t = true → f = []
  | _, _, _, .nil, _ => rfl
  | _, _, _, .cons h r, z => by
    rw [fzL, Bool.and_eq_true] at z
    rw [Rl.noown h z.1, Rls.noown r z.2]
    rfl
end
/-- the owned addresses fs go over to what is free -/
def toF (F O : Hp) (fs : List Addr) : Hp := fun a => if a ∈ fs then O a else F a
def offO (O : Hp) (fs : List Addr) : Hp := fun a => if a ∈ fs then none else O a
theorem jn_toF {fs : List Addr} (al : ∀ a ∈ fs, ∃ o, O a = some o) : jn (toF F O fs) (offO O fs) = jn F O := by
  funext a
  unfold jn toF offO
  by_cases e : a ∈ fs
  · obtain ⟨o, h⟩ := al a e
    rw [if_pos e, if_pos e, h]
  · rw [if_neg e, if_neg e]
theorem Dis.toF (d : Dis F O) {fs : List Addr} : Dis (toF F O fs) (offO O fs) := fun a => by
  unfold LP.toF offO
  by_cases e : a ∈ fs
  · exact .inr (if_pos e)
  · rw [if_neg e, if_neg e]; exact d a
theorem Dis.same_toF (d : Dis F O) {fs : List Addr} (al : ∀ a ∈ fs, ∃ o, O a = some o) : Same F (LP.toF F O fs) := fun a o h => by
  unfold LP.toF
  rw [if_neg fun e => by
    obtain ⟨o', h'⟩ := al a e
    rw [d.noO h] at h'
    cases h']
  exact h
theorem seqT_toF {fs : List Addr} {a : Addr} {vs : List V} (e : a ∈ fs) (h : O a = some (.tup vs)) : SqT K (toF F O fs) a vs := .inl (.inl (by unfold toF; rw [if_pos e]; exact h))
mutual
theorem Rl.erase (d : Dis F O) {fs : List Addr} (al : ∀ a ∈ fs, ∃ o, O a = some o) : ∀ {v : V} {t : T} {f : List Addr}, Rl K F O v t f → (∀ a ∈ f, a ∈ fs) → Rl K (toF F O fs) (offO O fs) v t.er []
  | _, _, _, .non, _ => .non
  | _, _, _, .bl b, _ => .bl b
  | _, _, _, .int b, _ => .int b
  | _, _, _, .str b, _ => .str b
  | _, _, _, .scr h, _ => .scr (h.mono (d.same_toF al))
  | _, _, _, .lstF h r, k => .lstF (d.same_toF al _ _ h) (Rls.erase d al r (fun a z => by cases z))
  | _, _, _, .lstO h r, k => .lstF (show toF F O fs _ = _ by unfold toF; rw [if_pos (k _ (List.mem_cons_self ..))]; exact h) (Rls.erase d al r fun a z => k a (List.mem_cons_of_mem _ z))
  | _, _, _, .tupF h r, k => .tupF (Same.seqT (d.same_toF al) h) (Rls.erase d al r (fun a z => by cases z))
  | _, _, _, .tupO h r, k => .tupF (seqT_toF (k _ (List.mem_cons_self ..)) h) (Rls.erase d al r fun a z => k a (List.mem_cons_of_mem _ z))
  | _, _, _, .dicF h n r, k => .dicF (d.same_toF al _ _ h) n (Rls.erase d al r (fun a z => by cases z))
  | _, _, _, .dicO h n r, k => .dicF (show toF F O fs _ = _ by unfold toF; rw [if_pos (k _ (List.mem_cons_self ..))]; exact h) n (Rls.erase d al r fun a z => k a (List.mem_cons_of_mem _ z))
  | _, _, _, .dtuF h n r, k => .dtuF (d.same_toF al _ _ h) n (Rls.erase d al r (fun a z => by cases z))
  | _, _, _, .dtuO h n r, k => .dtuF (show toF F O fs _ = _ by unfold toF; rw [if_pos (k _ (List.mem_cons_self ..))]; exact h) n (Rls.erase d al r fun a z => k a (List.mem_cons_of_mem _ z))
theorem Rls.erase (d : Dis F O) {fs : List Addr} (al : ∀ a ∈ fs, ∃ o, O a = some o) : ∀ {v : List V} {t : List T} {f : List Addr}, Rls K F O v t f → (∀ a ∈ f, a ∈ fs) → Rls K (toF F O fs) (offO O fs) v (erL t) []
  | _, _, _, .nil, _ => .nil
  | _, _, _, .cons h r, k => .cons (f := []) (fs := []) (Rl.erase d al h fun a z => k a (List.mem_append_left _ z)) (Rls.erase d al r fun a z => k a (List.mem_append_right _ z))
end
mutual
theorem Rl.dp (d : Dis F O) : ∀ {v : V} {t : T} {f : List Addr}, Rl K F O v t f → t.nd = true → Dp K (jn F O) v t.py
  | _, _, _, .non, _ => .non
  | _, _, _, .bl b, _ => .bl b
  | _, _, _, .int b, _ => .int b
  | _, _, _, .str b, _ => .str b
  | _, _, _, .scr (ns := ns) h, _ => .lst (d.same.seq h.seq) (by
      clear h
      induction ns with
      | nil => exact .nil
      | cons n r ih => exact .cons (.int n) (ih rfl))
  | _, _, _, .lstF h r, z => .lst (.inl (.inl (d.jn_F h))) (Rls.dp d r z)
  | _, _, _, .lstO h r, z => .lst (.inl (.inl (jn_O h))) (Rls.dp d r z)
  | _, _, _, .tupF h r, z => .tup (Same.seqT d.same h) (Rls.dp d r z)
  | _, _, _, .tupO h r, z => .tup (.inl (.inl (jn_O h))) (Rls.dp d r z)
  | _, _, _, .dicF h n r, z => by cases z
  | _, _, _, .dicO h n r, z => by cases z
  | _, _, _, .dtuF h n r, z => by cases z
  | _, _, _, .dtuO h n r, z => by cases z
theorem Rls.dp (d : Dis F O) : ∀ {v : List V} {t : List T} {f : List Addr}, Rls K F O v t f → ndL t = true → DpAll K (jn F O) v (pyL t)
  | _, _, _, .nil, _ => .nil
  | _, _, _, .cons h r, z => by
    rw [ndL, Bool.and_eq_true] at z
    exact .cons (Rl.dp d h z.1) (Rls.dp d r z.2)
end
/-- what was lent is taken back: N the lent addresses, each a list or a dict (no tuple) -/
def backF (F' : Hp) (N : List Addr) : Hp := fun a => if a ∈ N then none else F' a
def backO (O O' : Hp) (N : List Addr) : Hp := fun a => if a ∈ N then O a else O' a
theorem seqT_back {N : List Addr} (ld : ∀ a ∈ N, LD (F a)) {a : Addr} {xs : List V} (h : SqT K F a xs) : SqT K (backF F N) a xs := by
  rcases h with h | h
  · by_cases e : a ∈ N
    · rcases ld a e with ⟨k, z⟩ | ⟨k, z⟩ | ⟨k, z⟩ <;> rcases h with h | ⟨o, h⟩ <;> (rw [z] at h; cases h)
    · refine .inl ?_
      have q : backF F N a = F a := if_neg e
      rcases h with h | ⟨o, h⟩
      · exact .inl (q.trans h)
      · exact .inr ⟨o, q.trans h⟩
  · exact .inr h
theorem scr_back {N : List Addr} (ld : ∀ a ∈ N, LD (F a)) {a : Addr} {ns : List Int} (h : Scr K F a ns) : Scr K (backF F N) a ns := by
  rcases h with ⟨o, h⟩ | h
  · by_cases e : a ∈ N
    · rcases ld a e with ⟨k, z⟩ | ⟨k, z⟩ | ⟨k, z⟩ <;> (rw [z] at h; cases h)
    · exact .inl ⟨o, (if_neg e : backF F N a = F a).trans h⟩
  · exact .inr h
theorem backO_of {N : List Addr} {O1 : Hp} (ol : ∀ a ∈ N, O' a = none) {a : Addr} {o : HO} (h : O' a = some o) : backO O1 O' N a = some o := by
  unfold backO
  rw [if_neg fun e => by rw [ol a e] at h; cases h]
  exact h
mutual
theorem Rl.back {N : List Addr} {O1 : Hp} (ld : ∀ a ∈ N, LD (F a)) (ol : ∀ a ∈ N, O' a = none) :
    ∀ {v : V} {t : T} {f : List Addr}, Rl K F O' v t f → t.nl = true → Rl K (backF F N) (backO O1 O' N) v t f
  | _, _, _, .non, _ => .non
  | _, _, _, .bl b, _ => .bl b
  | _, _, _, .int b, _ => .int b
  | _, _, _, .str b, _ => .str b
  | _, _, _, .scr h, _ => .scr (scr_back ld h)
  | _, _, _, .lstF h r, z => by simp [T.nl] at z
  | _, _, _, .lstO h r, z => .lstO (backO_of ol h) (Rls.back ld ol r (by simpa [T.nl] using z))
  | _, _, _, .tupF h r, z => .tupF (seqT_back ld h) (Rls.back ld ol r (by simpa [T.nl] using z))
  | _, _, _, .tupO h r, z => .tupO (backO_of ol h) (Rls.back ld ol r (by simpa [T.nl] using z))
  | _, _, _, .dicF h n r, z => by simp [T.nl] at z
  | _, _, _, .dicO h n r, z => .dicO (backO_of ol h) n (Rls.back ld ol r (by simpa [T.nl] using z))
  | _, _, _, .dtuF h n r, z => by simp [T.nl] at z
  | _, _, _, .dtuO h n r, z => .dtuO (backO_of ol h) n (Rls.back ld ol r (by simpa [T.nl] using z))
theorem Rls.back {N : List Addr} {O1 : Hp} (ld : ∀ a ∈ N, LD (F a)) (ol : ∀ a ∈ N, O' a = none) :
    ∀ {v : List V} {t : List T} {f : List Addr}, Rls K F O' v t f → nlL t = true → Rls K (backF F N) (backO O1 O' N) v t f
  | _, _, _, .nil, _ => .nil
  | _, _, _, .cons h r, z => by
    rw [nlL, Bool.and_eq_true] at z
    exact .cons (Rl.back ld ol h z.1) (Rls.back ld ol r z.2)
end
end
end LP
set_option maxRecDepth 100000
/-! LP: the slots as trees; steps of the heap; the judgements. -/
namespace LP
open PySem L2

abbrev Env := List (Option T)
/-- an operand: what a slot holds (looked at late), or a value made on the way -/
inductive Opd where
  | s (i : Nat)
  | t (x : T)
abbrev Ev := Env → Option (Opd × Env)
abbrev Ea := Env → Option (List Opd × Env)
abbrev Et := Env → Option (Bool × Env)
def vw (env : Env) : Opd → Option T
  | .s i => match env[i]? with
    | some (some t) => some t
    | _ => none
  | .t x => some x
def vws (env : Env) : List Opd → Option (List T)
  | [] => some []
  | o :: r => match vw env o with
    | some t => match vws env r with
      | some ts => some (t :: ts)
      | none => none
    | none => none

/-! ### footprints -/
def Nd (l : List Addr) : Prop := ∀ a, l.count a ≤ 1
theorem Nd.nil : Nd [] := fun a => by rw [List.count_nil]; exact Nat.zero_le _
theorem mem_count {a : Addr} {l : List Addr} : a ∈ l ↔ 0 < l.count a := List.count_pos_iff.symm
theorem Nd.sub {l m : List Addr} (h : Nd m) (s : ∀ a, l.count a ≤ m.count a) : Nd l := fun a => Nat.le_trans (s a) (h a)
theorem Nd.left {l m : List Addr} (h : Nd (l ++ m)) : Nd l := h.sub fun a => by rw [List.count_append]; omega
theorem Nd.right {l m : List Addr} (h : Nd (l ++ m)) : Nd m := h.sub fun a => by rw [List.count_append]; omega
theorem Nd.apart {l m : List Addr} (h : Nd (l ++ m)) {a : Addr} (h1 : a ∈ l) : a ∉ m := fun h2 => by
  have q := h a
  rw [List.count_append] at q
  have := mem_count.mp h1
  have := mem_count.mp h2
  omega
theorem Nd.of {l m : List Addr} (h1 : Nd l) (h2 : Nd m) (d : ∀ a ∈ l, a ∉ m) : Nd (l ++ m) := fun a => by
  rw [List.count_append]
  have q1 := h1 a
  have q2 := h2 a
  by_cases e : a ∈ l
  · have : ¬ 0 < m.count a := fun z => d a e (mem_count.mpr z)
    omega
  · have : ¬ 0 < l.count a := fun z => e (mem_count.mpr z)
    omega

/-! ### slots -/
inductive RlE (K : PySem.W.Frag) (F O : Hp) : L2.St → Env → List Addr → Prop
  | nil : RlE K F O [] [] []
  | non {x : Option V} {σ : L2.St} {env : Env} {fs : List Addr} (r : RlE K F O σ env fs) : RlE K F O (x :: σ) (none :: env) fs
  | som {v : V} {t : T} {f : List Addr} {σ : L2.St} {env : Env} {fs : List Addr} (h : Rl K F O v t f) (r : RlE K F O σ env fs) : RlE K F O (some v :: σ) (some t :: env) (f ++ fs)
section
variable {K : PySem.W.Frag} {F O F' O' : Hp}
theorem RlE.mono (s : Same F F') : ∀ {σ : L2.St} {env : Env} {f : List Addr}, RlE K F O σ env f → (∀ a ∈ f, ∀ o, O a = some o → O' a = some o) → RlE K F' O' σ env f
  | _, _, _, .nil, _ => .nil
  | _, _, _, .non r, k => .non (RlE.mono s r k)
  | _, _, _, .som h r, k => .som (h.mono s fun a z => k a (List.mem_append_left _ z)) (RlE.mono s r fun a z => k a (List.mem_append_right _ z))
theorem RlE.alloc : ∀ {σ : L2.St} {env : Env} {f : List Addr}, RlE K F O σ env f → ∀ a ∈ f, ∃ o, O a = some o
  | _, _, _, .nil, _, z => by cases z
  | _, _, _, .non r, a, z => RlE.alloc r a z
  | _, _, _, .som h r, a, z => (List.mem_append.mp z).elim (h.alloc a) (RlE.alloc r a)
theorem RlE.len : ∀ {σ : L2.St} {env : Env} {f : List Addr}, RlE K F O σ env f → σ.length = env.length
  | _, _, _, .nil => rfl
  | _, _, _, .non r => by rw [List.length_cons, List.length_cons, RlE.len r]
  | _, _, _, .som h r => by rw [List.length_cons, List.length_cons, RlE.len r]
/-- a slot: its value, its footprint, and the rest of the slots -/
theorem RlE.get : ∀ {σ : L2.St} {env : Env} {f : List Addr} {i : Nat} {t : T}, RlE K F O σ env f → env[i]? = some (some t) → ∃ v fp, σ[i]? = some (some v) ∧ Rl K F O v t fp ∧ ∀ a, fp.count a ≤ f.count a
  | _, _, _, _, _, .nil, e => by simp at e
  | _, _, _, 0, _, .non r, e => by simp at e
  | _, _, _, i + 1, _, .non r, e => by
    obtain ⟨v, fp, h1, h2, h3⟩ := RlE.get (i := i) r (by simpa using e)
    exact ⟨v, fp, by simpa using h1, h2, h3⟩
  | _, _, _, 0, t', .som (v := v) (t := t0) (f := f) h r, e => by
    have e2 : t0 = t' := by simpa using e
    subst e2
    exact ⟨v, f, rfl, h, fun a => by rw [List.count_append]; omega⟩
  | _, _, _, i + 1, _, .som h r, e => by
    obtain ⟨v, fp, h1, h2, h3⟩ := RlE.get (i := i) r (by simpa using e)
    exact ⟨v, fp, by simpa using h1, h2, fun a => by rw [List.count_append]; have := h3 a; omega⟩
/-- a slot is written: what it held goes -/
theorem RlE.set : ∀ {σ : L2.St} {env : Env} {f : List Addr} {i : Nat} {v : V} {t : T} {fp : List Addr}, RlE K F O σ env f → Rl K F O v t fp → ∃ f', RlE K F O (σ.set i (some v)) (env.set i (some t)) f' ∧ ∀ a, f'.count a ≤ fp.count a + f.count a
  | _, _, _, _, _, _, _, .nil, h => ⟨[], .nil, fun a => by rw [List.count_nil]; omega⟩
  | _, _, _, 0, v, t, fp, .non (fs := fs) r, h => ⟨fp ++ fs, .som h r, fun a => by rw [List.count_append]; omega⟩
  | _, _, _, i + 1, v, t, fp, .non r, h => by
    obtain ⟨f', r', c⟩ := RlE.set (i := i) r h
    exact ⟨f', .non r', c⟩
  | _, _, _, 0, v, t, fp, .som (fs := fs) _ r, h => ⟨fp ++ fs, .som h r, fun a => by rw [List.count_append, List.count_append]; omega⟩
  | _, _, _, i + 1, v, t, fp, .som (f := f0) h0 r, h => by
    obtain ⟨f', r', c⟩ := RlE.set (i := i) r h
    exact ⟨f0 ++ f', .som h0 r', fun a => by rw [List.count_append, List.count_append]; have := c a; omega⟩
/-- a slot's tree is another one, of the same value (its own footprint gone out of the rest) -/
theorem RlE.upd : ∀ {σ : L2.St} {env : Env} {f : List Addr} {i : Nat} {v : V} {t : T}, RlE K F O σ env f → σ[i]? = some (some v) → env[i]? = some (some t) →
    ∃ (fp f0 : List Addr), Rl K F O v t fp ∧ (∀ a, fp.count a + f0.count a = f.count a) ∧ ∀ (F' O' : Hp) (t' : T) (fp' : List Addr), Same F F' → (∀ a ∈ f0, ∀ o, O a = some o → O' a = some o) → Rl K F' O' v t' fp' →
      ∃ f', RlE K F' O' σ (env.set i (some t')) f' ∧ ∀ a, f'.count a = fp'.count a + f0.count a
  | _, _, _, _, _, _, .nil, h, _ => by simp at h
  | _, _, _, 0, _, _, .non r, _, e => by simp at e
  | _, _, _, i + 1, v, t, .non r, h, e => by
    obtain ⟨fp, f0, h1, h2, h3⟩ := RlE.upd (i := i) r (by simpa using h) (by simpa using e)
    refine ⟨fp, f0, h1, h2, fun F' O' t' fp' s k x => ?_⟩
    obtain ⟨f', r', c⟩ := h3 F' O' t' fp' s k x
    exact ⟨f', .non r', c⟩
  | _, _, _, 0, v, t, .som (v := v0) (t := t0) (f := fp) (fs := fs) h0 r, h, e => by
    have e1 : v0 = v := by simpa using h
    have e2 : t0 = t := by simpa using e
    subst e1; subst e2
    exact ⟨fp, fs, h0, fun a => (List.count_append ..).symm, fun F' O' t' fp' s k x => ⟨fp' ++ fs, .som x (r.mono s k), fun a => List.count_append ..⟩⟩
  | _, _, _, i + 1, v, t, .som (f := fq) (fs := fs) h0 r, h, e => by
    obtain ⟨fp, f0, h1, h2, h3⟩ := RlE.upd (i := i) r (by simpa using h) (by simpa using e)
    refine ⟨fp, fq ++ f0, h1, fun a => by rw [List.count_append, List.count_append]; have := h2 a; omega, fun F' O' t' fp' s k x => ?_⟩
    obtain ⟨f', r', c⟩ := h3 F' O' t' fp' s (fun a z => k a (List.mem_append_right _ z)) x
    exact ⟨fq ++ f', .som (h0.mono s fun a z => k a (List.mem_append_left _ z)) r', fun a => by rw [List.count_append, List.count_append]; have := c a; omega⟩
/-- a slot is emptied: its tree is taken out -/
theorem RlE.out : ∀ {σ : L2.St} {env : Env} {f : List Addr} {i : Nat} {t : T}, RlE K F O σ env f → env[i]? = some (some t) →
    ∃ (v : V) (fp f0 : List Addr), σ[i]? = some (some v) ∧ Rl K F O v t fp ∧ RlE K F O σ (env.set i none) f0 ∧ ∀ a, fp.count a + f0.count a = f.count a
  | _, _, _, _, _, .nil, e => by simp at e
  | _, _, _, 0, _, .non r, e => by simp at e
  | _, _, _, i + 1, t, .non r, e => by
    obtain ⟨v, fp, f0, h1, h2, h3, h4⟩ := RlE.out (i := i) r (by simpa using e)
    exact ⟨v, fp, f0, by simpa using h1, h2, .non h3, h4⟩
  | _, _, _, 0, t, .som (v := v0) (t := t0) (f := fp) (fs := fs) h0 r, e => by
    have e2 : t0 = t := by simpa using e
    subst e2
    exact ⟨v0, fp, fs, rfl, h0, .non r, fun a => (List.count_append ..).symm⟩
  | _, _, _, i + 1, t, .som (f := fq) (fs := fs) h0 r, e => by
    obtain ⟨v, fp, f0, h1, h2, h3, h4⟩ := RlE.out (i := i) r (by simpa using e)
    exact ⟨v, fp, fq ++ f0, by simpa using h1, h2, .som h0 h3, fun a => by rw [List.count_append, List.count_append]; have := h4 a; omega⟩

/-! ### a step of the heap: fs what is mine before, gs what is mine behind -/
structure Stp (F O : Hp) (fs : List Addr) (F' O' : Hp) (gs : List Addr) : Prop where
  f : Same F F'
  k : ∀ a o, a ∉ fs → O a = some o → O' a = some o
  n : ∀ a ∈ gs, a ∈ fs ∨ jn F O a = none
  g : ∀ a, jn F O a ≠ none → jn F' O' a ≠ none
theorem Stp.refl {fs : List Addr} : Stp F O fs F O fs := ⟨Same.refl F, fun _ _ _ h => h, fun _ h => .inl h, fun _ h => h⟩
theorem Stp.trans {F1 O1 : Hp} {fs gs hs : List Addr} (x : Stp F O fs F1 O1 gs) (y : Stp F1 O1 gs F' O' hs) : Stp F O fs F' O' hs := by
  refine ⟨x.f.trans y.f, fun a o h e => ?_, fun a h => ?_, fun a h => y.g a (x.g a h)⟩
  · refine y.k a o (fun z => ?_) (x.k a o h e)
    rcases x.n a z with q | q
    · exact h q
    · rw [jn_O e] at q; cases q
  · rcases y.n a h with q | q
    · exact x.n a q
    · by_cases z : jn F O a = none
      · exact .inr z
      · exact absurd q (x.g a z)
/-- less is mine behind -/
theorem Stp.less {fs gs hs : List Addr} (x : Stp F O fs F' O' gs) (h : ∀ a ∈ hs, a ∈ gs) : Stp F O fs F' O' hs := ⟨x.f, x.k, fun a z => x.n a (h a z), x.g⟩
/-- more is mine before and behind: what is not touched -/
theorem Stp.frame {fs gs hs : List Addr} (x : Stp F O fs F' O' gs) : Stp F O (hs ++ fs) F' O' (hs ++ gs) := by
  refine ⟨x.f, fun a o h e => x.k a o (fun z => h (List.mem_append_right _ z)) e, fun a h => ?_, x.g⟩
  rcases List.mem_append.mp h with z | z
  · exact .inl (List.mem_append_left _ z)
  · rcases x.n a z with q | q
    · exact .inl (List.mem_append_right _ q)
    · exact .inr q
/-- a value that stands by keeps -/
theorem Stp.keep {fs gs fp : List Addr} {v : V} {t : T} (x : Stp F O fs F' O' gs) (r : Rl K F O v t fp) (d : ∀ a ∈ fp, a ∉ fs) : Rl K F' O' v t fp := r.mono x.f fun a h o e => x.k a o (d a h) e
theorem Stp.keeps {fs gs fp : List Addr} {v : List V} {t : List T} (x : Stp F O fs F' O' gs) (r : Rls K F O v t fp) (d : ∀ a ∈ fp, a ∉ fs) : Rls K F' O' v t fp := r.mono x.f fun a h o e => x.k a o (d a h) e
/-- what stands by stays apart -/
theorem Stp.nd {fs gs fp : List Addr} (x : Stp F O fs F' O' gs) (al : ∀ a ∈ fp, ∃ o, O a = some o) (h : Nd (fp ++ fs)) (h2 : Nd gs) : Nd (fp ++ gs) := by
  refine h.left.of h2 fun a z q => ?_
  rcases x.n a q with w | w
  · exact h.apart z w
  · obtain ⟨o, e⟩ := al a z
    rw [jn_O e] at w
    cases w
/-- a new owned object -/
theorem Stp.newO {p : Addr} {o : HO} {gs : List Addr} (hp : jn F O p = none) (hg : ∀ a ∈ gs, a = p) : Stp F O [] F (upd O p o) gs := by
  refine ⟨Same.refl F, fun a u _ e => ?_, fun a h => ?_, fun a h => ?_⟩
  · rw [upd_ne fun z => by rw [z, (jn_none hp).2] at e; cases e]
    exact e
  · rw [hg a h]
    exact .inr hp
  · rw [← upd_jn, upd_ne fun z => h (by rw [z]; exact hp)]
    exact h
theorem Stp.newF {p : Addr} {o : HO} (hp : jn F O p = none) : Stp F O [] (upd F p o) O [] := by
  refine ⟨same_new (jn_none hp).1, fun a u _ e => e, fun a h => (by cases h), fun a h => ?_⟩
  rw [← upd_jnF (jn_none hp).2, upd_ne fun z => h (by rw [z]; exact hp)]
  exact h

/-! ### the judgements -/
def RlO (K : PySem.W.Frag) (σ : L2.St) (F O : Hp) (v : V) : Opd → List Addr → Prop
  | .s i, fp => σ[i]? = some (some v) ∧ fp = []
  | .t x, fp => Rl K F O v x fp
inductive RlOs (K : PySem.W.Frag) (σ : L2.St) (F O : Hp) : List V → List Opd → List Addr → Prop
  | nil : RlOs K σ F O [] [] []
  | cons {v : V} {o : Opd} {f : List Addr} {vs : List V} {os : List Opd} {fs : List Addr} (h : RlO K σ F O v o f) (r : RlOs K σ F O vs os fs) : RlOs K σ F O (v :: vs) (o :: os) (f ++ fs)
theorem RlO.alloc {σ : L2.St} {v : V} {o : Opd} {fp : List Addr} (h : RlO K σ F O v o fp) : ∀ a ∈ fp, ∃ o, O a = some o := by
  cases o with
  | s i => obtain ⟨_, rfl⟩ := h; intro a z; cases z
  | t x => exact Rl.alloc h
theorem RlOs.alloc {σ : L2.St} {v : List V} {o : List Opd} {fp : List Addr} (h : RlOs K σ F O v o fp) : ∀ a ∈ fp, ∃ o, O a = some o := by
  induction h with
  | nil => intro a z; cases z
  | cons h r ih => exact fun a z => (List.mem_append.mp z).elim (h.alloc a) (ih a)
theorem Stp.keepO {σ : L2.St} {fs gs fp : List Addr} {v : V} {o : Opd} (x : Stp F O fs F' O' gs) (r : RlO K σ F O v o fp) (d : ∀ a ∈ fp, a ∉ fs) : RlO K σ F' O' v o fp := by
  cases o with
  | s i => exact r
  | t y => exact x.keep (show Rl K F O v y fp from r) d
/-- an operand, looked at: its tree -/
theorem RlO.view {σ : L2.St} {env : Env} {f fp : List Addr} {v : V} {o : Opd} {t : T} (h : RlO K σ F O v o fp) (e : RlE K F O σ env f) (w : vw env o = some t) : ∃ fq, Rl K F O v t fq ∧ ∀ a, fq.count a ≤ (fp ++ f).count a := by
  cases o with
  | s i =>
    obtain ⟨h1, rfl⟩ := h
    have w' : env[i]? = some (some t) := by
      simp only [vw] at w
      split at w
      · next y q => rw [q, Option.some.inj w]
      · cases w
    obtain ⟨v', fq, h2, h3, h4⟩ := e.get w'
    rw [h1] at h2
    cases h2
    exact ⟨fq, h3, fun a => by rw [List.nil_append]; exact h4 a⟩
  | t x =>
    have w' : x = t := Option.some.inj w
    subst w'
    exact ⟨fp, h, fun a => by rw [List.count_append]; omega⟩
theorem RlOs.views {σ : L2.St} {env : Env} {f : List Addr} (e : RlE K F O σ env f) : ∀ {os : List Opd} {vs : List V} {fp : List Addr} {ts : List T}, RlOs K σ F O vs os fp → vws env os = some ts → ∃ fq, Rls K F O vs ts fq
  | [], _, _, _, h, w => by
    cases h
    cases w
    exact ⟨[], .nil⟩
  | o :: os, _, _, ts, h, w => by
    cases h with
    | cons h r =>
      unfold vws at w
      revert w
      cases q : vw env o with
      | none => intro w; cases w
      | some t =>
        cases q2 : vws env os with
        | none => intro w; cases w
        | some us =>
          intro w
          cases w
          obtain ⟨fq, h1, _⟩ := h.view e q
          obtain ⟨fr, h2⟩ := RlOs.views e r q2
          exact ⟨fq ++ fr, .cons h1 h2⟩

/-- what is known at a point: the heap is F and O apart, the slots are these, what is mine is apart -/
structure At (K : PySem.W.Frag) (σ : L2.St) (F O : Hp) (env : Env) (fp f : List Addr) : Prop where
  d : Dis F O
  e : RlE K F O σ env f
  nd : Nd (fp ++ f)
def ESnd (K : PySem.W.Frag) (te : TE) (ev : Ev) : Prop := ∀ env o env', ev env = some (o, env') → ∀ σ F O f, At K σ F O env [] f → ∀ Q : VK,
  (∀ v F' O' fp f', At K σ F' O' env' fp f' → Stp F O f F' O' (fp ++ f') → RlO K σ F' O' v o fp → Q v (jn F' O')) → te σ (jn F O) Q
def ASnd (K : PySem.W.Frag) (ta : TA) (ea : Ea) : Prop := ∀ env os env', ea env = some (os, env') → ∀ σ F O f, At K σ F O env [] f → ∀ Q : List V → Hp → Prop,
  (∀ vs F' O' fp f', At K σ F' O' env' fp f' → Stp F O f F' O' (fp ++ f') → RlOs K σ F' O' vs os fp → Q vs (jn F' O')) → ta σ (jn F O) Q
def TSnd (K : PySem.W.Frag) (tt : TT) (et : Et) : Prop := ∀ env b env', et env = some (b, env') → ∀ σ F O f, At K σ F O env [] f → ∀ Q : Bool → Hp → Prop,
  (∀ F' O' f', At K σ F' O' env' [] f' → Stp F O f F' O' f' → Q b (jn F' O')) → tt σ (jn F O) Q
structure SE (K : PySem.W.Frag) (X : Cx) (e : Expr) (te : TE) (ev : Ev) : Prop where
  p : PE X e te
  s : ESnd K te ev
  k : X.K = K := by rfl
structure SA (K : PySem.W.Frag) (X : Cx) (es : List Expr) (ta : TA) (ea : Ea) : Prop where
  p : PA X es ta
  s : ASnd K ta ea
  k : X.K = K := by rfl
structure ST (K : PySem.W.Frag) (X : Cx) (e : Expr) (tt : TT) (et : Et) : Prop where
  p : PT X e tt
  s : TSnd K tt et
  k : X.K = K := by rfl
/-- a test whatever its whole is -/
structure SW (K : PySem.W.Frag) (X : Cx) (e : Expr) (tt : TT) (et : Et) : Prop where
  p : PW X e tt
  s : TSnd K tt et
  k : X.K = K := by rfl

/-! ### an operation on trees -/
/-- what an operation hands back: new things alone are its own -/
def Back (K : PySem.W.Frag) (F O : Hp) (t : T) (Q : VK) : Prop := ∀ v F' O' fp, Dis F' O' → Stp F O [] F' O' fp → Rl K F' O' v t fp → Nd fp → Q v (jn F' O')
theorem Back.sc {v : V} {t : T} {Q : VK} (b : Back K F O t Q) (d : Dis F O) (h : Rl K F O v t []) : Q v (jn F O) := b v F O [] d Stp.refl h Nd.nil
theorem Back.newL {vs : List V} {ts : List T} {Q : VK} (b : Back K F O (.lst true ts) Q) (d : Dis F O) (h : Rls K F O vs ts []) : ∀ p, jn F O p = none → Q (.ref p) (upd (jn F O) p (.lst vs)) := fun p hp => by
  rw [upd_jn]
  refine b (.ref p) F _ [p] (d.updO (jn_none hp).1) (Stp.newO hp fun a z => List.mem_singleton.mp z) ?_ fun a => ?_
  · exact .lstO (fs := []) upd_same (h.mono (Same.refl F) fun a z => by cases z)
  · exact Nat.le_trans (List.count_le_length ..) (Nat.le_refl _)
theorem Back.newT {vs : List V} {ts : List T} {Q : VK} (b : Back K F O (.tup false ts) Q) (d : Dis F O) (h : Rls K F O vs ts []) : ∀ p, jn F O p = none → Q (.ref p) (upd (jn F O) p (.tup vs)) := fun p hp => by
  rw [upd_jnF (jn_none hp).2]
  exact b (.ref p) _ O [] (d.updF (jn_none hp).2) (Stp.newF hp) (.tupF (.inl (.inl upd_same)) (h.mono (same_new (jn_none hp).1) fun a z => by cases z)) Nd.nil
def OSnd1 (K : PySem.W.Frag) (r : V → Hp → VK → Prop) (f : T → Option T) : Prop := ∀ F O x a fa t, Dis F O → Rl K F O x a fa → f a = some t → ∀ Q : VK, Back K F O t Q → r x (jn F O) Q
def OSnd2 (K : PySem.W.Frag) (r : R2) (f : T → T → Option T) : Prop := ∀ F O x y a b fa fb t, Dis F O → Rl K F O x a fa → Rl K F O y b fb → f a b = some t → ∀ Q : VK, Back K F O t Q → r x y (jn F O) Q
def OSndN (K : PySem.W.Frag) (r : List V → Hp → VK → Prop) (f : List T → Option T) : Prop := ∀ F O xs as fa t, Dis F O → Rls K F O xs as fa → f as = some t → ∀ Q : VK, Back K F O t Q → r xs (jn F O) Q
end
end LP
set_option maxRecDepth 100000
/-! LP: expressions. -/
namespace LP
open PySem L2
section
variable {K : PySem.W.Frag} {F O F' O' F1 O1 F2 O2 : Hp} {σ : L2.St} {env env' : Env} {f f1 f2 fp fp1 fp2 : List Addr}

theorem At.only (a : At K σ F O env fp f) : At K σ F O env [] f := ⟨a.d, a.e, a.nd.right⟩
theorem Stp.snd {fs gs hs : List Addr} (x : Stp F O fs F' O' (gs ++ hs)) : Stp F O fs F' O' hs := x.less fun a z => List.mem_append_right _ z
theorem Stp.none_k {gs : List Addr} (x : Stp F O [] F' O' gs) : ∀ a o, O a = some o → O' a = some o := fun a o e => x.k a o (fun z => by cases z) e
/-- an operation's end -/
theorem fin {t : T} {Q : VK} (a2 : At K σ F2 O2 env' fp2 f2) (st : Stp F O f F2 O2 f2)
    (q : ∀ v F' O' fp f', At K σ F' O' env' fp f' → Stp F O f F' O' (fp ++ f') → RlO K σ F' O' v (.t t) fp → Q v (jn F' O')) : Back K F2 O2 t Q := fun v F3 O3 fp d3 s3 r3 n3 => by
  refine q v F3 O3 fp f2 ⟨d3, a2.e.mono s3.f fun a z o e => s3.none_k a o e, n3.of a2.nd.right fun a z w => ?_⟩ ?_ r3
  · rcases s3.n a z with e | e
    · cases e
    · obtain ⟨o, h⟩ := a2.e.alloc a w
      rw [jn_O h] at e
      cases e
  · have s4 := s3.frame (hs := f2)
    rw [List.append_nil] at s4
    exact (st.trans s4).less fun a z => (List.mem_append.mp z).elim (fun w => List.mem_append_right _ w) fun w => List.mem_append_left _ w
/-- what is stored: nothing owned by a slot -/
def sto (env : Env) : Opd → Option T
  | .s i => match vw env (.s i) with
    | some t => if t.fz then some t else none
    | none => none
  | .t x => some x
def stos (env : Env) : List Opd → Option (List T)
  | [] => some []
  | o :: r => match sto env o with
    | some t => match stos env r with
      | some ts => some (t :: ts)
      | none => none
    | none => none
theorem RlO.store {v : V} {o : Opd} {t : T} (h : RlO K σ F O v o fp) (e : RlE K F O σ env f) (w : sto env o = some t) : Rl K F O v t fp := by
  cases o with
  | s i =>
    simp only [sto] at w
    split at w
    · next y q =>
      split at w
      · next z =>
        have w' : y = t := Option.some.inj w
        subst w'
        obtain ⟨fq, h1, _⟩ := RlO.view (o := .s i) h e q
        obtain ⟨_, rfl⟩ := h
        have := h1.noown z
        subst this
        exact h1
      · cases w
    · cases w
  | t x =>
    have w' : x = t := Option.some.inj w
    subst w'
    exact h
theorem RlOs.stores (e : RlE K F O σ env f) : ∀ {os : List Opd} {vs : List V} {fp : List Addr} {ts : List T}, RlOs K σ F O vs os fp → stos env os = some ts → Rls K F O vs ts fp
  | [], _, _, _, h, w => by
    cases h
    cases w
    exact .nil
  | o :: os, _, _, ts, h, w => by
    cases h with
    | cons h r =>
      simp only [stos] at w
      split at w
      · next t q =>
        split at w
        · next us q2 =>
          cases w
          exact .cons (h.store e q) (RlOs.stores e r q2)
        · cases w
      · cases w

/-! ### names, constants -/
def cV (i : Nat) : Ev := fun env => match env[i]? with
  | some (some _) => some (.s i, env)
  | _ => none
def cK (t : T) : Ev := fun env => some (.t t, env)
/-- the slot's tree goes over; the slot is not read again -/
def cMv (i : Nat) : Ev := fun env => match env[i]? with
  | some (some t) => some (.t t, env.set i none)
  | _ => none
/-- the slot's tree is free from now on -/
def cFz (i : Nat) : Ev := fun env => match env[i]? with
  | some (some t) => some (.t t.er, env.set i (some t.er))
  | _ => none
theorem eV {i : Nat} : ESnd K (tVar i) (cV i) := by
  intro env o env' h σ F O f a0 Q q
  simp only [cV] at h
  split at h
  · next t e =>
    cases h
    obtain ⟨v, fp, h1, h2, h3⟩ := a0.e.get e
    exact ⟨v, h1, q v F O [] f a0 Stp.refl ⟨h1, rfl⟩⟩
  · cases h
theorem eK {v : V} {t : T} (r : ∀ F O, Rl K F O v t []) : ESnd K (tC v) (cK t) := by
  intro env o env' h σ F O f a0 Q q
  cases h
  exact q v F O [] f a0 Stp.refl (r F O)
theorem eMv {i : Nat} : ESnd K (tVar i) (cMv i) := by
  intro env o env' h σ F O f a0 Q q
  simp only [cMv] at h
  split at h
  · next t e =>
    cases h
    obtain ⟨v, fp, f0, h1, h2, h3, h4⟩ := a0.e.out e
    refine ⟨v, h1, q v F O fp f0 ⟨a0.d, h3, a0.nd.sub fun a => by rw [List.count_append]; have := h4 a; simp; omega⟩ (Stp.refl.less fun a z => ?_) h2⟩
    rw [mem_count] at z ⊢
    rw [List.count_append] at z
    have := h4 a
    omega
  · cases h
/-! ### operations -/
def cO1 (g : T → Option T) (a : Ev) : Ev := fun env => match a env with
  | some (o, e) => match vw e o with
    | some x => match g x with
      | some t => some (.t t, e)
      | none => none
    | none => none
  | none => none
def cO2 (g : T → T → Option T) (a b : Ev) : Ev := fun env => match a env with
  | some (o1, e1) => match b e1 with
    | some (o2, e2) => match vw e2 o1, vw e2 o2 with
      | some x, some y => match g x y with
        | some t => some (.t t, e2)
        | none => none
      | _, _ => none
    | none => none
  | none => none
def cON (g : List T → Option T) (a : Ea) : Ev := fun env => match a env with
  | some (os, e) => match vws e os with
    | some xs => match g xs with
      | some t => some (.t t, e)
      | none => none
    | none => none
  | none => none
theorem eO1 {ta : TE} {ea : Ev} {r : V → Hp → VK → Prop} {g : T → Option T} (ha : ESnd K ta ea) (hr : OSnd1 K r g) : ESnd K (tUn r ta) (cO1 g ea) := by
  intro env o env' h σ F O f a0 Q q
  simp only [cO1] at h
  split at h
  · next o1 e1 h1 =>
    split at h
    · next x hx =>
      split at h
      · next t ht =>
        cases h
        refine ha _ _ _ h1 σ F O f a0 _ fun v F1 O1 fp1 f1 a1 s1 r1 => ?_
        obtain ⟨g1, w1, _⟩ := r1.view a1.e hx
        exact hr F1 O1 _ _ _ _ a1.d w1 ht Q (fin a1 s1.snd q)
      · cases h
    · cases h
  · cases h
theorem eO2 {ta tb : TE} {ea eb : Ev} {r : R2} {g : T → T → Option T} (ha : ESnd K ta ea) (hb : ESnd K tb eb) (hr : OSnd2 K r g) : ESnd K (tOp r ta tb) (cO2 g ea eb) := by
  intro env o env' h σ F O f a0 Q q
  simp only [cO2] at h
  split at h
  · next o1 e1 h1 =>
    split at h
    · next o2 e2 h2 =>
      split at h
      · next x y hx hy =>
        split at h
        · next t ht =>
          cases h
          refine ha _ _ _ h1 σ F O f a0 _ fun v F1 O1 fp1 f1 a1 s1 r1 => ?_
          refine hb _ _ _ h2 σ F1 O1 f1 a1.only _ fun v2 F2 O2 fp2 f2 a2 s2 r2 => ?_
          obtain ⟨g1, w1, _⟩ := (s2.keepO r1 fun a z => a1.nd.apart z).view a2.e hx
          obtain ⟨g2, w2, _⟩ := r2.view a2.e hy
          exact hr F2 O2 _ _ _ _ _ _ _ a2.d w1 w2 ht Q (fin a2 (s1.snd.trans s2.snd) q)
        · cases h
      · cases h
    · cases h
  · cases h
theorem eON {ta : TA} {ea : Ea} {r : List V → Hp → VK → Prop} {g : List T → Option T} (ha : ASnd K ta ea) (hr : OSndN K r g) : ESnd K (tCB r ta) (cON g ea) := by
  intro env o env' h σ F O f a0 Q q
  simp only [cON] at h
  split at h
  · next o1 e1 h1 =>
    split at h
    · next x hx =>
      split at h
      · next t ht =>
        cases h
        refine ha _ _ _ h1 σ F O f a0 _ fun v F1 O1 fp1 f1 a1 s1 r1 => ?_
        obtain ⟨g1, w1⟩ := r1.views a1.e hx
        exact hr F1 O1 _ _ _ _ a1.d w1 ht Q (fin a1 s1.snd q)
      · cases h
    · cases h
  · cases h

/-! ### argument lists, displays -/
def aNil : Ea := fun env => some ([], env)
def aCons (a : Ev) (r : Ea) : Ea := fun env => match a env with
  | some (o, e) => match r e with
    | some (os, e2) => some (o :: os, e2)
    | none => none
  | none => none
theorem eaNil : ASnd K tNil aNil := by
  intro env o env' h σ F O f a0 Q q
  cases h
  exact q [] F O [] f a0 Stp.refl .nil
theorem RlOs.keep {fs gs : List Addr} {v : List V} {o : List Opd} (x : Stp F O fs F' O' gs) (r : RlOs K σ F O v o fp) (d : ∀ a ∈ fp, a ∉ fs) : RlOs K σ F' O' v o fp := by
  induction r with
  | nil => exact .nil
  | cons h r ih => exact .cons (x.keepO h fun a z => d a (List.mem_append_left _ z)) (ih fun a z => d a (List.mem_append_right _ z))
theorem eaCons {te : TE} {ta : TA} {ev : Ev} {ea : Ea} (h1 : ESnd K te ev) (h2 : ASnd K ta ea) : ASnd K (tCons te ta) (aCons ev ea) := by
  intro env o env' h σ F O f a0 Q q
  simp only [aCons] at h
  split at h
  · next o1 e1 h3 =>
    split at h
    · next os e2 h4 =>
      cases h
      refine h1 _ _ _ h3 σ F O f a0 _ fun v F1 O1 fp1 f1 a1 s1 r1 => ?_
      refine h2 _ _ _ h4 σ F1 O1 f1 a1.only _ fun vs F2 O2 fp2 f2 a2 s2 r2 => ?_
      have n : Nd (fp1 ++ (fp2 ++ f2)) := s2.nd r1.alloc a1.nd a2.nd
      refine q (v :: vs) F2 O2 (fp1 ++ fp2) f2 ⟨a2.d, a2.e, by rw [List.append_assoc]; exact n⟩ ?_ (.cons (s2.keepO r1 fun a z => a1.nd.apart z) r2)
      have s3 := s2.frame (hs := fp1)
      rw [List.append_assoc]
      exact s1.trans s3
    · cases h
  · cases h
def cLst (a : Ea) : Ev := fun env => match a env with
  | some (os, e) => match stos e os with
    | some ts => if ts.length ≤ sizeLine then some (.t (.lst true ts), e) else none
    | none => none
  | none => none
def cTup (a : Ea) : Ev := fun env => match a env with
  | some (os, e) => match stos e os with
    | some ts => if ts.length ≤ sizeLine then some (.t (.tup (!fzL ts) ts), e) else none
    | none => none
  | none => none
theorem Rls.len : ∀ {vs : List V} {ts : List T} {fs : List Addr}, Rls K F O vs ts fs → vs.length = ts.length
  | _, _, _, .nil => rfl
  | _, _, _, .cons _ r => by rw [List.length_cons, List.length_cons, Rls.len r]
/-- a new object holds things made on the way -/
theorem newObj {p : Addr} {o : HO} (a1 : At K σ F O env fp f) (al : ∀ a ∈ fp, ∃ o, O a = some o) (hp : jn F O p = none) : At K σ F (upd O p o) env (p :: fp) f ∧ Stp F O (fp ++ f) F (upd O p o) ((p :: fp) ++ f) ∧ ∀ a ∈ fp, ∀ u, O a = some u → upd O p o a = some u := by
  have hk : ∀ (a : Addr) (u : HO), O a = some u → upd O p o a = some u := fun a u e => by
    rw [upd_ne fun z => by rw [z, (jn_none hp).2] at e; cases e]
    exact e
  refine ⟨⟨a1.d.updO (jn_none hp).1, a1.e.mono (Same.refl F) fun a _ u e => hk a u e, fun a => ?_⟩, ⟨Same.refl F, fun a u _ e => hk a u e, fun a z => ?_, fun a z => ?_⟩, fun a _ u e => hk a u e⟩
  · have n := a1.nd a
    rw [List.count_append] at n ⊢
    rw [List.count_cons]
    by_cases e : p = a
    · subst e
      have n1 : ¬ 0 < fp.count p := fun z => by
        obtain ⟨u, h⟩ := al p (mem_count.mpr z)
        rw [(jn_none hp).2] at h
        cases h
      have n2 : ¬ 0 < f.count p := fun z => by
        obtain ⟨u, h⟩ := a1.e.alloc p (mem_count.mpr z)
        rw [(jn_none hp).2] at h
        cases h
      rw [beq_self_eq_true, if_pos rfl]
      omega
    · rw [if_neg (by simpa using e)]
      omega
  · rcases List.mem_cons.mp z with rfl | z
    · exact .inr hp
    · exact .inl z
  · rw [← upd_jn, upd_ne fun w => z (by rw [w]; exact hp)]
    exact z
theorem eLst {ta : TA} {ea : Ea} (ha : ASnd K ta ea) : ESnd K (tLst ta) (cLst ea) := by
  intro env o env' h σ F O f a0 Q q
  simp only [cLst] at h
  split at h
  · next os e1 h1 =>
    split at h
    · next ts h2 =>
      split at h
      · next hl =>
        cases h
        refine ha _ _ _ h1 σ F O f a0 _ fun vs F1 O1 fp1 f1 a1 s1 r1 => ?_
        have r2 := r1.stores a1.e h2
        refine ⟨by rw [r2.len]; exact hl, fun p hp => ?_⟩
        rw [upd_jn]
        obtain ⟨a2, s2, k2⟩ := newObj (o := .lst vs) a1 r1.alloc hp
        exact q (.ref p) F1 _ (p :: fp1) f1 a2 (s1.trans s2) (.lstO upd_same (r2.mono (Same.refl _) k2))
      · cases h
    · cases h
  · cases h
theorem eTup {ta : TA} {ea : Ea} (ha : ASnd K ta ea) : ESnd K (tTup ta) (cTup ea) := by
  intro env o env' h σ F O f a0 Q q
  simp only [cTup] at h
  split at h
  · next os e1 h1 =>
    split at h
    · next ts h2 =>
      split at h
      · next hl =>
        cases h
        refine ha _ _ _ h1 σ F O f a0 _ fun vs F1 O1 fp1 f1 a1 s1 r1 => ?_
        have r2 := r1.stores a1.e h2
        refine ⟨by rw [r2.len]; exact hl, fun p hp => ?_⟩
        cases z : fzL ts with
        | false =>
          rw [upd_jn]
          obtain ⟨a2, s2, k2⟩ := newObj (o := .tup vs) a1 r1.alloc hp
          refine q (.ref p) F1 _ (p :: fp1) f1 a2 (s1.trans s2) ?_
          show Rl K F1 _ (V.ref p) (T.tup (!fzL ts) ts) (p :: fp1)
          rw [z]
          exact .tupO upd_same (r2.mono (Same.refl _) k2)
        | true =>
          have e0 := r2.noown z
          subst e0
          have b : Back K F1 O1 (.tup (!fzL ts) ts) Q := fin a1 s1.snd q
          rw [z] at b
          exact b.newT a1.d r2 p hp
      · cases h
    · cases h
  · cases h

/-! ### truth, and, or, not -/
def cTest (a : Ev) : Et := fun env => match a env with
  | some (o, e) => match vw e o with
    | some (.bl b) => some (b, e)
    | _ => none
  | none => none
theorem tTest_ {ta : TE} {ea : Ev} (ha : ESnd K ta ea) : TSnd K (tTest ta) (cTest ea) := by
  intro env o env' h σ F O f a0 Q q
  simp only [cTest] at h
  split at h
  · next o1 e1 h1 =>
    split at h
    · next b hb =>
      cases h
      refine ha _ _ _ h1 σ F O f a0 _ fun v F1 O1 fp1 f1 a1 s1 r1 => ?_
      obtain ⟨g1, w1, _⟩ := r1.view a1.e hb
      cases w1
      exact ⟨_, rfl, q F1 O1 f1 a1.only s1.snd⟩
    · cases h
  · cases h
theorem tB_ {ta : TE} {ea : Ev} (ha : ESnd K ta ea) : TSnd K (tB ta) (cTest ea) := tTest_ ha
def cAnd (a b : Et) : Et := fun env => match a env with
  | some (true, e) => b e
  | some (false, e) => some (false, e)
  | none => none
def cOr (a b : Et) : Et := fun env => match a env with
  | some (true, e) => some (true, e)
  | some (false, e) => b e
  | none => none
def cNot (a : Et) : Et := fun env => match a env with
  | some (b, e) => some (!b, e)
  | none => none
theorem tAnd_ {ta tb : TT} {ea eb : Et} (ha : TSnd K ta ea) (hb : TSnd K tb eb) : TSnd K (tAnd ta tb) (cAnd ea eb) := by
  intro env o env' h σ F O f a0 Q q
  simp only [cAnd] at h
  split at h
  · next e1 h1 =>
    refine ha _ _ _ h1 σ F O f a0 _ fun F1 O1 f1 a1 s1 => ?_
    rw [if_pos rfl]
    exact hb _ _ _ h σ F1 O1 f1 a1 _ fun F2 O2 f2 a2 s2 => q F2 O2 f2 a2 (s1.trans s2)
  · next e1 h1 =>
    cases h
    refine ha _ _ _ h1 σ F O f a0 _ fun F1 O1 f1 a1 s1 => ?_
    rw [if_neg Bool.false_ne_true]
    exact q F1 O1 f1 a1 s1
  · cases h
theorem tOr_ {ta tb : TT} {ea eb : Et} (ha : TSnd K ta ea) (hb : TSnd K tb eb) : TSnd K (tOr ta tb) (cOr ea eb) := by
  intro env o env' h σ F O f a0 Q q
  simp only [cOr] at h
  split at h
  · next e1 h1 =>
    cases h
    refine ha _ _ _ h1 σ F O f a0 _ fun F1 O1 f1 a1 s1 => ?_
    rw [if_pos rfl]
    exact q F1 O1 f1 a1 s1
  · next e1 h1 =>
    refine ha _ _ _ h1 σ F O f a0 _ fun F1 O1 f1 a1 s1 => ?_
    rw [if_neg Bool.false_ne_true]
    exact hb _ _ _ h σ F1 O1 f1 a1 _ fun F2 O2 f2 a2 s2 => q F2 O2 f2 a2 (s1.trans s2)
  · cases h
theorem tNot_ {ta : TT} {ea : Et} (ha : TSnd K ta ea) : TSnd K (tNot ta) (cNot ea) := by
  intro env o env' h σ F O f a0 Q q
  simp only [cNot] at h
  split at h
  · next b e1 h1 =>
    cases h
    exact ha _ _ _ h1 σ F O f a0 _ fun F1 O1 f1 a1 s1 => q F1 O1 f1 a1 s1
  · cases h
/-- as values: all but the last True or False -/
def cAndV (a b : Ev) : Ev := fun env => match a env with
  | some (o, e) => match vw e o with
    | some (.bl true) => b e
    | some (.bl false) => some (.t (.bl false), e)
    | _ => none
  | none => none
def cOrV (a b : Ev) : Ev := fun env => match a env with
  | some (o, e) => match vw e o with
    | some (.bl false) => b e
    | some (.bl true) => some (.t (.bl true), e)
    | _ => none
  | none => none
def cNotV (a : Ev) : Ev := fun env => match a env with
  | some (o, e) => match vw e o with
    | some (.bl b) => some (.t (.bl (!b)), e)
    | _ => none
  | none => none
theorem eAndV {ta tb : TE} {ea eb : Ev} (ha : ESnd K ta ea) (hb : ESnd K tb eb) : ESnd K (tAndV ta tb) (cAndV ea eb) := by
  intro env o env' h σ F O f a0 Q q
  simp only [cAndV] at h
  split at h
  · next o1 e1 h1 =>
    split at h
    · next hx =>
      refine ha _ _ _ h1 σ F O f a0 _ fun v F1 O1 fp1 f1 a1 s1 r1 => ?_
      obtain ⟨g1, w1, _⟩ := r1.view a1.e hx
      cases w1
      refine ⟨_, rfl, ?_⟩
      rw [if_pos rfl]
      exact hb _ _ _ h σ F1 O1 f1 a1.only _ fun v F2 O2 fp2 f2 a2 s2 r2 => q v F2 O2 fp2 f2 a2 (s1.snd.trans s2) r2
    · next hx =>
      cases h
      refine ha _ _ _ h1 σ F O f a0 _ fun v F1 O1 fp1 f1 a1 s1 r1 => ?_
      obtain ⟨g1, w1, _⟩ := r1.view a1.e hx
      cases w1
      refine ⟨_, rfl, ?_⟩
      rw [if_neg Bool.false_ne_true]
      exact q _ F1 O1 [] f1 a1.only s1.snd (Rl.bl _)
    · cases h
  · cases h
def cIf (c : Et) (a b : Ev) : Ev := fun env => match c env with
  | some (true, e) => a e
  | some (false, e) => b e
  | none => none
end
end LP
set_option maxRecDepth 100000
/-! LP: operations on trees. -/
namespace LP
open PySem L2
section
variable {K : PySem.W.Frag} {F O : Hp}
theorem Rl.lstv {v : V} {o : Bool} {xs : List T} {f : List Addr} (d : Dis F O) (h : Rl K F O v (.lst o xs) f) : ∃ a vs fs, v = .ref a ∧ jn F O a = some (.lst vs) ∧ Rls K F O vs xs fs := by
  cases h with
  | lstF h r => exact ⟨_, _, _, rfl, d.jn_F h, r⟩
  | lstO h r => exact ⟨_, _, _, rfl, jn_O h, r⟩
theorem Rl.tupv {v : V} {o : Bool} {xs : List T} {f : List Addr} (d : Dis F O) (h : Rl K F O v (.tup o xs) f) : ∃ a vs fs, v = .ref a ∧ SqT K (jn F O) a vs ∧ Rls K F O vs xs fs := by
  cases h with
  | tupF h r => exact ⟨_, _, _, rfl, Same.seqT d.same h, r⟩
  | tupO h r => exact ⟨_, _, _, rfl, .inl (.inl (jn_O h)), r⟩
theorem Rl.scrv {v : V} {ns : List Int} {f : List Addr} (d : Dis F O) (h : Rl K F O v (.scr ns) f) : ∃ a, v = .ref a ∧ SqL K (jn F O) a (ns.map V.int) := by
  cases h with
  | scr h => exact ⟨_, rfl, d.same.seq h.seq⟩
theorem Rls.append : ∀ {vs ws : List V} {ts us : List T} {f g : List Addr}, Rls K F O vs ts f → Rls K F O ws us g → Rls K F O (vs ++ ws) (ts ++ us) (f ++ g)
  | _, _, _, _, _, _, .nil, s => s
  | _, _, _, _, _, _, .cons h r, s => by
    rw [List.append_assoc]
    exact .cons h (Rls.append r s)
theorem Rls.at : ∀ {vs : List V} {ts : List T} {f : List Addr} {i : Nat} {t : T}, Rls K F O vs ts f → ts[i]? = some t → ∃ v g, vs[i]? = some v ∧ Rl K F O v t g ∧ ∀ a, g.count a ≤ f.count a
  | _, _, _, _, _, .nil, e => by simp at e
  | _, _, _, 0, t', .cons (t := t0) (f := f0) h r, e => by
    have e2 : t0 = t' := by simpa using e
    subst e2
    exact ⟨_, f0, rfl, h, fun a => by rw [List.count_append]; omega⟩
  | _, _, _, i + 1, _, .cons h r, e => by
    obtain ⟨v, g, h1, h2, h3⟩ := Rls.at (i := i) r (by simpa using e)
    exact ⟨v, g, by simpa using h1, h2, fun a => by rw [List.count_append]; have := h3 a; omega⟩
theorem Rls.own0 {vs : List V} {ts : List T} {f : List Addr} (h : Rls K F O vs ts f) (z : fzL ts = true) : Rls K F O vs ts [] := by
  have e := h.noown z
  subst e
  exact h
theorem Rl.own0 {v : V} {t : T} {f : List Addr} (h : Rl K F O v t f) (z : t.fz = true) : Rl K F O v t [] := by
  have e := h.noown z
  subst e
  exact h
/-- all ints -/
def intsL : List T → Option (List Int)
  | [] => some []
  | .int i :: r => match intsL r with
    | some ns => some (i :: ns)
    | none => none
  | _ :: _ => none
/-! ### arithmetic -/
def opI (g : Int → Int → Option Int) : T → T → Option T := fun a b => match a, b with
  | .int i, .int j => match g i j with
    | some k => some (.int k)
    | none => none
  | _, _ => none
def big : Int := 2 ^ 64
theorem okMul_ex : ∃ f : Int → Int → Bool, ∀ i j, f i j = ((decide (-(2 ^ 64) < i) && decide (i < 2 ^ 64)) || (decide (-(2 ^ 64) < j) && decide (j < 2 ^ 64))) := ⟨_, fun _ _ => rfl⟩
/-- one of the two is small (not to be reckoned by the kernel) -/
noncomputable def okMul : Int → Int → Bool := Classical.choose okMul_ex
theorem okMul_eq (i j : Int) : okMul i j = ((decide (-(2 ^ 64) < i) && decide (i < 2 ^ 64)) || (decide (-(2 ^ 64) < j) && decide (j < 2 ^ 64))) := Classical.choose_spec okMul_ex i j
def subT := opI fun i j => some (i - j)
noncomputable def mulT := opI fun i j => if okMul i j then some (i * j) else none
def divT := opI fun i j => if 0 < j ∧ j < 1073741824 then some (i / j) else none
def modT := opI fun i j => if 0 < j then some (i % j) else none
theorem sI {C : Int → Int → Prop} {g : Int → Int → Int} {g' : Int → Int → Option Int} (h : ∀ i j k, g' i j = some k → C i j ∧ g i j = k) : OSnd2 K (rI C fun i j => .int (g i j)) (opI g') := by
  intro F O x y a b fa fb t d ha hb e Q q
  unfold opI at e
  split at e
  · split at e
    · next k hk =>
      cases e
      cases ha
      cases hb
      obtain ⟨h1, h2⟩ := h _ _ _ hk
      refine ⟨_, _, rfl, rfl, h1, ?_⟩
      show Q (V.int (g _ _)) _
      rw [h2]
      exact q.sc d (.int _)
    · cases e
  · cases e
theorem sSub : OSnd2 K (rI0 fun i j => .int (i - j)) subT := by
  intro F O x y a b fa fb t d ha hb e Q q
  unfold subT opI at e
  split at e
  · cases e
    cases ha
    cases hb
    exact ⟨_, _, rfl, rfl, q.sc d (.int _)⟩
  · cases e
theorem sMul : OSnd2 K (rI CMul fun i j => .int (i * j)) mulT := sI fun i j k e => by
  split at e
  · next h =>
    refine ⟨?_, Option.some.inj e⟩
    simp only [okMul_eq, Bool.or_eq_true, Bool.and_eq_true, decide_eq_true_eq] at h
    exact h
  · cases e
theorem sDiv : OSnd2 K (rI CDiv fun i j => .int (i / j)) divT := sI fun i j k e => by
  split at e
  · next h => exact ⟨h, Option.some.inj e⟩
  · cases e
theorem sMod : OSnd2 K (rI (fun _ j => 0 < j) fun i j => .int (i % j)) modT := sI fun i j k e => by
  split at e
  · next h => exact ⟨h, Option.some.inj e⟩
  · cases e
def negT : T → Option T
  | .int i => some (.int (-i))
  | _ => none
theorem sNeg : OSnd1 K (rU fun i => .int (-i)) negT := by
  intro F O x a fa t d ha e Q q
  unfold negT at e
  split at e
  · cases e
    cases ha
    exact ⟨_, rfl, q.sc d (.int _)⟩
  · cases e
/-- + of ints, texts, lists, tuples -/
def addT : T → T → Option T := fun a b => match a, b with
  | .int i, .int j => some (.int (i + j))
  | .str x, .str y => if x.length + y.length ≤ sizeLine then some (.str (x ++ y)) else none
  | .lst _ xs, .lst _ ys => if fzL xs && fzL ys && decide (xs.length + ys.length ≤ sizeLine) then some (.lst true (xs ++ ys)) else none
  | .tup _ xs, .tup _ ys => if fzL xs && fzL ys && !xs.isEmpty && !ys.isEmpty && decide (xs.length + ys.length ≤ sizeLine) then some (.tup false (xs ++ ys)) else none
  | _, _ => none
def rStr2 : R2 := fun x y H Q => ∃ i j, x = .str i ∧ y = .str j ∧ i.length + j.length ≤ sizeLine ∧ Q (.str (i ++ j)) H
def rAddU (K : PySem.W.Frag) : R2 := fun x y H Q => (rI0 fun i j => .int (i + j)) x y H Q ∨ (rStr2 x y H Q ∨ (rCat x y H Q ∨ rCatT K x y H Q))
theorem op_addU {X : Cx} : OpR X (binaryOp .Add) (rAddU X.K) := op_add.or (op_add_str.or (op_cat.or op_catT))
theorem sAdd : OSnd2 K (rAddU K) addT := by
  intro F O x y a b fa fb t d ha hb e Q q
  unfold addT at e
  split at e
  · cases e
    cases ha
    cases hb
    exact .inl ⟨_, _, rfl, rfl, q.sc d (.int _)⟩
  · split at e
    · next h =>
      cases e
      cases ha
      cases hb
      exact .inr (.inl ⟨_, _, rfl, rfl, h, q.sc d (.str _)⟩)
    · cases e
  · split at e
    · next h =>
      cases e
      simp only [Bool.and_eq_true, decide_eq_true_eq] at h
      obtain ⟨p, vs, fs, rfl, h1, r1⟩ := ha.lstv d
      obtain ⟨p2, ws, gs, rfl, h2, r2⟩ := hb.lstv d
      refine .inr (.inr (.inl ⟨_, _, _, _, rfl, rfl, h1, h2, ?_, ?_⟩))
      · rw [r1.len, r2.len]; exact h.2
      · exact q.newL d ((r1.own0 h.1.1).append (r2.own0 h.1.2))
    · cases e
  · split at e
    · next h =>
      cases e
      simp only [Bool.and_eq_true, decide_eq_true_eq, Bool.not_eq_true', List.isEmpty_eq_false_iff] at h
      obtain ⟨p, vs, fs, rfl, h1, r1⟩ := ha.tupv d
      obtain ⟨p2, ws, gs, rfl, h2, r2⟩ := hb.tupv d
      have n1 : vs ≠ [] := fun z => h.1.1.2 (List.length_eq_zero_iff.mp (by rw [← r1.len, z]; rfl))
      have n2 : ws ≠ [] := fun z => h.1.2 (List.length_eq_zero_iff.mp (by rw [← r2.len, z]; rfl))
      refine .inr (.inr (.inr ⟨_, _, _, _, rfl, rfl, h1, h2, n1, ?_, fun z => absurd z n2, fun _ => ?_⟩))
      · rw [r1.len, r2.len]; exact h.2
      · exact q.newT d ((r1.own0 h.1.1.1.1).append (r2.own0 h.1.1.1.2))
    · cases e
  · cases e

/-! ### comparisons -/
def cmpT (g : Int → Int → Bool) : T → T → Option T := fun a b => match a, b with
  | .int i, .int j => some (.bl (g i j))
  | _, _ => none
theorem sCmp {g : Int → Int → Bool} : OSnd2 K (rI0 fun i j => .bl (g i j)) (cmpT g) := by
  intro F O x y a b fa fb t d ha hb e Q q
  unfold cmpT at e
  split at e
  · cases e
    cases ha
    cases hb
    exact ⟨_, _, rfl, rfl, q.sc d (.bl _)⟩
  · cases e
def ltT := cmpT fun i j => decide (i < j)
def leT := cmpT fun i j => decide (i ≤ j)
def gtT := cmpT fun i j => decide (j < i)
def geT := cmpT fun i j => decide (j ≤ i)
mutual
/-- no deeper than n -/
def T.dle : Nat → T → Bool
  | n + 1, .lst _ xs => dleL n xs
  | n + 1, .tup _ xs => dleL n xs
  | _ + 1, .non => true
  | _ + 1, .bl _ => true
  | _ + 1, .int _ => true
  | _ + 1, .str _ => true
  | _, _ => false
def dleL : Nat → List T → Bool
  | _, [] => true
  | n, x :: r => x.dle n && dleL n r
end
mutual
theorem dle_py : ∀ (n : Nat) (t : T), t.dle n = true → t.py.plain = true ∧ t.py.depth ≤ n
  | 0, t, h => by cases t <;> simp [T.dle] at h
  | n + 1, .lst _ xs, h => by
    obtain ⟨h1, h2⟩ := dle_pyL n xs (by simpa [T.dle] using h)
    refine ⟨?_, ?_⟩
    · simp only [T.py, PyData.plain]; exact h1
    · simp only [T.py, PyData.depth]; omega
  | n + 1, .tup _ xs, h => by
    obtain ⟨h1, h2⟩ := dle_pyL n xs (by simpa [T.dle] using h)
    refine ⟨?_, ?_⟩
    · simp only [T.py, PyData.plain]; exact h1
    · simp only [T.py, PyData.depth]; omega
  | n + 1, .non, _ => ⟨rfl, by simp [T.py, PyData.depth]⟩
  | n + 1, .bl _, _ => ⟨rfl, by simp [T.py, PyData.depth]⟩
  | n + 1, .int _, _ => ⟨rfl, by simp [T.py, PyData.depth]⟩
  | n + 1, .str _, _ => ⟨rfl, by simp [T.py, PyData.depth]⟩
  | n + 1, .scr _, h => by simp [T.dle] at h
  | n + 1, .dic _ _ _, h => by simp [T.dle] at h
  | n + 1, .dtu _ _ _, h => by simp [T.dle] at h
theorem dle_pyL : ∀ (n : Nat) (ts : List T), dleL n ts = true → PyData.plainAll (pyL ts) = true ∧ PyData.depthAll (pyL ts) ≤ n
  | n, [], _ => ⟨rfl, by simp [pyL, PyData.depthAll]⟩
  | n, x :: r, h => by
    simp only [dleL, Bool.and_eq_true] at h
    obtain ⟨h1, h2⟩ := dle_py n x h.1
    obtain ⟨h3, h4⟩ := dle_pyL n r h.2
    refine ⟨?_, ?_⟩
    · simp only [pyL, PyData.plainAll, h1, h3, Bool.and_true]
    · simp only [pyL, PyData.depthAll]; omega
end
mutual
theorem dle_nd : ∀ (n : Nat) (t : T), t.dle n = true → t.nd = true
  | 0, t, h => by cases t <;> simp [T.dle] at h
  | n + 1, .lst _ xs, h => by simpa [T.nd] using dle_ndL n xs (by simpa [T.dle] using h)
  | n + 1, .tup _ xs, h => by simpa [T.nd] using dle_ndL n xs (by simpa [T.dle] using h)
  | n + 1, .non, _ => rfl
  | n + 1, .bl _, _ => rfl
  | n + 1, .int _, _ => rfl
  | n + 1, .str _, _ => rfl
  | n + 1, .scr _, h => rfl
  | n + 1, .dic _ _ _, h => by simp [T.dle] at h
  | n + 1, .dtu _ _ _, h => by simp [T.dle] at h
theorem dle_ndL : ∀ (n : Nat) (ts : List T), dleL n ts = true → ndL ts = true
  | n, [], _ => rfl
  | n, x :: r, h => by
    simp only [dleL, Bool.and_eq_true] at h
    simp only [ndL, dle_nd n x h.1, dle_ndL n r h.2, Bool.and_true]
end
/-- == of trees without dicts, no deeper than 16 -/
def eqT : T → T → Option T := fun a b => if a.dle 16 && b.dle 16 then some (.bl (PyData.eqv a.py b.py)) else none
def neT : T → T → Option T := fun a b => if a.dle 16 && b.dle 16 then some (.bl (!PyData.eqv a.py b.py)) else none
def rEqP (K : PySem.W.Frag) (g : Bool → Bool) : R2 := fun x y H Q => ∃ d e, Dp K H x d ∧ Dp K H y e ∧ d.plain = true ∧ e.plain = true ∧ min d.depth e.depth ≤ 64 ∧ Q (.bl (g (PyData.eqv d e))) H
theorem op_eqP {X : Cx} (hu : X.A.units + 64 < cLine) : OpR X (compareOp .Eq) (rEqP X.K fun b => b) := by
  intro pins s σ H x y v u Q I rx ry h
  obtain ⟨d, e, hd, he, sd, se, hz, q⟩ := h
  obtain ⟨as, r1⟩ := Dp.reads I d x v hd rx
  obtain ⟨bs, r2⟩ := Dp.reads I e y u he ry
  exact SeqAt.eq_plain r1 r2 sd se (by omega) ⟨.bl _, H, I, rfl, q⟩
theorem op_neP {X : Cx} (hu : X.A.units + 64 < cLine) : OpR X (compareOp .NotEq) (rEqP X.K fun b => !b) := by
  intro pins s σ H x y v u Q I rx ry h
  obtain ⟨d, e, hd, he, sd, se, hz, q⟩ := h
  obtain ⟨as, r1⟩ := Dp.reads I d x v hd rx
  obtain ⟨bs, r2⟩ := Dp.reads I e y u he ry
  exact SeqAt.ne_plain r1 r2 sd se (by omega) ⟨.bl _, H, I, rfl, q⟩
theorem sEq : OSnd2 K (rEqP K fun b => b) eqT := by
  intro F O x y a b fa fb t d ha hb e Q q
  unfold eqT at e
  split at e
  · next h =>
    cases e
    simp only [Bool.and_eq_true] at h
    obtain ⟨p1, d1⟩ := dle_py _ _ h.1
    obtain ⟨p2, d2⟩ := dle_py _ _ h.2
    exact ⟨_, _, ha.dp d (dle_nd _ _ h.1), hb.dp d (dle_nd _ _ h.2), p1, p2, by omega, q.sc d (.bl _)⟩
  · cases e
theorem sNe : OSnd2 K (rEqP K fun b => !b) neT := by
  intro F O x y a b fa fb t d ha hb e Q q
  unfold neT at e
  split at e
  · next h =>
    cases e
    simp only [Bool.and_eq_true] at h
    obtain ⟨p1, d1⟩ := dle_py _ _ h.1
    obtain ⟨p2, d2⟩ := dle_py _ _ h.2
    exact ⟨_, _, ha.dp d (dle_nd _ _ h.1), hb.dp d (dle_nd _ _ h.2), p1, p2, by omega, q.sc d (.bl _)⟩
  · cases e
def isN : T → Bool
  | .non => true
  | _ => false
/-- x is None, x is not None (the right one written) -/
def isT : T → T → Option T := fun a b => match b with
  | .non => some (.bl (isN a))
  | _ => none
def isNotT : T → T → Option T := fun a b => match b with
  | .non => some (.bl (!isN a))
  | _ => none
/-! ### places, slices -/
def okStr (s : Str) : Bool := decide (s.length ≤ sizeLine)
def ixT : T → T → Option T := fun a b => match a, b with
  | .lst _ xs, .int i => match atI xs i with
    | some t => if t.fz then some t else none
    | none => none
  | .tup _ xs, .int i => match atI xs i with
    | some t => if t.fz then some t else none
    | none => none
  | .scr ns, .int i => match atI ns i with
    | some n => some (.int n)
    | none => none
  | .str s, .int i => if okStr s then match atI s.cps.toList i with
    | some c => some (.str ⟨#[c]⟩)
    | none => none
    else none
  | _, _ => none
theorem Rls.atI {vs : List V} {ts : List T} {f : List Addr} {i : Int} {t : T} (r : Rls K F O vs ts f) (e : L2.atI ts i = some t) : ∃ v g, L2.atI vs i = some v ∧ Rl K F O v t g := by
  unfold L2.atI at e ⊢
  rw [r.len]
  cases q : ixN ts.length i with
  | none => rw [q] at e; cases e
  | some j =>
    rw [q] at e
    obtain ⟨v, g, h1, h2, _⟩ := r.at (show ts[j]? = some t from e)
    exact ⟨v, g, h1, h2⟩
theorem atI_map {α β : Type} (g : α → β) (xs : List α) (i : Int) : L2.atI (xs.map g) i = (L2.atI xs i).map g := by
  unfold L2.atI
  rw [List.length_map]
  cases ixN xs.length i with
  | none => rfl
  | some j => show (xs.map g)[j]? = (xs[j]?).map g; rw [List.getElem?_map]
theorem sIx : OSnd2 K (rIx K) ixT := by
  intro F O x y a b fa fb t d ha hb e Q q
  unfold ixT at e
  split at e
  · split at e
    · next u hu =>
      split at e
      · next z =>
        cases e
        cases hb
        obtain ⟨p, vs, fs, rfl, h1, r1⟩ := ha.lstv d
        obtain ⟨v, g, h2, h3⟩ := r1.atI hu
        exact .inl ⟨_, _, _, _, rfl, rfl, .inl (.inl h1), h2, q.sc d (h3.own0 z)⟩
      · cases e
    · cases e
  · split at e
    · next u hu =>
      split at e
      · next z =>
        cases e
        cases hb
        obtain ⟨p, vs, fs, rfl, h1, r1⟩ := ha.tupv d
        obtain ⟨v, g, h2, h3⟩ := r1.atI hu
        exact .inr (.inl ⟨_, _, _, _, rfl, rfl, h1, h2, q.sc d (h3.own0 z)⟩)
      · cases e
    · cases e
  · split at e
    · next n hn =>
      cases e
      cases hb
      obtain ⟨p, rfl, h1⟩ := ha.scrv d
      exact .inl ⟨_, _, _, _, rfl, rfl, h1, by rw [atI_map, hn]; rfl, q.sc d (.int _)⟩
    · cases e
  · split at e
    · next ho =>
      split at e
      · next c hc =>
        cases e
        cases ha
        cases hb
        exact .inr (.inr ⟨_, _, _, rfl, rfl, of_decide_eq_true ho, hc, q.sc d (.str _)⟩)
      · cases e
    · cases e
  · cases e
end
end LP
set_option maxRecDepth 100000
/-! LP: statements, loops. -/
namespace LP
open PySem L2

inductive Out where
  | nx (e : Env) | rt (t : T) (e : Env) | bk (e : Env) | ct (e : Env)
abbrev S := Env → Option Out
abbrev Tg := T → Env → Option Env
abbrev It := Env → Option (List T × Env)
section
variable {K : PySem.W.Frag} {F O F' O' F1 O1 F2 O2 : Hp} {σ : L2.St} {env env' : Env} {f f1 f2 fp fp1 fp2 : List Addr} {pn : List Nat}

structure Same2 (pn : List Nat) (σ σ' : L2.St) : Prop where
  l : σ'.length = σ.length
  s : ∀ i ∈ pn, σ'[i]? = σ[i]?
theorem Same2.refl : Same2 pn σ σ := ⟨rfl, fun _ _ => rfl⟩
theorem Same2.trans {σ1 σ2 : L2.St} (a : Same2 pn σ σ1) (b : Same2 pn σ1 σ2) : Same2 pn σ σ2 := ⟨b.l.trans a.l, fun i h => (b.s i h).trans (a.s i h)⟩
def EndOk (K : PySem.W.Frag) (pn : List Nat) (σ : L2.St) (F O : Hp) (f : List Addr) (D : Ends) : Out → Prop
  | .nx e => ∀ σ' F' O' f', At K σ' F' O' e [] f' → Stp F O f F' O' f' → Same2 pn σ σ' → D.nx σ' (jn F' O')
  | .bk e => ∀ σ' F' O' f', At K σ' F' O' e [] f' → Stp F O f F' O' f' → Same2 pn σ σ' → D.bk σ' (jn F' O')
  | .ct e => ∀ σ' F' O' f', At K σ' F' O' e [] f' → Stp F O f F' O' f' → Same2 pn σ σ' → D.ct σ' (jn F' O')
  | .rt t e => ∀ v σ' F' O' fp f', At K σ' F' O' e fp f' → Stp F O f F' O' (fp ++ f') → Rl K F' O' v t fp → Same2 pn σ σ' → D.rt v (jn F' O')
theorem EndOk.after {σ1 : L2.St} {o : Out} {D : Ends} (h : EndOk K pn σ F O f D o) (s : Stp F O f F1 O1 f1) (p : Same2 pn σ σ1) : EndOk K pn σ1 F1 O1 f1 D o := by
  cases o with
  | nx e => exact fun σ' F' O' f' a st q => h σ' F' O' f' a (s.trans st) (p.trans q)
  | bk e => exact fun σ' F' O' f' a st q => h σ' F' O' f' a (s.trans st) (p.trans q)
  | ct e => exact fun σ' F' O' f' a st q => h σ' F' O' f' a (s.trans st) (p.trans q)
  | rt t e => exact fun v σ' F' O' fp f' a st r q => h v σ' F' O' fp f' a (s.trans st) r (p.trans q)
def SSnd (K : PySem.W.Frag) (pn : List Nat) (ts : TS) (s : S) : Prop := ∀ env out, s env = some out → ∀ σ F O f, At K σ F O env [] f → ∀ D, EndOk K pn σ F O f D out → ts D σ (jn F O)
structure SS (K : PySem.W.Frag) (X : Cx) (pn : List Nat) (st : Stmt) (ts : TS) (b : S) : Prop where
  p : PS X st ts
  s : SSnd K pn ts b
  k : X.K = K := by rfl
structure SSs (K : PySem.W.Frag) (X : Cx) (pn : List Nat) (st : List Stmt) (ts : TS) (b : S) : Prop where
  p : PSs X st ts
  s : SSnd K pn ts b
  k : X.K = K := by rfl

def cSkip : S := fun env => some (.nx env)
def cSeq (a b : S) : S := fun env => match a env with
  | some (.nx e) => b e
  | some o => some o
  | none => none
theorem sSkip : SSnd K pn tNext cSkip := by
  intro env out h σ F O f a0 D q
  cases h
  exact q σ F O f a0 Stp.refl Same2.refl
theorem sSeq {ta tb : TS} {a b : S} (ha : SSnd K pn ta a) (hb : SSnd K pn tb b) : SSnd K pn (tSeq ta tb) (cSeq a b) := by
  intro env out h σ F O f a0 D q
  simp only [cSeq] at h
  split at h
  · next e h1 => exact ha _ _ h1 σ F O f a0 _ fun σ1 F1 O1 f1 a1 s1 p1 => hb _ _ h σ1 F1 O1 f1 a1 _ (q.after s1 p1)
  · next o h1 h2 =>
    cases h
    refine ha _ _ h2 σ F O f a0 _ ?_
    cases out with
    | nx e => exact (h1 e rfl).elim
    | rt t e => exact q
    | bk e => exact q
    | ct e => exact q
  · cases h
def cBrk : S := fun env => some (.bk env)
def cCnt : S := fun env => some (.ct env)
def cIfS (c : Et) (a b : S) : S := fun env => match c env with
  | some (true, e) => a e
  | some (false, e) => b e
  | none => none
theorem sIf {tc : TT} {ta tb : TS} {c : Et} {a b : S} (hc : TSnd K tc c) (ha : SSnd K pn ta a) (hb : SSnd K pn tb b) : SSnd K pn (tIfS tc ta tb) (cIfS c a b) := by
  intro env out h σ F O f a0 D q
  simp only [cIfS] at h
  split at h
  · next e h1 =>
    refine hc _ _ _ h1 σ F O f a0 _ fun F1 O1 f1 a1 s1 => ?_
    rw [if_pos rfl]
    exact ha _ _ h σ F1 O1 f1 a1 D (q.after s1 Same2.refl)
  · next e h1 =>
    refine hc _ _ _ h1 σ F O f a0 _ fun F1 O1 f1 a1 s1 => ?_
    rw [if_neg Bool.false_ne_true]
    exact hb _ _ h σ F1 O1 f1 a1 D (q.after s1 Same2.refl)
  · cases h
/-- an expression alone -/
def cDrop (a : Ev) : S := fun env => match a env with
  | some (_, e) => some (.nx e)
  | none => none
theorem sDrop {ta : TE} {a : Ev} (ha : ESnd K ta a) : SSnd K pn (tDrop ta) (cDrop a) := by
  intro env out h σ F O f a0 D q
  simp only [cDrop] at h
  split at h
  · next o e h1 =>
    cases h
    exact ha _ _ _ h1 σ F O f a0 _ fun v F1 O1 fp1 f1 a1 s1 r1 => q σ F1 O1 f1 a1.only s1.snd Same2.refl
  · cases h
def cRet (a : Ev) : S := fun env => match a env with
  | some (o, e) => match sto e o with
    | some t => some (.rt t e)
    | none => none
  | none => none
theorem sRet {ta : TE} {a : Ev} (ha : ESnd K ta a) : SSnd K pn (tRet ta) (cRet a) := by
  intro env out h σ F O f a0 D q
  simp only [cRet] at h
  split at h
  · next o e h1 =>
    split at h
    · next t h2 =>
      cases h
      exact ha _ _ _ h1 σ F O f a0 _ fun v F1 O1 fp1 f1 a1 s1 r1 => q v σ F1 O1 fp1 f1 a1 s1 (r1.store a1.e h2) Same2.refl
    · cases h
  · cases h
def cRetN : S := fun env => some (.rt .non env)
/-! ### targets -/
def GSnd (K : PySem.W.Frag) (pn : List Nat) (g : TG) (tg : Tg) : Prop := ∀ x env env', tg x env = some env' → ∀ v σ F O fp f, At K σ F O env fp f → Rl K F O v x fp → ∀ Q : L2.St → Hp → Prop,
  (∀ σ' F' O' f', At K σ' F' O' env' [] f' → Stp F O (fp ++ f) F' O' f' → Same2 pn σ σ' → Q σ' (jn F' O')) → g v σ (jn F O) Q
structure SG (K : PySem.W.Frag) (X : Cx) (pn : List Nat) (e : Expr) (g : TG) (tg : Tg) : Prop where
  p : PG X e g
  s : GSnd K pn g tg
  k : X.K = K := by rfl
def gN (i : Nat) : Tg := fun x env => some (env.set i (some x))
theorem tgN {i : Nat} (hi : i ∉ pn) : GSnd K pn (gName i) (gN i) := by
  intro x env env' h v σ F O fp f a0 r Q q
  cases h
  obtain ⟨f', h1, h2⟩ := a0.e.set (i := i) r
  refine q _ F O f' ⟨a0.d, h1, a0.nd.sub fun a => by simp only [List.count_append, List.count_nil]; have := h2 a; omega⟩ (Stp.refl.less fun a z => ?_) ⟨List.length_set, fun j hj => ?_⟩
  · rw [mem_count] at z ⊢
    rw [List.count_append]
    have := h2 a
    omega
  · rw [List.getElem?_set]
    rw [if_neg fun e => hi (by rw [e]; exact hj)]
abbrev Tgs := List T → Env → Option Env
def GsSnd (K : PySem.W.Frag) (pn : List Nat) (g : TGs) (tg : Tgs) : Prop := ∀ xs env env', tg xs env = some env' → ∀ vs σ F O fp f, At K σ F O env fp f → Rls K F O vs xs fp → ∀ Q : L2.St → Hp → Prop,
  (∀ σ' F' O' f', At K σ' F' O' env' [] f' → Stp F O (fp ++ f) F' O' f' → Same2 pn σ σ' → Q σ' (jn F' O')) → g vs σ (jn F O) Q
structure SGs (K : PySem.W.Frag) (X : Cx) (pn : List Nat) (e : List Expr) (g : TGs) (tg : Tgs) : Prop where
  p : PGs X e g
  s : GsSnd K pn g tg
  k : X.K = K := by rfl
def gN0 : Tgs := fun xs env => match xs with
  | [] => some env
  | _ => none
def gNc (a : Tg) (r : Tgs) : Tgs := fun xs env => match xs with
  | x :: ys => match a x env with
    | some e => r ys e
    | none => none
  | _ => none
theorem tgs0 : GsSnd K pn gNil gN0 := by
  intro xs env env' h vs σ F O fp f a0 r Q q
  simp only [gN0] at h
  split at h
  · cases h
    cases r
    exact ⟨rfl, q σ F O f a0 Stp.refl Same2.refl⟩
  · cases h
theorem tgsC {g : TG} {gs : TGs} {a : Tg} {b : Tgs} (h1 : GSnd K pn g a) (h2 : GsSnd K pn gs b) : GsSnd K pn (gCons g gs) (gNc a b) := by
  intro xs env env' h vs σ F O fp f a0 r Q q
  simp only [gNc] at h
  split at h
  · next x ys =>
    split at h
    · next e he =>
      cases r with
      | cons r rs =>
        next v p vs ps =>
        refine ⟨v, vs, rfl, ?_⟩
        have n0 := a0.nd
        rw [List.append_assoc] at n0
        refine h1 _ _ _ he v σ F O p f ⟨a0.d, a0.e, n0.sub fun a => by simp only [List.count_append]; omega⟩ r _ fun σ1 F1 O1 f1 a1 s1 p1 => ?_
        have ap : ∀ a ∈ ps, a ∉ p ++ f := fun a z w => by
          have := n0 a
          simp only [List.count_append] at this
          rw [mem_count] at z w
          rw [List.count_append] at w
          omega
        have rs' : Rls K F1 O1 vs ys ps := s1.keeps rs ap
        have nd1 : Nd (ps ++ f1) := s1.nd rs.alloc (n0.sub fun a => by simp only [List.count_append]; omega) a1.nd
        refine h2 _ _ _ h vs σ1 F1 O1 ps f1 ⟨a1.d, a1.e, nd1⟩ rs' Q fun σ2 F2 O2 f2 a2 s2 p2 => q σ2 F2 O2 f2 a2 ?_ (p1.trans p2)
        have s3 := (s1.frame (hs := ps)).trans s2
        refine ⟨s3.f, fun a o z e => s3.k a o (fun w => z ?_) e, fun a z => (s3.n a z).elim (fun w => .inl ?_) .inr, s3.g⟩
        · rw [mem_count] at w ⊢
          simp only [List.count_append] at w ⊢
          omega
        · rw [mem_count] at w ⊢
          simp only [List.count_append] at w ⊢
          omega
    · cases h
  · cases h
/-- a, b, .. = a tuple | a list of that length -/
def gUn (n : Nat) (r : Tgs) : Tg := fun x env => match x with
  | .tup _ xs => if xs.length = n then r xs env else none
  | .lst _ xs => if xs.length = n then r xs env else none
  | _ => none
def gSeq (K : PySem.W.Frag) (n : Nat) (t : TGs) : TG := fun v σ H Q => gTup K n t v σ H Q ∨ gLst K n t v σ H Q
theorem pg_seq {X : Cx} {es : List Expr} {k : Nat} {t : TGs} {n : Nat} {pos : Pos} (hc : X.calm = true) (h : PGs X es t)
    (hn : (assignEach es X.env).length = n := by rfl) (hst : (assignEach es X.env).findIdx? (·.1) = none := by rfl) : PG X (.Tuple es k pos) (gSeq X.K n t) := by
  refine ⟨fun pins s σ H v u Q I r hw => ?_⟩
  rcases hw with hw | hw
  · exact (pg_tup hc h hn hst).run pins s σ H v u Q I r hw
  · exact (pg_lst hc h hn hst).run pins s σ H v u Q I r hw
theorem Nd.tail {p : Addr} {l m : List Addr} (h : Nd ((p :: l) ++ m)) : Nd (l ++ m) := h.sub fun a => by
  simp only [List.count_append, List.count_cons]
  omega
theorem tgUn {gs : TGs} {b : Tgs} {n : Nat} (h2 : GsSnd K pn gs b) : GSnd K pn (gSeq K n gs) (gUn n b) := by
  intro x env env' h v σ F O fp f a0 r Q q
  unfold gUn at h
  have more : ∀ {p : Addr} {l : List Addr} {F' O' : Hp} {f' : List Addr}, Stp F O (l ++ f) F' O' f' → Stp F O ((p :: l) ++ f) F' O' f' := fun s =>
    ⟨s.f, fun a o z e => s.k a o (fun w => z (List.mem_cons_of_mem _ w)) e, fun a z => (s.n a z).elim (fun w => .inl (List.mem_cons_of_mem _ w)) .inr, s.g⟩
  split at h
  · split at h
    · next hl =>
      cases r with
      | tupF e r =>
        refine .inl ⟨_, _, rfl, Same.seqT a0.d.same e, by rw [r.len]; exact hl, ?_⟩
        exact h2 _ _ _ h _ σ F O [] f a0 r Q q
      | tupO e r =>
        refine .inl ⟨_, _, rfl, .inl (.inl (jn_O e)), by rw [r.len]; exact hl, ?_⟩
        exact h2 _ _ _ h _ σ F O _ f ⟨a0.d, a0.e, a0.nd.tail⟩ r Q fun σ1 F1 O1 f1 a1 s1 p1 => q σ1 F1 O1 f1 a1 (more s1) p1
    · cases h
  · split at h
    · next hl =>
      cases r with
      | lstF e r =>
        refine .inr ⟨_, _, rfl, .inl (.inl (a0.d.jn_F e)), by rw [r.len]; exact hl, ?_⟩
        exact h2 _ _ _ h _ σ F O [] f a0 r Q q
      | lstO e r =>
        refine .inr ⟨_, _, rfl, .inl (.inl (jn_O e)), by rw [r.len]; exact hl, ?_⟩
        exact h2 _ _ _ h _ σ F O _ f ⟨a0.d, a0.e, a0.nd.tail⟩ r Q fun σ1 F1 O1 f1 a1 s1 p1 => q σ1 F1 O1 f1 a1 (more s1) p1
    · cases h
  · cases h
/-- target = value -/
def cAsg (a : Ev) (g : Tg) : S := fun env => match a env with
  | some (o, e) => match sto e o with
    | some t => match g t e with
      | some e2 => some (.nx e2)
      | none => none
    | none => none
  | none => none
theorem sAsg {ta : TE} {a : Ev} {g : TG} {tg : Tg} (ha : ESnd K ta a) (hg : GSnd K pn g tg) : SSnd K pn (tAsg ta g) (cAsg a tg) := by
  intro env out h σ F O f a0 D q
  simp only [cAsg] at h
  split at h
  · next o e h1 =>
    split at h
    · next t h2 =>
      split at h
      · next e2 h3 =>
        cases h
        refine ha _ _ _ h1 σ F O f a0 _ fun v F1 O1 fp1 f1 a1 s1 r1 => ?_
        exact hg _ _ _ h3 v σ F1 O1 fp1 f1 a1 (r1.store a1.e h2) _ fun σ2 F2 O2 f2 a2 s2 p2 => q σ2 F2 O2 f2 a2 (s1.trans s2) p2
      · cases h
    · cases h
  · cases h
/-- x op= e -/
def cAug (i : Nat) (g : T → T → Option T) (a : Ev) : S := fun env => match env[i]? with
  | some (some _) => match a env with
    | some (o, e) => match e[i]? with
      | some (some x) => match vw e o with
        | some y => match g x y with
          | some t => some (.nx (e.set i (some t)))
          | none => none
        | none => none
      | _ => none
    | none => none
  | _ => none
/-! ### what is walked -/
/-- J yields these trees, one after the other, whatever is free besides -/
def Yields (K : PySem.W.Frag) (J : L2.It) (F : Hp) (items : List T) : Prop := ∀ F' O', Same F F' → Dis F' O' → ∀ i : Nat,
  (∀ t, items[i]? = some t → J.go i (jn F' O') ∧ ∀ x H', J.yld i (jn F' O') x H' → ∃ F2 O2, H' = jn F2 O2 ∧ Dis F2 O2 ∧ Stp F' O' [] F2 O2 [] ∧ Rl K F2 O2 x t []) ∧ (items.length ≤ i → J.stop i (jn F' O'))
def WSnd (K : PySem.W.Frag) (wi : TI) (it : It) : Prop := ∀ env items env', it env = some (items, env') → ∀ σ F O f, At K σ F O env [] f → ∀ R : L2.It → Hp → Prop,
  (∀ J F' O' f', At K σ F' O' env' [] f' → Stp F O f F' O' f' → Yields K J F' items → R J (jn F' O')) → wi σ (jn F O) R
structure SI (K : PySem.W.Frag) (X : Cx) (tg e : Expr) (wi : TI) (it : It) : Prop where
  p : PI X tg e wi
  s : WSnd K wi it
  k : X.K = K := by rfl
theorem Rls.nth {vs : List V} {ts : List T} {i : Nat} {t : T} (r : Rls K F O vs ts []) (e : ts[i]? = some t) : ∃ v, vs[i]? = some v ∧ Rl K F O v t [] := by
  obtain ⟨v, g, h1, h2, h3⟩ := r.at e
  refine ⟨v, h1, ?_⟩
  have : g = [] := by
    cases g with
    | nil => rfl
    | cons a l =>
      have := h3 a
      rw [List.count_cons, beq_self_eq_true, if_pos rfl, List.count_nil] at this
      omega
  rw [this] at h2
  exact h2
/-- a list, a tuple (free) -/
def iLs (a : Ev) : It := fun env => match a env with
  | some (o, e) => match vw e o with
    | some (.lst false xs) => some (xs, e)
    | some (.lst true xs) => match o with
      | .t _ => if fzL xs then some (xs, e) else none
      | .s _ => none
    | _ => none
  | none => none
theorem yieldsL {F : Hp} {a : Addr} {vs : List V} {items : List T} (h : F a = some (.lst vs)) (r : Rls K F O vs items []) : Yields K (Itl K a) F items := by
  intro F' O' s d i
  have hq : SqL K (jn F' O') a vs := .inl (.inl (d.jn_F (s _ _ h)))
  refine ⟨fun t e => ?_, fun hl => ⟨vs, hq, by rw [r.len]; exact hl⟩⟩
  obtain ⟨v, h1, h2⟩ := r.nth e
  refine ⟨⟨vs, v, hq, h1⟩, fun x H' y => ?_⟩
  obtain ⟨rfl, y⟩ := y
  have e2 : vs[i]? = some x := y vs hq
  rw [h1] at e2
  cases e2
  exact ⟨F', O', rfl, d, Stp.refl, h2.mono s fun a z => by cases z⟩
theorem wList {ta : TE} {a : Ev} (ha : ESnd K ta a) : WSnd K (iList K ta) (iLs a) := by
  intro env items env' h σ F O f a0 R q
  simp only [iLs] at h
  split at h
  · next o e h1 =>
    split at h
    · next xs hx =>
      cases h
      refine ha _ _ _ h1 σ F O f a0 _ fun v F1 O1 fp1 f1 a1 s1 r1 => ?_
      obtain ⟨g1, w1, _⟩ := r1.view a1.e hx
      cases w1 with
      | lstF hf r => exact ⟨_, rfl, ⟨_, .inl (.inl (a1.d.jn_F hf))⟩, q _ F1 O1 f1 a1.only s1.snd (yieldsL hf r)⟩
    · next xs hx =>
      split at h
      · next o y =>
        split at h
        · next z =>
          cases h
          refine ha _ _ _ h1 σ F O f a0 _ fun v F1 O1 fp1 f1 a1 s1 r1 => ?_
          have r1 : Rl K F1 O1 v y fp1 := r1
          have hx : y = .lst true items := Option.some.inj hx
          subst hx
          have al := r1.alloc
          cases r1 with
          | lstO hf r =>
            next a vs fs =>
            have r0 := r.own0 z
            have j := jn_toF (F := F1) al
            rw [← j]
            have hF : toF F1 O1 (a :: fs) a = some (.lst vs) := by unfold toF; rw [if_pos (List.mem_cons_self ..)]; exact hf
            have sm := a1.d.same_toF al
            have kk : ∀ b ∈ f1, ∀ u, O1 b = some u → offO O1 (a :: fs) b = some u := fun b z u e => by
              unfold offO
              rw [if_neg fun w => a1.nd.apart w z]
              exact e
            refine ⟨_, rfl, ⟨_, .inl (.inl ((a1.d.toF (fs := a :: fs)).jn_F hF))⟩, q _ _ _ f1 ⟨a1.d.toF, a1.e.mono sm kk, a1.nd.right⟩ ⟨s1.f.trans sm, fun b u n e => ?_, fun b z => s1.n b (List.mem_append_right _ z), fun b n => ?_⟩ (yieldsL (O := O1) hF (r0.mono sm fun b z => by cases z))⟩
            · have e1 := s1.k b u n e
              unfold offO
              rw [if_neg fun w => ?_]
              · exact e1
              · rcases s1.n b (List.mem_append_left _ w) with q | q
                · exact n q
                · rw [jn_O e] at q; cases q
            · rw [j]; exact s1.g b n
        · cases h
      · cases h
    · cases h
  · cases h
def iTp (a : Ev) : It := fun env => match a env with
  | some (o, e) => match vw e o with
    | some (.tup false xs) => some (xs, e)
    | _ => none
  | none => none
theorem wTup {ta : TE} {a : Ev} (ha : ESnd K ta a) : WSnd K (iTup K ta) (iTp a) := by
  intro env items env' h σ F O f a0 R q
  simp only [iTp] at h
  split at h
  · next o e h1 =>
    split at h
    · next xs hx =>
      cases h
      refine ha _ _ _ h1 σ F O f a0 _ fun v F1 O1 fp1 f1 a1 s1 r1 => ?_
      obtain ⟨g1, w1, w0⟩ := r1.view a1.e hx
      clear w0
      cases w1 with
      | tupF hf r =>
        next a vs =>
        refine ⟨_, rfl, ⟨_, Same.seqT a1.d.same hf⟩, q _ F1 O1 f1 a1.only s1.snd ?_⟩
        intro F' O' s d i
        have hq : SqT K (jn F' O') a vs := Same.seqT d.same (Same.seqT s hf)
        refine ⟨fun t e => ?_, fun hl => ⟨vs, hq, by rw [r.len]; exact hl⟩⟩
        obtain ⟨v, h1, h2⟩ := r.nth e
        refine ⟨⟨vs, v, hq, h1⟩, fun x H' y => ?_⟩
        obtain ⟨rfl, y⟩ := y
        have e2 : vs[i]? = some x := y vs hq
        rw [h1] at e2
        cases e2
        exact ⟨F', O', rfl, d, Stp.refl, h2.mono s fun a z => by cases z⟩
    · cases h
  · cases h
/-- the ints from lo, n of them -/
def rngI (lo : Int) (n : Nat) : List T := (List.range n).map fun k : Nat => T.int (lo + (k : Int))
theorem rngI_len (lo : Int) (n : Nat) : (rngI lo n).length = n := by unfold rngI; rw [List.length_map, List.length_range]
theorem rngI_at {lo : Int} {n i : Nat} {t : T} (e : (rngI lo n)[i]? = some t) : i < n ∧ t = .int (lo + (i : Int)) := by
  unfold rngI at e
  rw [List.getElem?_map] at e
  cases q : (List.range n)[i]? with
  | none => rw [q] at e; cases e
  | some k =>
    rw [q] at e
    obtain ⟨h1, h2⟩ := List.getElem?_eq_some_iff.mp q
    rw [List.length_range] at h1
    rw [List.getElem_range] at h2
    subst h2
    exact ⟨h1, (Option.some.inj e).symm⟩
theorem yieldsR {F : Hp} {lo : Int} {n : Nat} : Yields K (Itr lo n) F (rngI lo n) := by
  intro F' O' s d i
  refine ⟨fun t e => ?_, fun hl => by rw [rngI_len] at hl; exact hl⟩
  obtain ⟨h1, rfl⟩ := rngI_at e
  refine ⟨h1, fun x H' y => ?_⟩
  obtain ⟨rfl, rfl⟩ := y
  exact ⟨F', O', rfl, d, Stp.refl, .int _⟩
theorem inR_ex : ∃ f : Int → Bool, ∀ i, f i = (decide (-(2 ^ 62) ≤ i) && decide (i < 2 ^ 62)) := ⟨_, fun _ => rfl⟩
noncomputable def inR : Int → Bool := Classical.choose inR_ex
theorem inR_eq (i : Int) : inR i = (decide (-(2 ^ 62) ≤ i) && decide (i < 2 ^ 62)) := Classical.choose_spec inR_ex i
noncomputable def iR1 (a : Ea) : It := fun env => match a env with
  | some (os, e) => match vws e os with
    | some [.int j] => if inR j then some (rngI 0 j.toNat, e) else none
    | _ => none
  | none => none
noncomputable def iR2 (a : Ea) : It := fun env => match a env with
  | some (os, e) => match vws e os with
    | some [.int i, .int j] => if inR i && inR j then some (rngI i (j - i).toNat, e) else none
    | _ => none
  | none => none
theorem wR1 {ta : TA} {a : Ea} (ha : ASnd K ta a) : WSnd K (iRng1 ta) (iR1 a) := by
  intro env items env' h σ F O f a0 R q
  simp only [iR1] at h
  split at h
  · next o e h1 =>
    split at h
    · next j hx =>
      split at h
      · next z =>
        cases h
        refine ha _ _ _ h1 σ F O f a0 _ fun v F1 O1 fp1 f1 a1 s1 r1 => ?_
        obtain ⟨g1, w1⟩ := r1.views a1.e hx
        simp only [inR_eq, Bool.and_eq_true, decide_eq_true_eq] at z
        cases w1 with
        | cons w w' =>
          cases w
          cases w'
          exact ⟨_, rfl, z.1, z.2, q _ F1 O1 f1 a1.only s1.snd yieldsR⟩
      · cases h
    · cases h
  · cases h
/-! ### for, while -/
def loop (g : Tg) (b : S) : List T → Env → Option Out
  | [], env => some (.nx env)
  | x :: r, env => match g x env with
    | some e1 => match b e1 with
      | some (.nx e2) => loop g b r e2
      | some (.ct e2) => loop g b r e2
      | some (.bk e2) => some (.nx e2)
      | some (.rt t e2) => some (.rt t e2)
      | none => none
    | none => none
def cFor (it : It) (g : Tg) (b : S) : S := fun env => match it env with
  | some (items, e) => loop g b items e
  | none => none
theorem sFor {wi : TI} {it : It} {tg : TG} {g : Tg} {tb : TS} {b : S} (hi : WSnd K wi it) (hg : GSnd K pn tg g) (hb : SSnd K pn tb b) : SSnd K pn (tFor wi tg tb) (cFor it g b) := by
  intro env out h σ F O f a0 D q
  simp only [cFor] at h
  split at h
  · next items e h1 =>
    refine hi _ _ _ h1 σ F O f a0 _ fun J F1 O1 f1 a1 s1 y => ?_
    have q1 := q.after s1 Same2.refl
    refine ⟨fun i m σ' H => ∃ env' F' O' f', H = jn F' O' ∧ m = items.length - i ∧ At K σ' F' O' env' [] f' ∧ Stp F1 O1 f1 F' O' f' ∧ Same2 pn σ σ' ∧ loop g b (items.drop i) env' = some out, ⟨items.length, e, F1, O1, f1, rfl, rfl, a1, Stp.refl, Same2.refl, h⟩, ?_⟩
    rintro i m σ2 H ⟨env2, F2, O2, f2, rfl, rfl, a2, s2, p2, h2⟩
    obtain ⟨y1, y2⟩ := y F2 O2 s2.f a2.d i
    by_cases hl : items.length ≤ i
    · rw [List.drop_eq_nil_of_le hl] at h2
      simp only [loop] at h2
      cases h2
      exact .inl ⟨y2 hl, q1 σ2 F2 O2 f2 a2 s2 p2⟩
    · have hlt : i < items.length := Nat.lt_of_not_le hl
      rw [List.drop_eq_getElem_cons hlt] at h2
      obtain ⟨go, yl⟩ := y1 _ (List.getElem?_eq_getElem hlt)
      refine .inr ⟨go, fun σ' H' => ∃ env' F' O' f', H' = jn F' O' ∧ At K σ' F' O' env' [] f' ∧ Stp F1 O1 f1 F' O' f' ∧ Same2 pn σ σ' ∧ loop g b (items.drop (i + 1)) env' = some out, ?_, fun x H' yx => ?_⟩
      · rintro σ' H' ⟨env', F', O', f', rfl, b1, b2, b3, b4⟩
        exact ⟨items.length - (i + 1), by omega, env', F', O', f', rfl, rfl, b1, b2, b3, b4⟩
      · obtain ⟨F3, O3, rfl, d3, s3, r3⟩ := yl x H' yx
        simp only [loop] at h2
        split at h2
        · next e3 h3 =>
          have a3 : At K σ2 F3 O3 env2 [] f2 := ⟨d3, a2.e.mono s3.f fun a z o e => s3.none_k a o e, a2.nd⟩
          have s23 : Stp F2 O2 f2 F3 O3 f2 := by
            have := s3.frame (hs := f2)
            rw [List.append_nil] at this
            exact this
          refine hg _ _ _ h3 x σ2 F3 O3 [] f2 a3 r3 _ fun σ4 F4 O4 f4 a4 s4 p4 => ?_
          have s14 : Stp F1 O1 f1 F4 O4 f4 := (s2.trans s23).trans s4
          have p14 : Same2 pn σ σ4 := p2.trans p4
          split at h2
          · next e4 h4 => exact hb _ _ h4 σ4 F4 O4 f4 a4 _ fun σ5 F5 O5 f5 a5 s5 p5 => ⟨e4, F5, O5, f5, rfl, a5, s14.trans s5, p14.trans p5, h2⟩
          · next e4 h4 => exact hb _ _ h4 σ4 F4 O4 f4 a4 _ fun σ5 F5 O5 f5 a5 s5 p5 => ⟨e4, F5, O5, f5, rfl, a5, s14.trans s5, p14.trans p5, h2⟩
          · next e4 h4 =>
            cases h2
            exact hb _ _ h4 σ4 F4 O4 f4 a4 _ fun σ5 F5 O5 f5 a5 s5 p5 => q1 σ5 F5 O5 f5 a5 (s14.trans s5) (p14.trans p5)
          · next t e4 h4 =>
            cases h2
            exact hb _ _ h4 σ4 F4 O4 f4 a4 _ fun v σ5 F5 O5 fp5 f5 a5 s5 r5 p5 => q1 v σ5 F5 O5 fp5 f5 a5 (s14.trans s5) r5 (p14.trans p5)
          · cases h2
        · cases h2
  · cases h
end
end LP
set_option maxRecDepth 100000
/-! LP: built-ins, methods of lists, stores. -/
namespace LP
open PySem L2
section
variable {K : PySem.W.Frag} {F O F' O' F1 O1 F2 O2 : Hp} {σ : L2.St} {env env' : Env} {f f1 f2 fp fp1 fp2 : List Addr} {pn : List Nat}

/-! ### built-ins by values -/
def lenT : List T → Option T
  | [.lst _ xs] => some (.int xs.length)
  | [.tup _ xs] => some (.int xs.length)
  | [.scr ns] => some (.int ns.length)
  | [.str s] => if okStr s then some (.int s.length) else none
  | [.dic _ ks _] => some (.int ks.length)
  | _ => none
def rLenU (K : PySem.W.Frag) : List V → Hp → VK → Prop := fun xs H Q => (∃ p ys, xs = [.ref p] ∧ (SqL K H p ys ∨ SqT K H p ys) ∧ Q (.int ys.length) H) ∨ ((∃ z, xs = [.str z] ∧ z.length ≤ sizeLine ∧ Q (.int z.length) H) ∨ (∃ a kvs, xs = [V.ref a] ∧ H a = some (.dK kvs) ∧ Q (.int kvs.length) H))
theorem Rls.one {vs : List V} {t : T} {g : List Addr} (h : Rls K F O vs [t] g) : ∃ v g', vs = [v] ∧ Rl K F O v t g' := by
  cases h with
  | cons h r => cases r; exact ⟨_, _, rfl, h⟩
theorem Rls.two {vs : List V} {t u : T} {g : List Addr} (h : Rls K F O vs [t, u] g) : ∃ v w g' g2, vs = [v, w] ∧ Rl K F O v t g' ∧ Rl K F O w u g2 := by
  cases h with
  | cons h r => obtain ⟨w, g2, rfl, h2⟩ := r.one; exact ⟨_, _, _, _, rfl, h, h2⟩
theorem zipLen {α β : Type} {ks : List α} {vs : List β} (n : ks.length = vs.length) : (ks.zip vs).length = ks.length := by rw [List.length_zip, n, Nat.min_self]
theorem sLen : OSndN K (rLenU K) lenT := by
  intro F O xs as fa t d ha e Q q
  unfold lenT at e
  split at e
  · cases e
    obtain ⟨v, g, rfl, h⟩ := ha.one
    obtain ⟨p, vs, fs, rfl, h1, r1⟩ := h.lstv d
    refine .inl ⟨_, _, rfl, .inl (.inl (.inl h1)), ?_⟩
    rw [r1.len]
    exact q.sc d (.int _)
  · cases e
    obtain ⟨v, g, rfl, h⟩ := ha.one
    obtain ⟨p, vs, fs, rfl, h1, r1⟩ := h.tupv d
    refine .inl ⟨_, _, rfl, .inr h1, ?_⟩
    rw [r1.len]
    exact q.sc d (.int _)
  · cases e
    obtain ⟨v, g, rfl, h⟩ := ha.one
    obtain ⟨p, rfl, h1⟩ := h.scrv d
    refine .inl ⟨_, _, rfl, .inl h1, ?_⟩
    rw [List.length_map]
    exact q.sc d (.int _)
  · split at e
    · next z =>
      cases e
      obtain ⟨v, g, rfl, h⟩ := ha.one
      cases h
      exact .inr (.inl ⟨_, rfl, of_decide_eq_true z, q.sc d (.int _)⟩)
    · cases e
  · cases e
    obtain ⟨v, g, rfl, h⟩ := ha.one
    cases h with
    | dicF e n r =>
      refine .inr (.inr ⟨_, _, rfl, d.jn_F e, ?_⟩)
      rw [zipLen n]
      exact q.sc d (.int _)
    | dicO e n r =>
      refine .inr (.inr ⟨_, _, rfl, jn_O e, ?_⟩)
      rw [zipLen n]
      exact q.sc d (.int _)
  · cases e
def max2T : List T → Option T
  | [.int i, .int j] => some (.int (if j > i then j else i))
  | _ => none
def min2T : List T → Option T
  | [.int i, .int j] => some (.int (if j < i then j else i))
  | _ => none
def intT : List T → Option T
  | [.int i] => some (.int i)
  | [.bl b] => some (.int (if b then 1 else 0))
  | _ => none
/-- list(xs): a list of its own, of what is free -/
def listT : List T → Option T
  | [.lst _ xs] => if fzL xs then some (.lst true xs) else none
  | [.tup _ xs] => if fzL xs then some (.lst true xs) else none
  | _ => none
theorem sList : OSndN K (fun xs H Q => ∃ p ys, xs = [.ref p] ∧ (SqL K H p ys ∨ SqT K H p ys) ∧ ∀ l, H l = none → Q (.ref l) (upd H l (.lst ys))) listT := by
  intro F O xs as fa t d ha e Q q
  unfold listT at e
  split at e
  · split at e
    · next z =>
      cases e
      obtain ⟨v, g, rfl, h⟩ := ha.one
      obtain ⟨p, vs, fs, rfl, h1, r1⟩ := h.lstv d
      exact ⟨_, _, rfl, .inl (.inl (.inl h1)), q.newL d (r1.own0 z)⟩
    · cases e
  · split at e
    · next z =>
      cases e
      obtain ⟨v, g, rfl, h⟩ := ha.one
      obtain ⟨p, vs, fs, rfl, h1, r1⟩ := h.tupv d
      exact ⟨_, _, rfl, .inr h1, q.newL d (r1.own0 z)⟩
    · cases e
  · cases e
/-! ### isinstance(x, T), a built-in T -/
def tyN : T → Option String
  | .non => some "NoneType"
  | .bl _ => some "bool"
  | .int _ => some "int"
  | .str _ => some "str"
  | .lst _ _ => some "list"
  | .tup _ _ => some "tuple"
  | .scr _ => some "list"
  | .dic _ _ _ => some "dict"
  | .dtu _ _ _ => some "dict"
def isiT (c : String) (t : T) : Option T := match tyN t with
  | some n => match kitB n c with
    | some b => some (.bl b)
    | none => none
  | none => none
theorem tyX_of {v : V} {t : T} {g : List Addr} {n : String} (d : Dis F O) (h : Rl K F O v t g) (e : tyN t = some n) : TyX K (jn F O) v (.type n) := by
  cases h with
  | non => cases e; exact .base .non
  | bl b => cases e; exact .base (.bl b)
  | int i => cases e; exact .base (.int i)
  | str s => cases e; exact .base (.str s)
  | scr h =>
    cases e
    rcases h with ⟨o, h⟩ | (h | ⟨o, h⟩) | ⟨o, its, n, h1, h2, _⟩
    · exact .base (.frz (d.jn_F h))
    · cases h
    · cases h
    · exact .kList h1 h2
  | lstF h r => cases e; exact .base (.lst (d.jn_F h))
  | lstO h r => cases e; exact .base (.lst (jn_O h))
  | tupF h r =>
    cases e
    rcases Same.seqT d.same h with (h | ⟨o, h⟩) | ⟨o, its, n, h1, h2, _⟩
    · exact .base (.tup h)
    · exact .fTuple h
    · exact .kTuple h1 h2
  | tupO h r => cases e; exact .base (.tup (jn_O h))
  | dicF h n r => cases e; exact .base (.dK (d.jn_F h))
  | dicO h n r => cases e; exact .base (.dK (jn_O h))
  | dtuF h n r => cases e; exact .base (.dT (d.jn_F h))
  | dtuO h n r => cases e; exact .base (.dT (jn_O h))
def cIsi (c : String) (a : Ev) : Ev := cO1 (isiT c) a
theorem eIsi {ta : TE} {a : Ev} {c : String} (ha : ESnd K ta a) : ESnd K (tCB (rIsi K) (tCons ta (tCons (tC (.ty c)) tNil))) (cIsi c a) := by
  intro env o env' h σ F O f a0 Q q
  simp only [cIsi, cO1] at h
  split at h
  · next o1 e1 h1 =>
    split at h
    · next x hx =>
      split at h
      · next t ht =>
        cases h
        refine ha _ _ _ h1 σ F O f a0 _ fun v F1 O1 fp1 f1 a1 s1 r1 => ?_
        obtain ⟨g1, w1, _⟩ := r1.view a1.e hx
        unfold isiT at ht
        split at ht
        · next n hn =>
          split at ht
          · next b hb =>
            cases ht
            exact ⟨v, .ty c, .type n, .type c, b, rfl, .ty c, tyX_of a1.d w1 hn, kit_ty hb, (fin (t := .bl b) a1 s1.snd q).sc a1.d (.bl b)⟩
          · cases ht
        · cases ht
      · cases h
    · cases h
  · cases h

/-! ### slices -/
def Po := Env → Option (Option Int × Env)
def p0 : Po := fun env => some (none, env)
def p1 (a : Ev) : Po := fun env => match a env with
  | some (o, e) => match vw e o with
    | some (.int i) => some (some i, e)
    | _ => none
  | none => none
def POnd (K : PySem.W.Frag) (tp : TO) (ep : Po) : Prop := ∀ env b env', ep env = some (b, env') → ∀ σ F O f, At K σ F O env [] f → ∀ Q : Option Int → Hp → Prop,
  (∀ F' O' f', At K σ F' O' env' [] f' → Stp F O f F' O' f' → Q b (jn F' O')) → tp σ (jn F O) Q
structure SPo (K : PySem.W.Frag) (X : Cx) (e : Option Expr) (tp : TO) (ep : Po) : Prop where
  p : PO X e tp
  s : POnd K tp ep
  k : X.K = K := by rfl
theorem pP0 : POnd K tNoPart p0 := by
  intro env b env' h σ F O f a0 Q q
  cases h
  exact q F O f a0 Stp.refl
theorem pP1 {ta : TE} {a : Ev} (ha : ESnd K ta a) : POnd K (tPart ta) (p1 a) := by
  intro env b env' h σ F O f a0 Q q
  simp only [p1] at h
  split at h
  · next o e h1 =>
    split at h
    · next i hi =>
      cases h
      refine ha _ _ _ h1 σ F O f a0 _ fun v F1 O1 fp1 f1 a1 s1 r1 => ?_
      obtain ⟨g1, w1, _⟩ := r1.view a1.e hi
      cases w1
      exact ⟨_, rfl, q F1 O1 f1 a1.only s1.snd⟩
    · cases h
  · cases h
def cutL {α : Type} (xs : List α) (lo hi : Option Int) : List α := (xs.drop (HT.sIx xs.length 0 lo)).take (HT.sIx xs.length xs.length hi - HT.sIx xs.length 0 lo)
def slT (t : T) (lo hi : Option Int) : Option T := match t with
  | .lst _ xs => if fzL (cutL xs lo hi) then some (.lst true (cutL xs lo hi)) else none
  | .tup false xs => some (.tup false (cutL xs lo hi))
  | .str s => if okStr s then some (.str (cutS s lo hi)) else none
  | _ => none
def cSl (a : Ev) (lo hi : Po) : Ev := fun env => match a env with
  | some (o, e) => match lo e with
    | some (l, e1) => match hi e1 with
      | some (h, e2) => match vw e2 o with
        | some x => match slT x l h with
          | some t => some (.t t, e2)
          | none => none
        | none => none
      | none => none
    | none => none
  | none => none
def rSlU (K : PySem.W.Frag) : V → Option Int → Option Int → Hp → VK → Prop := fun x lo hi H Q => rSlL K x lo hi H Q ∨ (rSlA K x lo hi H Q ∨ rSlS x lo hi H Q)
theorem sl_U {X : Cx} : SlR X (rSlU X.K) := by
  intro pins s σ H x v vl vu lo hi sl Q I rx hs pl pu h
  rcases h with h | h | h
  · exact sl_list pins s σ H x v vl vu lo hi sl Q I rx hs pl pu h
  · exact sl_tupA pins s σ H x v vl vu lo hi sl Q I rx hs pl pu h
  · exact sl_str pins s σ H x v vl vu lo hi sl Q I rx hs pl pu h
theorem Rls.cut {vs : List V} {ts : List T} (r : Rls K F O vs ts []) (lo hi : Option Int) : Rls K F O (cutV vs lo hi) (cutL ts lo hi) [] := by
  have dr : ∀ (n : Nat) {vs : List V} {ts : List T} {g : List Addr}, Rls K F O vs ts g → ∃ g', Rls K F O (vs.drop n) (ts.drop n) g' ∧ ∀ a, g'.count a ≤ g.count a := by
    intro n
    induction n with
    | zero => exact fun r => ⟨_, r, fun _ => Nat.le_refl _⟩
    | succ n ih =>
      intro vs ts g r
      cases r with
      | nil => exact ⟨[], .nil, fun _ => Nat.le_refl _⟩
      | cons h r =>
        obtain ⟨g', h1, h2⟩ := ih r
        exact ⟨g', h1, fun a => by rw [List.count_append]; have := h2 a; omega⟩
  have tk : ∀ (n : Nat) {vs : List V} {ts : List T} {g : List Addr}, Rls K F O vs ts g → ∃ g', Rls K F O (vs.take n) (ts.take n) g' ∧ ∀ a, g'.count a ≤ g.count a := by
    intro n
    induction n with
    | zero => exact fun r => ⟨[], by rw [List.take_zero, List.take_zero]; exact .nil, fun a => by rw [List.count_nil]; omega⟩
    | succ n ih =>
      intro vs ts g r
      cases r with
      | nil => exact ⟨[], .nil, fun _ => Nat.le_refl _⟩
      | cons h r =>
        obtain ⟨g', h1, h2⟩ := ih r
        exact ⟨_ ++ g', .cons h h1, fun a => by rw [List.count_append, List.count_append]; have := h2 a; omega⟩
  unfold cutV cutL
  rw [r.len]
  obtain ⟨g1, r1, c1⟩ := dr (HT.sIx ts.length 0 lo) r
  obtain ⟨g2, r2, c2⟩ := tk (HT.sIx ts.length ts.length hi - HT.sIx ts.length 0 lo) r1
  have : g2 = [] := by
    cases g2 with
    | nil => rfl
    | cons a l =>
      have e1 := c2 a
      have e2 := c1 a
      rw [List.count_cons, beq_self_eq_true, if_pos rfl] at e1
      rw [List.count_nil] at e2
      omega
  rw [this] at r2
  exact r2
theorem Rls.cutF {vs : List V} {ts : List T} {g : List Addr} (r : Rls K F O vs ts g) (lo hi : Option Int) (z : fzL (cutL ts lo hi) = true) : Rls K F O (cutV vs lo hi) (cutL ts lo hi) [] := by
  have dr : ∀ (n : Nat) {vs : List V} {ts : List T} {g : List Addr}, Rls K F O vs ts g → ∃ g', Rls K F O (vs.drop n) (ts.drop n) g' := by
    intro n
    induction n with
    | zero => exact fun r => ⟨_, r⟩
    | succ n ih =>
      intro vs ts g r
      cases r with
      | nil => exact ⟨[], .nil⟩
      | cons h r => exact ih r
  have tk : ∀ (n : Nat) {vs : List V} {ts : List T} {g : List Addr}, Rls K F O vs ts g → ∃ g', Rls K F O (vs.take n) (ts.take n) g' := by
    intro n
    induction n with
    | zero => exact fun r => ⟨[], by rw [List.take_zero, List.take_zero]; exact .nil⟩
    | succ n ih =>
      intro vs ts g r
      cases r with
      | nil => exact ⟨[], .nil⟩
      | cons h r =>
        obtain ⟨g', h1⟩ := ih r
        exact ⟨_ ++ g', .cons h h1⟩
  unfold cutV
  rw [r.len]
  obtain ⟨g1, r1⟩ := dr (HT.sIx ts.length 0 lo) r
  obtain ⟨g2, r2⟩ := tk (HT.sIx ts.length ts.length hi - HT.sIx ts.length 0 lo) r1
  exact Rls.own0 r2 z
theorem cutL_all {α : Type} (xs : List α) (lo hi : Option Int) (h : HT.sIx xs.length 0 lo = 0 ∧ HT.sIx xs.length xs.length hi = xs.length) : cutL xs lo hi = xs := by
  unfold cutL
  rw [h.1, h.2, List.drop_zero, Nat.sub_zero, List.take_length]
theorem eSl {ta : TE} {a : Ev} {tl th : TO} {lo hi : Po} (ha : ESnd K ta a) (hl : POnd K tl lo) (hh : POnd K th hi) : ESnd K (tSl (rSlU K) ta tl th) (cSl a lo hi) := by
  intro env o env' h σ F O f a0 Q q
  simp only [cSl] at h
  split at h
  · next o1 e1 h1 =>
    split at h
    · next l e2 h2 =>
      split at h
      · next u e3 h3 =>
        split at h
        · next x hx =>
          split at h
          · next t ht =>
            cases h
            refine ha _ _ _ h1 σ F O f a0 _ fun v F1 O1 fp1 f1 a1 s1 r1 => ?_
            refine hl _ _ _ h2 σ F1 O1 f1 a1.only _ fun F2 O2 f2 a2 s2 => ?_
            refine hh _ _ _ h3 σ F2 O2 f2 a2 _ fun F3 O3 f3 a3 s3 => ?_
            have s23 := s2.trans s3
            obtain ⟨g1, w1, _⟩ := (s23.keepO r1 fun a z => a1.nd.apart z).view a3.e hx
            have b : Back K F3 O3 t Q := fin a3 (s1.snd.trans s23) q
            unfold slT at ht
            split at ht
            · split at ht
              · next z =>
                cases ht
                obtain ⟨p, vs, fs, rfl, k1, r2⟩ := w1.lstv a3.d
                exact .inl ⟨_, _, rfl, .inl (.inl k1), b.newL a3.d (r2.cutF l u z)⟩
              · cases ht
            · cases ht
              cases w1 with
              | tupF hf r =>
                refine .inr (.inl ⟨_, _, rfl, Same.seqT a3.d.same hf, fun w => ?_, fun w => b.newT a3.d (r.cut l u)⟩)
                rw [r.len] at w
                rw [cutL_all _ _ _ w] at b
                exact b.sc a3.d (.tupF hf r)
            · split at ht
              · next z =>
                cases ht
                cases w1
                exact .inr (.inr ⟨_, rfl, of_decide_eq_true z, b.sc a3.d (.str _)⟩)
              · cases ht
            · cases ht
          · cases h
        · cases h
      · cases h
    · cases h
  · cases h
end
end LP
set_option maxRecDepth 100000
/-! LP: lists that are changed in place. -/
namespace LP
open PySem L2
section
variable {K : PySem.W.Frag} {F O F' O' F1 O1 F2 O2 : Hp} {σ : L2.St} {env env' : Env} {f f1 f2 fp fp1 fp2 : List Addr} {pn : List Nat}
/-- a list that a slot owns is written -/
theorem wr {i : Nat} {xs : List T} (a1 : At K σ F O env fp f) (al : ∀ a ∈ fp, ∃ o, O a = some o) (e : env[i]? = some (some (.lst true xs))) :
    ∃ p vs fs, σ[i]? = some (some (.ref p)) ∧ O p = some (.lst vs) ∧ Rls K F O vs xs fs ∧ ∀ (vs' : List V) (ts' : List T) (fs' : List Addr), Rls K F O vs' ts' fs' → (∀ a, fs'.count a ≤ fs.count a + fp.count a) →
      ∃ f', At K σ F (upd O p (.lst vs')) (env.set i (some (.lst true ts'))) [] f' ∧ Stp F O (fp ++ f) F (upd O p (.lst vs')) f' ∧ f'.count p = 1 := by
  obtain ⟨v, _, h1, h2, _⟩ := a1.e.get e
  obtain ⟨fq, f0, h3, h4, h5⟩ := a1.e.upd h1 e
  cases h3 with
  | lstO ho r =>
    next p vs fs =>
    refine ⟨p, vs, fs, h1, ho, r, fun vs' ts' fs' r' c => ?_⟩
    have n : ∀ a, fp.count a + ((if p = a then 1 else 0) + fs.count a + f0.count a) ≤ 1 := fun a => by
      have n1 := a1.nd a
      have n2 := h4 a
      rw [List.count_append] at n1
      rw [List.count_cons] at n2
      by_cases z : p = a
      · rw [if_pos z]
        rw [z, beq_self_eq_true, if_pos rfl] at n2
        omega
      · rw [if_neg z]
        rw [if_neg (by simpa using z)] at n2
        omega
    have np : ∀ {l : List Addr}, l.count p = 0 → ∀ a ∈ l, ∀ o, O a = some o → upd O p (.lst vs') a = some o := fun z a w o e => by
      rw [upd_ne fun q => by rw [q, mem_count] at w; omega]
      exact e
    have z1 := n p
    rw [if_pos rfl] at z1
    have c1 := c p
    obtain ⟨f', h6, h7⟩ := h5 F (upd O p (.lst vs')) (.lst true ts') (p :: fs') (Same.refl F) (np (by omega)) (.lstO upd_same (r'.mono (Same.refl F) (np (by omega))))
    have h8 : ∀ a, f'.count a = (if p = a then 1 else 0) + fs'.count a + f0.count a := fun a => by
      have := h7 a
      rw [List.count_cons] at this
      by_cases z : p = a
      · rw [if_pos z]
        rw [z, beq_self_eq_true, if_pos rfl] at this
        omega
      · rw [if_neg z]
        rw [if_neg (by simpa using z)] at this
        omega
    refine ⟨f', ⟨a1.d.updO (a1.d.noF ho), h6, fun a => ?_⟩, ⟨Same.refl F, fun a o z e => ?_, fun a z => .inl ?_, fun a z => ?_⟩, ?_⟩
    · rw [List.nil_append]
      have := h8 a
      have := n a
      have := c a
      omega
    · rw [upd_ne fun q => z ?_]
      · exact e
      · rw [q, mem_count, List.count_append]
        have := h4 p
        rw [List.count_cons, beq_self_eq_true, if_pos rfl] at this
        omega
    · rw [mem_count] at z ⊢
      rw [List.count_append]
      have e1 := h8 a
      have e2 := h4 a
      have e3 := c a
      rw [List.count_cons] at e2
      by_cases w : p = a
      · rw [w, beq_self_eq_true, if_pos rfl] at e2
        omega
      · rw [if_neg w] at e1
        rw [if_neg (by simpa using w)] at e2
        omega
    · rw [← upd_jn]
      by_cases w : a = p
      · rw [w, upd_same]; exact fun z => nomatch z
      · rw [upd_ne w]; exact z
    · have := h8 p
      rw [if_pos rfl] at this
      omega
/-- x.append(e) -/
def cApp (i : Nat) (a : Ev) : Ev := fun env => match env[i]? with
  | some (some (.lst true _)) => match a env with
    | some (o, e) => match e[i]? with
      | some (some (.lst true xs)) => match sto e o with
        | some t => if xs.length < sizeLine then some (.t .non, e.set i (some (.lst true (xs ++ [t])))) else none
        | none => none
      | _ => none
    | none => none
  | _ => none
theorem eApp {i : Nat} {ta : TE} {a : Ev} (ha : ESnd K ta a) : ESnd K (tBM K "list" rAppend (tVar i) (tCons ta tNil)) (cApp i a) := by
  intro env o env' h σ F O f a0 Q q
  simp only [cApp] at h
  split at h
  · next xs0 h0 =>
    split at h
    · next o1 e1 h1 =>
      split at h
      · next xs hx =>
        split at h
        · next t ht =>
          split at h
          · next hz =>
            cases h
            obtain ⟨p0, vs0, fs0, g0, k0, _, _⟩ := wr a0 (fun a z => by cases z) h0
            refine ⟨.ref p0, g0, .inl ⟨rfl, vs0, .inl (.inl (jn_O k0))⟩, ?_⟩
            refine ha _ _ _ h1 σ F O f a0 _ fun v F1 O1 fp1 f1 a1 s1 r1 => ?_
            obtain ⟨p, vs, fs, g1, k1, r2, w⟩ := wr a1 r1.alloc hx
            rw [g0] at g1
            cases g1
            refine ⟨p0, vs, v, rfl, rfl, jn_O k1, by rw [r2.len]; exact hz, ?_⟩
            rw [upd_jn]
            obtain ⟨f', a2, s2, _⟩ := w (vs ++ [v]) (xs ++ [t]) (fs ++ (fp1 ++ [])) (r2.append (.cons (r1.store a1.e ht) .nil)) fun a => by simp only [List.count_append, List.count_nil]; omega
            exact q .non _ _ [] f' a2 (s1.trans s2) .non
          · cases h
        · cases h
      · cases h
    · cases h
  · cases h
/-- x.clear() -/
def cClr (i : Nat) : Ev := fun env => match env[i]? with
  | some (some (.lst true _)) => some (.t .non, env.set i (some (.lst true [])))
  | _ => none
theorem Rls.take {n : Nat} : ∀ {vs : List V} {ts : List T} {g : List Addr}, Rls K F O vs ts g → ∃ g1 g2, Rls K F O (vs.take n) (ts.take n) g1 ∧ Rls K F O (vs.drop n) (ts.drop n) g2 ∧ ∀ a, g1.count a + g2.count a = g.count a := by
  induction n with
  | zero => intro vs ts g r; exact ⟨[], g, by rw [List.take_zero, List.take_zero]; exact .nil, r, fun a => by rw [List.count_nil]; omega⟩
  | succ n ih =>
    intro vs ts g r
    cases r with
    | nil => exact ⟨[], [], .nil, .nil, fun a => rfl⟩
    | cons h r =>
      obtain ⟨g1, g2, h1, h2, h3⟩ := ih r
      exact ⟨_ ++ g1, g2, .cons h h1, h2, fun a => by rw [List.count_append, List.count_append]; have := h3 a; omega⟩
theorem Rls.set {i : Nat} {v : V} {t : T} {g' : List Addr} (h' : Rl K F O v t g') : ∀ {vs : List V} {ts : List T} {g : List Addr}, Rls K F O vs ts g → ∃ g2, Rls K F O (vs.set i v) (ts.set i t) g2 ∧ ∀ a, g2.count a ≤ g.count a + g'.count a := by
  induction i with
  | zero =>
    intro vs ts g r
    cases r with
    | nil => exact ⟨[], .nil, fun a => by rw [List.count_nil]; omega⟩
    | cons h r => exact ⟨_, .cons h' r, fun a => by rw [List.count_append, List.count_append]; omega⟩
  | succ i ih =>
    intro vs ts g r
    cases r with
    | nil => exact ⟨[], .nil, fun a => by rw [List.count_nil]; omega⟩
    | cons h r =>
      obtain ⟨g2, h1, h2⟩ := ih r
      exact ⟨_, .cons h h1, fun a => by rw [List.count_append, List.count_append]; have := h2 a; omega⟩
/-- x[k] = .. (a target) -/
def gIx (i : Nat) (k : Ev) : Tg := fun x env => match env[i]? with
  | some (some _) => match k env with
    | some (o, e) => match vw e o with
      | some (.int n) => match e[i]? with
        | some (some (.lst true xs)) => match ixN xs.length n with
          | some j => some (e.set i (some (.lst true (xs.set j x))))
          | none => none
        | _ => none
      | _ => none
    | none => none
  | _ => none
theorem tgIx {i : Nat} {tk : TE} {k : Ev} (hk : ESnd K tk k) : GSnd K pn (gSub (tVar i) tk rSetL) (gIx i k) := by
  intro x env env' h v σ F O fp f a0 r Q q
  simp only [gIx] at h
  split at h
  · next t0 h0 =>
    split at h
    · next o1 e1 h1 =>
      split at h
      · next n hn =>
        split at h
        · next xs hx =>
          split at h
          · next j hj =>
            cases h
            obtain ⟨v0, _, g0, _, _⟩ := a0.e.get h0
            refine ⟨v0, g0, ?_⟩
            refine hk _ _ _ h1 σ F O f a0.only _ fun vk F1 O1 fp1 f1 a1 s1 r1 => ?_
            obtain ⟨gk, wk, _⟩ := r1.view a1.e hn
            cases wk
            have r' := s1.snd.keep r fun a z => a0.nd.apart z
            have n1 : Nd (fp ++ f1) := s1.snd.nd r.alloc a0.nd a1.nd.right
            obtain ⟨p, vs, fs, g1, k1, r2, w⟩ := wr (⟨a1.d, a1.e, n1⟩ : At K σ F1 O1 e1 fp f1) r'.alloc hx
            rw [g0] at g1
            cases g1
            obtain ⟨g2, r3, c3⟩ := r2.set (i := j) r'
            obtain ⟨f', a2, s2, _⟩ := w _ _ g2 r3 c3
            refine ⟨p, vs, n, j, rfl, rfl, jn_O k1, by rw [r2.len]; exact hj, ?_⟩
            rw [upd_jn]
            exact q σ _ _ f' a2 ((s1.snd.frame (hs := fp)).trans s2) Same2.refl
          · cases h
        · cases h
      · cases h
    · cases h
  · cases h
def addI := opI fun i j => some (i + j)
def subI := opI fun i j => some (i - j)
/-! ### calls -/
/-- a def, as a function on trees: what it hands back, and what its arguments are then -/
abbrev Fn := List T → Option (T × List T)
/-- the promise of a def -/
def spF (K : PySem.W.Frag) (n : Nat) (g : Fn) : Sp := fun vs H Q _ => ∃ F O ts f r outs, vs.length = n ∧ H = jn F O ∧ Dis F O ∧ Rls K F O vs ts f ∧ Nd f ∧ g ts = some (r, outs) ∧
  ∀ v F' O' fp f', Dis F' O' → Stp F O f F' O' (fp ++ f') → Rl K F' O' v r fp → Rls K F' O' vs outs f' → Nd (fp ++ f') → Q v (jn F' O')
/-- the arguments' trees; what is handed over to be changed (true) leaves its slot -/
def cArgs : List Bool → List Opd → Env → Option (List T × Env)
  | [], [], env => some ([], env)
  | true :: m, .s i :: os, env => match env[i]? with
    | some (some t) => match cArgs m os (env.set i none) with
      | some (ts, e) => some (t :: ts, e)
      | none => none
    | _ => none
  | false :: m, .s i :: os, env => match env[i]? with
    | some (some t) => if t.fz then match cArgs m os env with
      | some (ts, e) => some (t :: ts, e)
      | none => none
      else none
    | _ => none
  | false :: m, .t x :: os, env => if x.fz then match cArgs m os env with
      | some (ts, e) => some (x :: ts, e)
      | none => none
      else none
  | _, _, _ => none
def cBack : List Bool → List Opd → List T → Env → Env
  | true :: m, .s i :: os, t :: ts, env => cBack m os ts (env.set i (some t))
  | false :: m, _ :: os, _ :: ts, env => cBack m os ts env
  | _, _, _, env => env
/-- what was made on the way is given free -/
def ers : List Opd → List Opd
  | [] => []
  | .s i :: r => .s i :: ers r
  | .t x :: r => .t x.er :: ers r
mutual
theorem er_fz : ∀ t : T, t.er.fz = true
  | .non => rfl
  | .bl _ => rfl
  | .int _ => rfl
  | .str _ => rfl
  | .scr _ => rfl
  | .lst _ xs => by simp only [T.er, T.fz, erL_fz xs, Bool.not_false, Bool.and_self]
  | .tup _ xs => by simp only [T.er, T.fz, erL_fz xs, Bool.not_false, Bool.and_self]
  | .dic _ _ xs => by simp only [T.er, T.fz, erL_fz xs, Bool.not_false, Bool.and_self]
  | .dtu _ _ xs => by simp only [T.er, T.fz, erL_fz xs, Bool.not_false, Bool.and_self]
theorem erL_fz : ∀ ts : List T, fzL (erL ts) = true
  | [] => rfl
  | x :: r => by simp only [erL, fzL, er_fz x, erL_fz r, Bool.and_self]
end
def cCall (g : Fn) (m : List Bool) (a : Ea) : Ev := fun env => match a env with
  | some (os, e) => match cArgs m (ers os) e with
    | some (ts, e1) => match g ts with
      | some (r, outs) => some (.t r, cBack m (ers os) outs e1)
      | none => none
    | none => none
  | none => none
theorem RlOs.ers {vs : List V} {os : List Opd} (d : Dis F O) {fs : List Addr} (al : ∀ a ∈ fs, ∃ o, O a = some o) (h : RlOs K σ F O vs os fp) (hf : ∀ a ∈ fp, a ∈ fs) : RlOs K σ (toF F O fs) (offO O fs) vs (LP.ers os) [] := by
  induction h with
  | nil => exact .nil
  | cons h r ih =>
    next v o f0 vs os fs0 =>
    have ih := ih fun a z => hf a (List.mem_append_right _ z)
    cases o with
    | s i =>
      obtain ⟨h1, rfl⟩ := h
      exact .cons (o := .s i) (f := []) (fs := []) ⟨h1, rfl⟩ ih
    | t x => exact .cons (o := .t x.er) (f := []) (fs := []) (Rl.erase d al (show Rl K F O v x f0 from h) fun a z => hf a (List.mem_append_left _ z)) ih
/-- the arguments come out of their slots -/
theorem args_out : ∀ {m : List Bool} {os : List Opd} {vs : List V} {env env1 : Env} {ts : List T} {f : List Addr}, RlOs K σ F O vs os [] → RlE K F O σ env f → cArgs m os env = some (ts, env1) →
    ∃ g f1, Rls K F O vs ts g ∧ RlE K F O σ env1 f1 ∧ (∀ a, g.count a + f1.count a = f.count a) ∧
      ∀ (F' O' : Hp) (outs : List T) (g' f1' : List Addr), Rls K F' O' vs outs g' → ∀ env2, RlE K F' O' σ env2 f1' → ∃ f2, RlE K F' O' σ (cBack m os outs env2) f2 ∧ ∀ a, f2.count a ≤ g'.count a + f1'.count a
  | [], [], vs, env, env1, ts, f, h, e, w => by
    cases w
    cases h
    exact ⟨[], f, .nil, e, fun a => by rw [List.count_nil]; omega, fun F' O' outs g' f1' r env2 e2 => ⟨f1', e2, fun a => Nat.le_add_left _ _⟩⟩
  | true :: m, .s i :: os, vs, env, env1, ts, f, h, e, w => by
    simp only [cArgs] at w
    split at w
    · next t ht =>
      split at w
      · next us e2 hu =>
        cases w
        generalize hz : ([] : List Addr) = z at h
        cases h with
        | cons h r =>
          next v g0 vs gs =>
          obtain ⟨hv, rfl⟩ := h
          have hz : gs = [] := by simpa using hz.symm
          subst hz
          obtain ⟨v', fp, f0, k1, k2, k3, k4⟩ := e.out ht
          rw [hv] at k1
          cases k1
          obtain ⟨g, f1, m1, m2, m3, m4⟩ := args_out r k3 hu
          refine ⟨fp ++ g, f1, .cons k2 m1, m2, fun a => by rw [List.count_append]; have := m3 a; have := k4 a; omega, fun F' O' outs g' f1' ro env2 e2 => ?_⟩
          cases ro with
          | cons ho ro =>
            next t' g1 outs g2 =>
            obtain ⟨f3, n1, n2⟩ := e2.set (i := i) ho
            have eσ : σ.set i (some v) = σ := by
              apply List.ext_getElem?
              intro j
              rw [List.getElem?_set]
              split
              · next ij =>
                subst ij
                rw [hv]
                split
                · rfl
                · next hl => exact absurd (List.getElem?_eq_some_iff.mp hv).1 hl
              · rfl
            rw [eσ] at n1
            obtain ⟨f4, n3, n4⟩ := m4 F' O' outs g2 f3 ro _ n1
            exact ⟨f4, n3, fun a => by rw [List.count_append]; have := n4 a; have := n2 a; omega⟩
      · cases w
    · cases w
  | false :: m, .s i :: os, vs, env, env1, ts, f, h, e, w => by
    simp only [cArgs] at w
    split at w
    · next t ht =>
      split at w
      · next fz =>
        split at w
        · next us e2 hu =>
          cases w
          generalize hz : ([] : List Addr) = z at h
          cases h with
          | cons h r =>
            next v g0 vs gs =>
            obtain ⟨hv, rfl⟩ := h
            have hz : gs = [] := by simpa using hz.symm
            subst hz
            obtain ⟨v', fp, k1, k2, k3⟩ := e.get ht
            rw [hv] at k1
            cases k1
            obtain ⟨g, f1, m1, m2, m3, m4⟩ := args_out r e hu
            refine ⟨[] ++ g, f1, .cons (k2.own0 fz) m1, m2, m3, fun F' O' outs g' f1' ro env2 e2 => ?_⟩
            cases ro with
            | cons ho ro =>
              obtain ⟨f4, n3, n4⟩ := m4 F' O' _ _ f1' ro _ e2
              exact ⟨f4, n3, fun a => by rw [List.count_append]; have := n4 a; omega⟩
        · cases w
      · cases w
    · cases w
  | false :: m, .t x :: os, vs, env, env1, ts, f, h, e, w => by
    simp only [cArgs] at w
    split at w
    · next fz =>
      split at w
      · next us e2 hu =>
        cases w
        generalize hz : ([] : List Addr) = z at h
        cases h with
        | cons h r =>
          next v g0 vs gs =>
          have hz2 : g0 = [] ∧ gs = [] := by simpa using hz.symm
          obtain ⟨rfl, rfl⟩ := hz2
          obtain ⟨g, f1, m1, m2, m3, m4⟩ := args_out r e hu
          refine ⟨[] ++ g, f1, .cons (show Rl K F O v x [] from h) m1, m2, m3, fun F' O' outs g' f1' ro env2 e2 => ?_⟩
          cases ro with
          | cons ho ro =>
            obtain ⟨f4, n3, n4⟩ := m4 F' O' _ _ f1' ro _ e2
            exact ⟨f4, n3, fun a => by rw [List.count_append]; have := n4 a; omega⟩
      · cases w
    · cases w
  | [], _ :: _, _, _, _, _, _, _, _, w => by simp [cArgs] at w
  | _ :: _, [], _, _, _, _, _, _, _, w => by simp [cArgs] at w
  | true :: m, .t x :: os, _, _, _, _, _, _, _, w => by simp [cArgs] at w
theorem RlOs.len {vs : List V} {os : List Opd} (h : RlOs K σ F O vs os fp) : vs.length = os.length := by
  induction h with
  | nil => rfl
  | cons _ _ ih => rw [List.length_cons, List.length_cons, ih]
theorem cArgs_len : ∀ {m : List Bool} {os : List Opd} {env env1 : Env} {ts : List T}, cArgs m os env = some (ts, env1) → ts.length = m.length
  | [], [], _, _, _, w => by cases w; rfl
  | true :: m, .s i :: os, env, env1, ts, w => by
    simp only [cArgs] at w
    split at w
    · split at w
      · next hu => cases w; rw [List.length_cons, List.length_cons, cArgs_len hu]
      · cases w
    · cases w
  | false :: m, .s i :: os, env, env1, ts, w => by
    simp only [cArgs] at w
    split at w
    · split at w
      · split at w
        · next hu => cases w; rw [List.length_cons, List.length_cons, cArgs_len hu]
        · cases w
      · cases w
    · cases w
  | false :: m, .t x :: os, env, env1, ts, w => by
    simp only [cArgs] at w
    split at w
    · split at w
      · next hu => cases w; rw [List.length_cons, List.length_cons, cArgs_len hu]
      · cases w
    · cases w
  | [], _ :: _, _, _, _, w => by simp [cArgs] at w
  | _ :: _, [], _, _, _, w => by simp [cArgs] at w
  | true :: m, .t x :: os, _, _, _, w => by simp [cArgs] at w
theorem eCall {ta : TA} {a : Ea} {g : Fn} {m : List Bool} {E : XK} (ha : ASnd K ta a) : ESnd K (tCall (spF K m.length g) [] E ta) (cCall g m a) := by
  intro env o env' h σ F O f a0 Q q
  simp only [cCall] at h
  split at h
  · next os e h1 =>
    split at h
    · next ts e1 h2 =>
      split at h
      · next r outs h3 =>
        cases h
        refine ha _ _ _ h1 σ F O f a0 _ fun vs F1 O1 fp1 f1 a1 s1 r1 => ?_
        have al := r1.alloc
        have d2 : Dis (toF F1 O1 fp1) (offO O1 fp1) := a1.d.toF
        have r2 := r1.ers a1.d al fun a z => z
        have sm := a1.d.same_toF al
        have kk : ∀ b ∈ f1, ∀ u, O1 b = some u → offO O1 fp1 b = some u := fun b z u e => by
          unfold offO
          rw [if_neg fun w => a1.nd.apart w z]
          exact e
        have e2 := a1.e.mono sm kk
        have j := jn_toF (F := F1) al
        obtain ⟨gg, f2, m1, m2, m3, m4⟩ := args_out r2 e2 h2
        have s12 : Stp F O f (toF F1 O1 fp1) (offO O1 fp1) f1 := by
          refine ⟨s1.f.trans sm, fun b u n e => ?_, fun b z => s1.n b (List.mem_append_right _ z), fun b n => ?_⟩
          · have e1 := s1.k b u n e
            unfold offO
            rw [if_neg fun w => ?_]
            · exact e1
            · rcases s1.n b (List.mem_append_left _ w) with q | q
              · exact n q
              · rw [jn_O e] at q; cases q
          · rw [j]; exact s1.g b n
        have n1 := a1.nd.right
        have ngf : Nd (gg ++ f2) := n1.sub fun a => by rw [List.count_append]; have := m3 a; omega
        rw [← j, List.append_nil]
        refine ⟨_, _, ts, gg, r, outs, ?_, rfl, d2, m1, ngf.left, h3, fun v F3 O3 fp3 g3 d3 s3 r3 ro n3 => ?_⟩
        · rw [m1.len, cArgs_len h2]
        · have e3 : RlE K F3 O3 σ e1 f2 := m2.mono s3.f fun a z o e => s3.k a o (fun w => ngf.apart w z) e
          obtain ⟨f4, k1, k2⟩ := m4 F3 O3 outs g3 f2 ro e1 e3
          have big : Nd ((fp3 ++ g3) ++ f2) := n3.of ngf.right fun a z w => by
            rcases s3.n a z with q | q
            · exact ngf.apart q w
            · obtain ⟨o, e⟩ := m2.alloc a w
              rw [jn_O e] at q
              cases q
          refine q v F3 O3 fp3 f4 ⟨d3, k1, big.sub fun a => by simp only [List.count_append]; have := k2 a; omega⟩ (s12.trans ⟨s3.f, fun a o z e => s3.k a o (fun w => z ?_) e, fun a z => ?_, s3.g⟩) r3
          · rw [mem_count] at w ⊢
            have := m3 a
            omega
          · have z' : a ∈ fp3 ++ g3 ∨ a ∈ f2 := by
              rw [mem_count, List.count_append] at z
              rw [mem_count, mem_count, List.count_append]
              have := k2 a
              omega
            rcases z' with w | w
            · rcases s3.n a w with q | q
              · refine .inl ?_
                rw [mem_count] at q ⊢
                have := m3 a
                omega
              · exact .inr q
            · refine .inl ?_
              rw [mem_count] at w ⊢
              have := m3 a
              omega
      · cases h
    · cases h
  · cases h
end
end LP
set_option maxRecDepth 100000
/-! LP: what is lent; comprehensions; a def's body. -/
namespace LP
open PySem L2
section
variable {K : PySem.W.Frag} {F O F' O' F1 O1 F2 O2 : Hp} {σ : L2.St} {env env' : Env} {f f1 f2 fp fp1 fp2 : List Addr} {pn : List Nat}

/-! ### lending -/
mutual
/-- no tuple in it is owned -/
def T.nt : T → Bool
  | .lst _ xs => ntL xs
  | .tup o xs => !o && ntL xs
  | .dic _ _ vs => ntL vs
  | .dtu _ _ vs => ntL vs
  | .non => true
  | .bl _ => true
  | .int _ => true
  | .str _ => true
  | .scr _ => true
def ntL : List T → Bool
  | [] => true
  | x :: r => x.nt && ntL r
end
def ntE : Env → Bool
  | [] => true
  | none :: r => ntE r
  | some t :: r => t.nt && ntE r
def erE : Env → Env
  | [] => []
  | none :: r => none :: erE r
  | some t :: r => some t.er :: erE r
mutual
theorem Rl.ld : ∀ {v : V} {t : T} {f : List Addr}, Rl K F O v t f → t.nt = true → ∀ a ∈ f, LD (O a)
  | _, _, _, .non, _, _, z => by cases z
  | _, _, _, .bl b, _, _, z => by cases z
  | _, _, _, .int b, _, _, z => by cases z
  | _, _, _, .str b, _, _, z => by cases z
  | _, _, _, .scr h, _, _, z => by cases z
  | _, _, _, .lstF h r, _, _, z => by cases z
  | _, _, _, .lstO h r, n, a, z => (List.mem_cons.mp z).elim (fun e => by rw [e, h]; exact .inl ⟨_, rfl⟩) (Rls.ld r (by simpa [T.nt] using n) a)
  | _, _, _, .tupF h r, _, _, z => by cases z
  | _, _, _, .tupO h r, n, a, z => by simp [T.nt] at n
  | _, _, _, .dicF h m r, _, _, z => by cases z
  | _, _, _, .dicO h m r, n, a, z => (List.mem_cons.mp z).elim (fun e => by rw [e, h]; exact .inr (.inl ⟨_, rfl⟩)) (Rls.ld r (by simpa [T.nt] using n) a)
  | _, _, _, .dtuF h m r, _, _, z => by cases z
  | _, _, _, .dtuO h m r, n, a, z => (List.mem_cons.mp z).elim (fun e => by rw [e, h]; exact .inr (.inr ⟨_, rfl⟩)) (Rls.ld r (by simpa [T.nt] using n) a)
theorem Rls.ld : ∀ {v : List V} {t : List T} {f : List Addr}, Rls K F O v t f → ntL t = true → ∀ a ∈ f, LD (O a)
  | _, _, _, .nil, _, _, z => by cases z
  | _, _, _, .cons h r, n, a, z => by
    rw [ntL, Bool.and_eq_true] at n
    exact (List.mem_append.mp z).elim (Rl.ld h n.1 a) (Rls.ld r n.2 a)
end
theorem RlE.ld : ∀ {σ : L2.St} {env : Env} {f : List Addr}, RlE K F O σ env f → ntE env = true → ∀ a ∈ f, LD (O a)
  | _, _, _, .nil, _, _, z => by cases z
  | _, _, _, .non r, n, a, z => RlE.ld r (by simpa [ntE] using n) a z
  | _, _, _, .som h r, n, a, z => by
    rw [ntE, Bool.and_eq_true] at n
    exact (List.mem_append.mp z).elim (h.ld n.1 a) (RlE.ld r n.2 a)
theorem RlE.erase (d : Dis F O) {fs : List Addr} (al : ∀ a ∈ fs, ∃ o, O a = some o) : ∀ {σ : L2.St} {env : Env} {f : List Addr}, RlE K F O σ env f → (∀ a ∈ f, a ∈ fs) → RlE K (toF F O fs) (offO O fs) σ (erE env) []
  | _, _, _, .nil, _ => .nil
  | _, _, _, .non r, k => .non (RlE.erase d al r k)
  | _, _, _, .som h r, k => .som (f := []) (fs := []) (h.erase d al fun a z => k a (List.mem_append_left _ z)) (RlE.erase d al r fun a z => k a (List.mem_append_right _ z))
/-- all that the slots own is lent while it is reckoned; what comes back holds no list of another's -/
def cLend (a : Ev) : Ev := fun env => if ntE env then match a (erE env) with
  | some (.t r, _) => if r.nl then some (.t r, env) else none
  | _ => none
  else none
theorem eLend {ta : TE} {a : Ev} (ha : ESnd K ta a) : ESnd K ta (cLend a) := by
  intro env o env' h σ F O f a0 Q q
  simp only [cLend] at h
  split at h
  · next hn =>
    split at h
    · next r e h1 =>
      split at h
      · next hr =>
        cases h
        have al := a0.e.alloc
        have j := jn_toF (F := F) al
        have e1 := a0.e.erase a0.d al fun a z => z
        have d1 : Dis (toF F O f) (offO O f) := a0.d.toF
        rw [← j]
        refine ha _ _ _ h1 σ _ _ [] ⟨d1, e1, Nd.nil⟩ _ fun v F1 O1 fp f1 a1 s1 r1 => ?_
        have r1 : Rl K F1 O1 v r fp := r1
        have hF : ∀ a ∈ f, F1 a = O a := fun a z => by
          obtain ⟨u, hu⟩ := al a z
          have : toF F O f a = some u := by unfold toF; rw [if_pos z]; exact hu
          rw [s1.f a u this, hu]
        have hO : ∀ a ∈ f, O1 a = none := fun a z => by
          obtain ⟨u, hu⟩ := al a z
          exact a1.d.noO ((hF a z).trans hu)
        have ld : ∀ a ∈ f, LD (F1 a) := fun a z => by rw [hF a z]; exact a0.e.ld hn a z
        have rb := Rl.back (O1 := O) ld hO r1 hr
        have jj : jn (backF F1 f) (backO O O1 f) = jn F1 O1 := by
          funext a
          by_cases z : a ∈ f
          · obtain ⟨u, hu⟩ := al a z
            rw [jn_O (show backO O O1 f a = some u by unfold backO; rw [if_pos z]; exact hu), a1.d.jn_F ((hF a z).trans hu)]
          · unfold jn backO backF
            rw [if_neg z, if_neg z]
        have sF : Same F (backF F1 f) := fun a u e => by
          have z : a ∉ f := fun z => by
            obtain ⟨w, hw⟩ := al a z
            rw [a0.d.noO e] at hw
            cases hw
          unfold backF
          rw [if_neg z]
          exact s1.f a u (a0.d.same_toF al a u e)
        have kO : ∀ a u, O a = some u → backO O O1 f a = some u := fun a u e => by
          unfold backO
          by_cases z : a ∈ f
          · rw [if_pos z]; exact e
          · rw [if_neg z]
            exact s1.k a u (fun w => by cases w) (show offO O f a = some u by unfold offO; rw [if_neg z]; exact e)
        have dd : Dis (backF F1 f) (backO O O1 f) := fun a => by
          unfold backF backO
          by_cases z : a ∈ f
          · rw [if_pos z]; exact .inl rfl
          · rw [if_neg z, if_neg z]; exact a1.d a
        have new : ∀ a ∈ fp, jn F O a = none := fun a z => by
          rcases s1.n a (List.mem_append_left _ z) with q | q
          · cases q
          · rw [j] at q; exact q
        rw [← jj]
        refine q v _ _ fp f ⟨dd, a0.e.mono sF fun a _ u e => kO a u e, a1.nd.left.of a0.nd.right fun a z w => ?_⟩ ⟨sF, fun a u _ e => kO a u e, fun a z => ?_, fun a z => ?_⟩ rb
        · obtain ⟨u, hu⟩ := al a w
          have := new a z
          rw [jn_O hu] at this
          cases this
        · rcases List.mem_append.mp z with w | w
          · exact .inr (new a w)
          · exact .inl w
        · rw [jj]
          refine s1.g a ?_
          rw [j]
          exact z
      · cases h
    · cases h
  · cases h

/-! ### comprehensions -/
def wipeE (env : Env) : List Nat → Env
  | [] => env
  | v :: vs => (wipeE env vs).set v none
theorem RlE.kill {x : Option V} : ∀ {σ : L2.St} {env : Env} {f : List Addr} {i : Nat}, RlE K F O σ env f → ∃ f', RlE K F O (σ.set i x) (env.set i none) f' ∧ ∀ a, f'.count a ≤ f.count a
  | _, _, _, _, .nil => ⟨[], .nil, fun _ => Nat.le_refl _⟩
  | _, _, _, 0, .non (fs := fs) r => ⟨fs, .non r, fun _ => Nat.le_refl _⟩
  | _, _, _, i + 1, .non r => by
    obtain ⟨f', h1, h2⟩ := RlE.kill (i := i) r
    exact ⟨f', .non h1, h2⟩
  | _, _, _, 0, .som (fs := fs) h r => ⟨fs, .non r, fun a => by rw [List.count_append]; omega⟩
  | _, _, _, i + 1, .som (f := f0) h r => by
    obtain ⟨f', h1, h2⟩ := RlE.kill (i := i) r
    exact ⟨f0 ++ f', .som h h1, fun a => by rw [List.count_append, List.count_append]; have := h2 a; omega⟩
theorem RlE.wipe (e : RlE K F O σ env f) : ∀ vs : List Nat, ∃ f', RlE K F O (L2.wipe σ vs) (wipeE env vs) f' ∧ ∀ a, f'.count a ≤ f.count a
  | [] => ⟨f, e, fun _ => Nat.le_refl _⟩
  | v :: vs => by
    obtain ⟨f1, h1, h2⟩ := RlE.wipe e vs
    obtain ⟨f2, h3, h4⟩ := h1.kill (i := v) (x := none)
    exact ⟨f2, h3, fun a => Nat.le_trans (h4 a) (h2 a)⟩
theorem RlE.cong : ∀ {σ σ' : L2.St} {env : Env} {f : List Addr}, RlE K F O σ env f → σ'.length = σ.length → (∀ (i : Nat) (t : T), env[i]? = some (some t) → σ'[i]? = σ[i]?) → RlE K F O σ' env f
  | _, [], _, _, .nil, _, _ => .nil
  | _, [], _, _, .non _, l, _ => by simp at l
  | _, [], _, _, .som _ _, l, _ => by simp at l
  | _, _ :: _, _, _, .nil, l, _ => by simp at l
  | _, y :: s, _, _, .non r, l, k => .non (RlE.cong r (by simpa using l) fun i t e => by simpa using k (i + 1) t (by simpa using e))
  | _, y :: s, _, _, .som (v := v0) h r, l, k => by
    have e := k 0 _ rfl
    have e : y = some v0 := by simpa using e
    rw [e]
    exact .som h (RlE.cong r (by simpa using l) fun i t e => by simpa using k (i + 1) t (by simpa using e))
theorem wipeE_at {env : Env} {i : Nat} {t : T} : ∀ {vs : List Nat}, (wipeE env vs)[i]? = some (some t) → env[i]? = some (some t) ∧ i ∉ vs
  | [], h => ⟨h, by simp⟩
  | v :: vs, h => by
    unfold wipeE at h
    rw [List.getElem?_set] at h
    split at h
    · split at h <;> cases h
    · next ne =>
      obtain ⟨h1, h2⟩ := wipeE_at h
      exact ⟨h1, by simp only [List.mem_cons, not_or]; exact ⟨fun e => ne e.symm, h2⟩⟩
theorem wipe_at {σ : L2.St} {i : Nat} : ∀ {vs : List Nat}, i ∉ vs → (L2.wipe σ vs)[i]? = σ[i]?
  | [], _ => rfl
  | v :: vs, h => by
    unfold L2.wipe
    rw [List.getElem?_set, if_neg fun e => h (by rw [e]; exact List.mem_cons_self ..)]
    exact wipe_at fun z => h (List.mem_cons_of_mem _ z)
theorem wipe_same {σ σ2 : L2.St} {vs : List Nat} (l : σ2.length = σ.length) (h : ∀ i, i ∉ vs → σ2[i]? = σ[i]?) : L2.wipe σ2 vs = L2.wipe σ vs := by
  apply List.ext_getElem?
  intro i
  by_cases z : i ∈ vs
  · have : ∀ (τ : L2.St) (ws : List Nat), i ∈ ws → (L2.wipe τ ws)[i]? = if i < τ.length then some none else none := by
      intro τ ws
      induction ws with
      | nil => intro z; cases z
      | cons v ws ih =>
        intro z
        unfold L2.wipe
        rw [List.getElem?_set, wipe_length]
        split
        · next e => subst e; rfl
        · next e =>
          refine ih ?_
          rcases List.mem_cons.mp z with q | q
          · exact absurd q.symm e
          · exact q
    rw [this _ _ z, this _ _ z, l]
  · rw [wipe_at z, wipe_at z, h i z]
theorem wipe_wipe {σ : L2.St} {vs : List Nat} : L2.wipe (L2.wipe σ vs) vs = L2.wipe σ vs := wipe_same (wipe_length ..) fun i z => wipe_at z
/-- the block's own slots, as they stood: nothing or something free -/
def bring (env0 : Env) : List Nat → Env → Option Env
  | [], e => some e
  | v :: vs, e => match bring env0 vs e with
    | some e1 => match env0[v]? with
      | some (some t) => if t.fz then some (e1.set v (some t)) else none
      | _ => some e1
    | none => none
theorem set_self {v : V} {i : Nat} (h : σ[i]? = some (some v)) : σ.set i (some v) = σ := by
  apply List.ext_getElem?
  intro j
  rw [List.getElem?_set]
  split
  · next ij =>
    subst ij
    rw [h]
    split
    · rfl
    · next hl => exact absurd (List.getElem?_eq_some_iff.mp h).1 hl
  · rfl
theorem RlE.bring {env0 : Env} {f0 : List Addr} (e0 : RlE K F O σ env0 f0) (s : Same F F') : ∀ {vs : List Nat} {e e' : Env} {g : List Addr}, RlE K F' O' σ e g → LP.bring env0 vs e = some e' → ∃ g', RlE K F' O' σ e' g' ∧ ∀ a, g'.count a ≤ g.count a
  | [], e, e', g, r, h => by cases h; exact ⟨g, r, fun _ => Nat.le_refl _⟩
  | v :: vs, e, e', g, r, h => by
    simp only [LP.bring] at h
    split at h
    · next e1 h1 =>
      obtain ⟨g1, r1, c1⟩ := RlE.bring e0 s r h1
      split at h
      · next t ht =>
        split at h
        · next z =>
          cases h
          obtain ⟨w, fq, k1, k2, _⟩ := e0.get ht
          obtain ⟨g2, r2, c2⟩ := r1.set (i := v) ((k2.own0 z).mono (O' := O') s fun a z => by cases z)
          rw [set_self k1] at r2
          exact ⟨g2, r2, fun a => by have h2 := c2 a; have h1 := c1 a; rw [List.count_nil] at h2; omega⟩
        · cases h
      · cases h
        exact ⟨g1, r1, c1⟩
    · cases h
def lcLoop (vs : List Nat) (g : Tg) (c : Et) (a : Ev) : List T → List T → Env → Option (List T × Env)
  | [], acc, env => some (acc, env)
  | x :: r, acc, env => match g x (wipeE env vs) with
    | some e1 => match c e1 with
      | some (true, e2) => match a e2 with
        | some (o, e3) => match sto e3 o with
          | some t => if acc.length < sizeLine then lcLoop vs g c a r (acc ++ [t]) (wipeE e3 vs) else none
          | none => none
        | none => none
      | some (false, e2) => lcLoop vs g c a r acc (wipeE e2 vs)
      | none => none
    | none => none
/-- [a for g in it if c]; vs: the block's own slots, n: how many slots there are -/
def cLc (n : Nat) (vs : List Nat) (it : It) (g : Tg) (c : Et) (a : Ev) : Ev := fun env => match it env with
  | some (items, e) => if e.length ≤ n then match lcLoop vs g c a items [] (wipeE e vs) with
    | some (ts, e2) => match bring e vs e2 with
      | some e3 => some (.t (.lst true ts), e3)
      | none => none
    | none => none
    else none
  | none => none
theorem eLc {wi : TI} {it : It} {tg : TG} {g : Tg} {tt : TT} {c : Et} {te : TE} {a : Ev} {n : Nat} {vs : List Nat} (hp : ∀ i, i < n → i ∉ vs → i ∈ pn) (hi : WSnd K wi it) (hg : GSnd K pn tg g) (hc : TSnd K tt c) (ha : ESnd K te a) :
    ESnd K (tLc wi tg tt te vs) (cLc n vs it g c a) := by
  intro env o env' h σ F O f a0 Q q
  simp only [cLc] at h
  split at h
  · next items e h1 =>
    split at h
    · next hn =>
      split at h
      · next ts e2 h2 =>
        split at h
        · next e3 h3 =>
          cases h
          refine hi _ _ _ h1 σ F O f a0 _ fun J F1 O1 f1 a1 s1 y D hD => ?_
          obtain ⟨fw, ew, cw⟩ := a1.e.wipe vs
          have hl1 : σ.length = e.length := a1.e.len
          -- the invariant: the new list at D, the slots wiped
          refine ⟨fun i m H => ∃ env2 F2 O2 f2 acc vsd fd, H = jn F2 O2 ∧ m = items.length - i ∧ Dis F2 O2 ∧ RlE K F2 O2 (L2.wipe σ vs) env2 f2 ∧ Rls K F2 O2 vsd acc fd ∧ O2 D = some (.lst vsd) ∧ Nd ((D :: fd) ++ f2) ∧ Stp F1 O1 f1 F2 O2 ((D :: fd) ++ f2) ∧ lcLoop vs g c a (items.drop i) acc env2 = some (ts, e2) ∧ (∀ i ∈ vs, ∀ t, env2[i]? ≠ some (some t)),
            ⟨items.length, wipeE e vs, F1, upd O1 D (.lst []), fw, [], [], [], upd_jn, rfl, a1.d.updO (jn_none hD).1, ew.mono (Same.refl F1) fun a z u e => ?_, .nil, upd_same, ?_, ?_, h2, fun i hi t z => (wipeE_at z).2 hi⟩, ?_⟩
          · rw [upd_ne fun z => by rw [z, (jn_none hD).2] at e; cases e]
            exact e
          · refine Nd.of (fun a => Nat.le_trans (List.count_le_length ..) (Nat.le_refl _)) (a1.nd.right.sub cw) fun a z w => ?_
            rw [List.mem_singleton.mp z, mem_count] at w
            have := cw D
            obtain ⟨u, hu⟩ := a1.e.alloc D (mem_count.mpr (by omega))
            rw [(jn_none hD).2] at hu
            cases hu
          · have s2 := (Stp.newO (F := F1) (O := O1) (p := D) (o := .lst []) (gs := [D]) hD fun a z => List.mem_singleton.mp z).frame (hs := f1)
            rw [List.append_nil] at s2
            refine s2.less fun a z => ?_
            rcases List.mem_append.mp z with w | w
            · exact List.mem_append_right _ w
            · refine List.mem_append_left _ ?_
              rw [mem_count] at w ⊢
              have := cw a
              omega
          · rintro i m H ⟨env2, F2, O2, f2, acc, vsd, fd, rfl, rfl, d2, r2, rl2, hD2, n2, s2, l2, w2⟩
            obtain ⟨y1, y2⟩ := y F2 O2 s2.f d2 i
            by_cases hl : items.length ≤ i
            · rw [List.drop_eq_nil_of_le hl] at l2
              simp only [lcLoop] at l2
              obtain ⟨rfl, rfl⟩ := Prod.mk.inj (Option.some.inj l2)
              refine .inl ⟨y2 hl, ?_⟩
              -- back to the slots as they stood
              have r3 : RlE K F2 O2 σ env2 f2 := r2.cong (wipe_length ..).symm fun j t hj => (wipe_at fun hv => w2 j hv t hj).symm
              obtain ⟨g', r4, c4⟩ := RlE.bring a1.e s2.f r3 h3
              refine q _ F2 O2 (D :: fd) g' ⟨d2, r4, n2.sub fun a => by rw [List.count_append, List.count_append]; have := c4 a; omega⟩ (s1.trans (s2.less fun a z => ?_)) (Rl.lstO hD2 rl2)
              rcases List.mem_append.mp z with w | w
              · exact List.mem_append_left _ w
              · refine List.mem_append_right _ ?_
                rw [mem_count] at w ⊢
                have := c4 a
                omega
            · have hlt : i < items.length := Nat.lt_of_not_le hl
              rw [List.drop_eq_getElem_cons hlt] at l2
              obtain ⟨go, yl⟩ := y1 _ (List.getElem?_eq_getElem hlt)
              refine .inr ⟨go, fun H' => ∃ env2 F2 O2 f2 acc vsd fd, H' = jn F2 O2 ∧ Dis F2 O2 ∧ RlE K F2 O2 (L2.wipe σ vs) env2 f2 ∧ Rls K F2 O2 vsd acc fd ∧ O2 D = some (.lst vsd) ∧ Nd ((D :: fd) ++ f2) ∧ Stp F1 O1 f1 F2 O2 ((D :: fd) ++ f2) ∧ lcLoop vs g c a (items.drop (i + 1)) acc env2 = some (ts, e2) ∧ (∀ i ∈ vs, ∀ t, env2[i]? ≠ some (some t)), ?_, fun x H' yx => ?_⟩
              · rintro H' ⟨env', F', O', f', acc', vsd', fd', rfl, b⟩
                exact ⟨items.length - (i + 1), by omega, env', F', O', f', acc', vsd', fd', rfl, rfl, b⟩
              · obtain ⟨F3, O3, rfl, d3, s3, r3⟩ := yl x H' yx
                simp only [lcLoop] at l2
                split at l2
                · next e4 h4 =>
                  obtain ⟨f2w, r2w, c2w⟩ := r2.wipe vs
                  rw [wipe_wipe] at r2w
                  have n2w : Nd f2w := n2.right.sub c2w
                  have a3 : At K (L2.wipe σ vs) F3 O3 (wipeE env2 vs) [] f2w := ⟨d3, r2w.mono s3.f fun a z o e => s3.none_k a o e, n2w⟩
                  -- what stands by: the new list and its items
                  have k23 : ∀ a o, O2 a = some o → O3 a = some o := s3.none_k
                  have ap : ∀ a ∈ D :: fd, a ∉ f2w := fun a z w => n2.apart z (by rw [mem_count] at w ⊢; have := c2w a; omega)
                  have nD : Nd ((D :: fd) ++ f2w) := n2.left.of n2w ap
                  have al3 : ∀ a ∈ D :: fd, ∃ o, O3 a = some o := fun a z => (List.mem_cons.mp z).elim (fun e => ⟨_, e ▸ k23 _ _ hD2⟩) fun w => by
                    obtain ⟨o, e⟩ := rl2.alloc a w
                    exact ⟨o, k23 _ _ e⟩
                  have s13 : Stp F1 O1 f1 F3 O3 ((D :: fd) ++ f2w) := by
                    have s4 := s3.frame (hs := (D :: fd) ++ f2)
                    rw [List.append_nil] at s4
                    refine (s2.trans s4).less fun a z => ?_
                    rcases List.mem_append.mp z with w | w
                    · exact List.mem_append_left _ w
                    · refine List.mem_append_right _ ?_
                      rw [mem_count] at w ⊢
                      have := c2w a
                      omega
                  refine hg _ _ _ h4 x _ F3 O3 [] f2w a3 r3 _ fun σ4 F4 O4 f4 a4 s4 p4 => ?_
                  have e24 : L2.wipe σ4 vs = L2.wipe σ vs := by
                    have hl4 : σ4.length = (L2.wipe σ vs).length := p4.l
                    rw [← wipe_wipe (σ := σ)]
                    refine wipe_same hl4 fun j hj => ?_
                    by_cases hjn : j < n
                    · exact p4.s j (hp j hjn hj)
                    · rw [List.getElem?_eq_none (by rw [hl4, wipe_length, hl1]; omega), List.getElem?_eq_none (by rw [wipe_length, hl1]; omega)]
                  refine ⟨e24, ?_⟩
                  have hD3 := k23 _ _ hD2
                  have rl3 : Rls K F3 O3 vsd acc fd := rl2.mono s3.f fun a _ o e => k23 a o e
                  have s4 : Stp F3 O3 f2w F4 O4 f4 := s4
                  split at l2
                  · next e5 h5 =>
                    split at l2
                    · next o6 e6 h6 =>
                      split at l2
                      · next t ht =>
                        split at l2
                        · next hz =>
                          refine hc _ _ _ h5 σ4 F4 O4 f4 a4 _ fun F5 O5 f5 a5 s5 => ?_
                          rw [if_pos rfl]
                          refine ha _ _ _ h6 σ4 F5 O5 f5 a5 _ fun v6 F6 O6 fp6 f6 a6 s6 r6 => ?_
                          have s46 := (s4.trans s5).trans s6
                          have n6 : Nd ((D :: fd) ++ (fp6 ++ f6)) := s46.nd al3 nD a6.nd
                          have hD6 : O6 D = some (.lst vsd) := s46.k _ _ (ap D (List.mem_cons_self ..)) hD3
                          have rl6 : Rls K F6 O6 vsd acc fd := s46.keeps rl3 fun a z => ap a (List.mem_cons_of_mem _ z)
                          have rt := r6.store a6.e ht
                          obtain ⟨f7, r7, c7⟩ := a6.e.wipe vs
                          rw [e24] at r7
                          have np : ∀ {l : List Addr}, l.count D = 0 → ∀ a ∈ l, ∀ o, O6 a = some o → upd O6 D (.lst (vsd ++ [v6])) a = some o := fun z a w o e => by
                            rw [upd_ne fun q => by rw [q, mem_count] at w; omega]
                            exact e
                          have m6 := n6 D
                          simp only [List.count_append, List.count_cons, beq_self_eq_true, if_true] at m6
                          have c7D := c7 D
                          refine ⟨vsd, jn_O hD6, by rw [rl6.len]; exact hz, wipeE e6 vs, F6, upd O6 D (.lst (vsd ++ [v6])), f7, acc ++ [t], vsd ++ [v6], fd ++ (fp6 ++ []), upd_jn, a6.d.updO (a6.d.noF hD6), r7.mono (Same.refl _) (np (by omega)), ?_, upd_same, ?_, ?_, l2, fun i hi t z => (wipeE_at z).2 hi⟩
                          · exact ((rl6.append (.cons rt .nil))).mono (Same.refl _) (np (by simp only [List.count_append, List.count_nil]; omega))
                          · refine n6.sub fun a => ?_
                            have := c7 a
                            simp only [List.count_append, List.count_cons, List.count_nil]
                            omega
                          · have s7 := s13.trans (s46.frame (hs := D :: fd))
                            refine ⟨s7.f, fun a o z e => ?_, fun a z => s7.n a ?_, fun a z => ?_⟩
                            · rw [upd_ne fun q => ?_]
                              · exact s7.k a o z e
                              · rcases s7.n D (List.mem_append_left _ (List.mem_cons_self ..)) with w | w
                                · exact z (q ▸ w)
                                · rw [q] at e; rw [jn_O e] at w; cases w
                            · rw [mem_count] at z ⊢
                              have := c7 a
                              simp only [List.count_append, List.count_cons, List.count_nil] at z ⊢
                              omega
                            · rw [← upd_jn]
                              by_cases w : a = D
                              · rw [w, upd_same]; exact fun z => nomatch z
                              · rw [upd_ne w]; exact s7.g a z
                        · cases l2
                      · cases l2
                    · cases l2
                  · next e5 h5 =>
                    refine hc _ _ _ h5 σ4 F4 O4 f4 a4 _ fun F5 O5 f5 a5 s5 => ?_
                    rw [if_neg Bool.false_ne_true]
                    have s45 := s4.trans s5
                    have n5 : Nd ((D :: fd) ++ f5) := s45.nd al3 nD a5.nd
                    have hD5 : O5 D = some (.lst vsd) := s45.k _ _ (ap D (List.mem_cons_self ..)) hD3
                    have rl5 : Rls K F5 O5 vsd acc fd := s45.keeps rl3 fun a z => ap a (List.mem_cons_of_mem _ z)
                    obtain ⟨f7, r7, c7⟩ := a5.e.wipe vs
                    rw [e24] at r7
                    refine ⟨wipeE e5 vs, F5, O5, f7, acc, vsd, fd, rfl, a5.d, r7, rl5, hD5, n5.sub fun a => ?_, (s13.trans (s45.frame (hs := D :: fd))).less fun a z => ?_, l2, fun i hi t z => (wipeE_at z).2 hi⟩
                    · have := c7 a
                      simp only [List.count_append, List.count_cons]
                      omega
                    · rw [mem_count] at z ⊢
                      have := c7 a
                      simp only [List.count_append, List.count_cons] at z ⊢
                      omega
                  · cases l2
                · cases l2
        · cases h
      · cases h
    · cases h
  · cases h

/-! ### a def's body -/
def outsOf : List Bool → List T → Env → Option (List T)
  | true :: m, _ :: ts, some t :: env => match outsOf m ts env with
    | some us => some (t :: us)
    | none => none
  | false :: m, t :: ts, _ :: env => if t.fz then match outsOf m ts env with
    | some us => some (t :: us)
    | none => none
    else none
  | [], [], _ => some []
  | _, _, _ => none
/-- a def's body as a function on trees: m: which parameters it may change, n: how many slots -/
def runB (m : List Bool) (n : Nat) (b : S) : Fn := fun ts => match b (ts.map some ++ List.replicate (n - ts.length) none) with
  | some (.rt t e) => match outsOf m ts e with
    | some us => some (t, us)
    | none => none
  | some (.nx e) => match outsOf m ts e with
    | some us => some (.non, us)
    | none => none
  | _ => none
def pins : List Bool → Nat → List Nat
  | [], _ => []
  | true :: m, i => i :: pins m (i + 1)
  | false :: m, i => pins m (i + 1)
theorem RlE.start : ∀ {vs : List V} {ts : List T} {f : List Addr} {n : Nat}, Rls K F O vs ts f → RlE K F O (vs.map some ++ List.replicate n none) (ts.map some ++ List.replicate n none) f
  | _, _, _, 0, .nil => .nil
  | _, _, _, n + 1, .nil => .non (RlE.start (n := n) .nil)
  | _, _, _, n, .cons h r => .som h (RlE.start r)
theorem outs_of (s : Same F F') : ∀ {m : List Bool} {ts us : List T} {env : Env} {σ : L2.St} {vs : List V} {f g : List Addr} {k : Nat} {σ0 : L2.St}, RlE K F' O' σ env f → Rls K F O vs ts g → outsOf m ts env = some us →
    (∀ i, i ∈ pins m k → ∃ j, i = k + j ∧ σ[j]? = σ0[i]?) → (∀ j v, vs[j]? = some v → σ0[k + j]? = some (some v)) → ∃ f', Rls K F' O' vs us f' ∧ ∀ a, f'.count a ≤ f.count a
  | [], [], us, env, σ, vs, f, g, k, σ0, e, r, w, hp, hv => by
    cases w
    cases r
    exact ⟨[], .nil, fun a => by rw [List.count_nil]; omega⟩
  | true :: m, t0 :: ts, us, some t :: env, σ, vs, f, g, k, σ0, e, r, w, hp, hv => by
    simp only [outsOf] at w
    split at w
    · next us2 hu =>
      cases w
      cases e with
      | som h e =>
        next v0 f0 σ fs =>
        cases r with
        | cons h0 r =>
          next v g0 vs gs =>
          obtain ⟨j, ej, e1⟩ := hp k (List.mem_cons_self ..)
          have ej : j = 0 := by omega
          subst ej
          have e2 := hv 0 v rfl
          have e3 : v0 = v := by
            rw [Nat.add_zero] at e2
            rw [e2] at e1
            simpa using e1
          subst e3
          have hp' : ∀ i, i ∈ pins m (k + 1) → ∃ j, i = k + 1 + j ∧ σ[j]? = σ0[i]? := fun i hi => by
            obtain ⟨j, rfl, e4⟩ := hp i (List.mem_cons_of_mem _ hi)
            have : j ≠ 0 := fun z => by
              subst z
              have : ∀ {m : List Bool} {i k : Nat}, i ∈ pins m k → k ≤ i := by
                intro m
                induction m with
                | nil => intro i k h; cases h
                | cons b m ih =>
                  intro i k h
                  cases b with
                  | true =>
                    rcases List.mem_cons.mp h with q | q
                    · omega
                    · have := ih q; omega
                  | false => have := ih h; omega
              exact absurd (this hi) (by omega)
            exact ⟨j - 1, by omega, by rw [← e4]; cases j with | zero => exact absurd rfl this | succ j => rfl⟩
          obtain ⟨f', k1, k2⟩ := outs_of s (k := k + 1) (σ0 := σ0) e r hu hp' (fun j v hj => by have := hv (j + 1) v hj; rw [← this, show k + 1 + j = k + (j + 1) by omega])
          exact ⟨f0 ++ f', .cons h k1, fun a => by rw [List.count_append, List.count_append]; have := k2 a; omega⟩
    · cases w
  | false :: m, t0 :: ts, us, x :: env, σ, vs, f, g, k, σ0, e, r, w, hp, hv => by
    simp only [outsOf] at w
    split at w
    · next fz =>
      split at w
      · next us2 hu =>
        cases w
        cases r with
        | cons h0 r =>
          next v g0 vs gs =>
          have tl : ∃ σt ft x0, σ = x0 :: σt ∧ RlE K F' O' σt env ft ∧ ∀ a, ft.count a ≤ f.count a := by
            cases e with
            | non e => exact ⟨_, _, _, rfl, e, fun _ => Nat.le_refl _⟩
            | som h e => exact ⟨_, _, _, rfl, e, fun a => by rw [List.count_append]; omega⟩
          obtain ⟨σt, ft, x0, rfl, e, ce⟩ := tl
          have hp' : ∀ i, i ∈ pins m (k + 1) → ∃ j, i = k + 1 + j ∧ σt[j]? = σ0[i]? := fun i hi => by
            obtain ⟨j, rfl, e4⟩ := hp i hi
            have : j ≠ 0 := fun z => by
              subst z
              have : ∀ {m : List Bool} {i k : Nat}, i ∈ pins m k → k ≤ i := by
                intro m
                induction m with
                | nil => intro i k h; cases h
                | cons b m ih =>
                  intro i k h
                  cases b with
                  | true =>
                    rcases List.mem_cons.mp h with q | q
                    · omega
                    · have := ih q; omega
                  | false => have := ih h; omega
              exact absurd (this hi) (by omega)
            exact ⟨j - 1, by omega, by rw [← e4]; cases j with | zero => exact absurd rfl this | succ j => rfl⟩
          obtain ⟨f', k1, k2⟩ := outs_of s (k := k + 1) (σ0 := σ0) e r hu hp' (fun j v hj => by have := hv (j + 1) v hj; rw [← this, show k + 1 + j = k + (j + 1) by omega])
          exact ⟨[] ++ f', .cons ((h0.own0 fz).mono s fun a z => by cases z) k1, fun a => by rw [List.nil_append]; have := k2 a; have := ce a; omega⟩
      · cases w
    · cases w
  | [], _ :: _, _, _, _, _, _, _, _, _, _, _, w, _, _ => by simp [outsOf] at w
  | true :: _, [], _, _, _, _, _, _, _, _, _, _, w, _, _ => by simp [outsOf] at w
  | false :: _, [], _, _, _, _, _, _, _, _, _, _, w, _, _ => by simp [outsOf] at w
  | true :: _, _ :: _, _, [], _, _, _, _, _, _, _, _, w, _, _ => by simp [outsOf] at w
  | true :: _, _ :: _, _, none :: _, _, _, _, _, _, _, _, _, w, _, _ => by simp [outsOf] at w
  | false :: _, _ :: _, _, [], _, _, _, _, _, _, _, _, w, _, _ => by simp [outsOf] at w
end
section
variable {P : Program} {w : World} {K : PySem.W.Frag} {mg : Str → Option Value} {base : Heap}
/-- a def keeps the promise of its body's function -/
theorem fn_ok {x qual : Str} {st : Stmt} {fa : Addr} {fd : FuncData} {N ps : List Str} {k : Nat} (Fu : Fun K x qual st fa fd) (Sc : FnScope N ps (defScope st)) (m : List Bool) (hm : m.length = ps.length) {b : S}
    (hb : ∀ (cdv : Value) (A : Around) (outer : List PySem.Env) (s : Shared) (H : Hp) (E : XK), Room k (A.deeper (PyProof.Rows.envOfC qual (defScope st) s.heap.objs.size fa cdv)) → ∃ t, SSs K (cxOf CX0 P w K mg base N qual (defScope st) fa cdv A outer s H E).nox (pins m 0) (defBody st) t b) :
    FnOk P w K mg base CX0 (k + 1) fa fd ps (spF K m.length (runB m N.length b)) := by
  refine Fu.ok Sc (fun vs H Q E h => ?_) (fun cdv A outer s H vs Q E hr h => ?_)
  · obtain ⟨_, _, _, _, _, _, hl, _⟩ := h
    rw [hl, hm]
  · obtain ⟨F, O, ts, f, r, outs, hl, rfl, d, rl, nd, hg, q⟩ := h
    obtain ⟨t, hs⟩ := hb cdv A outer s _ E hr
    refine ⟨t, hs.p, ?_⟩
    have e0 := RlE.start (n := N.length - vs.length) rl
    have hlen : N.length - vs.length = N.length - ts.length := by rw [rl.len]
    have hpin : ∀ {σ' : L2.St}, Same2 (pins m 0) (L2.start N vs) σ' → ∀ i, i ∈ pins m 0 → ∃ j, i = 0 + j ∧ σ'[j]? = (L2.start N vs)[i]? := fun p i hi => ⟨i, (Nat.zero_add i).symm, p.s i hi⟩
    have hst : ∀ j v, vs[j]? = some v → (L2.start N vs)[0 + j]? = some (some v) := fun j v e => by
      unfold L2.start
      have hj := (List.getElem?_eq_some_iff.mp e).1
      rw [Nat.zero_add, List.getElem?_append_left (by rw [List.length_map]; exact hj), List.getElem?_map, e]
      rfl
    have fins : ∀ {v : V} {σ' : L2.St} {F' O' : Hp} {fp f' : List Addr} {t : T} {e : Env}, At K σ' F' O' e fp f' → Stp F O f F' O' (fp ++ f') → Rl K F' O' v t fp → Same2 (pins m 0) (L2.start N vs) σ' → t = r → outsOf m ts e = some outs → Q v (jn F' O') := by
      intro v σ' F' O' fp f' t e a1 s1 r1 p1 et eo
      subst et
      obtain ⟨g, k1, k2⟩ := outs_of s1.f (k := 0) (σ0 := L2.start N vs) a1.e rl eo (hpin p1) hst
      refine q v F' O' fp g a1.d (s1.less fun a z => ?_) r1 k1 (a1.nd.sub fun a => by rw [List.count_append, List.count_append]; have := k2 a; omega)
      rcases List.mem_append.mp z with w | w
      · exact List.mem_append_left _ w
      · refine List.mem_append_right _ ?_
        rw [mem_count] at w ⊢
        have := k2 a
        omega
    unfold runB at hg
    rw [← hlen] at hg
    split at hg
    · next t' e hb' =>
      split at hg
      · next us hu =>
        obtain ⟨rfl, rfl⟩ := Prod.mk.inj (Option.some.inj hg)
        exact hs.s _ _ hb' (L2.start N vs) F O f ⟨d, e0, nd⟩ _ fun v σ' F' O' fp f' a1 s1 r1 p1 => fins a1 s1 r1 p1 rfl hu
      · cases hg
    · next e hb' =>
      split at hg
      · next us hu =>
        obtain ⟨rfl, rfl⟩ := Prod.mk.inj (Option.some.inj hg)
        exact hs.s _ _ hb' (L2.start N vs) F O f ⟨d, e0, nd⟩ _ fun σ' F' O' f' a1 s1 p1 => fins (fp := []) (v := .non) a1 s1 .non p1 rfl hu
      · cases hg
    · cases hg
end
end LP
set_option maxRecDepth 100000
/-! LP: the rules, as they are written. -/
namespace LP
open PySem L2
section
variable {K : PySem.W.Frag} {F O F' O' F1 O1 F2 O2 : Hp} {σ : L2.St} {env env' : Env} {f f1 f2 fp fp1 fp2 : List Addr} {pn : List Nat}
/-- what is made on the way is given free -/
def aFz (a : Ea) : Ea := fun env => match a env with
  | some (os, e) => some (ers os, e)
  | none => none
/-- enumerate(xs), zip(xs, ys): pairs -/
def enumL : Nat → List T → List T
  | _, [] => []
  | k, x :: r => .tup false [.int (k : Int), x] :: enumL (k + 1) r
def zipL : List T → List T → List T
  | x :: r, y :: s => .tup false [x, y] :: zipL r s
  | _, _ => []
def iEn (a : Ea) : It := fun env => match aFz a env with
  | some (os, e) => match vws e os with
    | some [.lst false xs] => some (enumL 0 xs, e)
    | _ => none
  | none => none
def iZp (a : Ea) : It := fun env => match aFz a env with
  | some (os, e) => match vws e os with
    | some [.lst false xs, .lst false ys] => some (zipL xs ys, e)
    | _ => none
  | none => none
end
/-! ### the rules over HandS's derivations -/
section
variable {K : PySem.W.Frag} {X : Cx} {a b c e : Expr} {es : List Expr} {ta tb tc te : TE} {tas : TA} {ea eb ec ev : Ev} {eas : Ea} {tt tu : TT} {et eu : Et} {pos p2 : Pos} {pn : List Nat}
theorem xV {i : Nat} {x : Str} (h : PE X (.Name x pos) (tVar i)) (hk : X.K = K := by rfl) : SE K X (.Name x pos) (tVar i) (cV i) := by
  cases hk
  exact ⟨h, eV, rfl⟩
theorem xMv {i : Nat} {x : Str} (h : PE X (.Name x pos) (tVar i)) (hk : X.K = K := by rfl) : SE K X (.Name x pos) (tVar i) (cMv i) := by
  cases hk
  exact ⟨h, eMv, rfl⟩
theorem xInt {i : Int} {j : Nat} (hk : X.K = K := by rfl) : SE K X (.Constant (.int i) j pos) (tC (.int i)) (cK (.int i)) := by
  cases hk
  exact ⟨pe_int, eK fun _ _ => .int _, rfl⟩
theorem xBl {i : Bool} {j : Nat} (hk : X.K = K := by rfl) : SE K X (.Constant (.bool i) j pos) (tC (.bl i)) (cK (.bl i)) := by
  cases hk
  exact ⟨pe_bl, eK fun _ _ => .bl _, rfl⟩
theorem xStr {s : Str} {j : Nat} (hk : X.K = K := by rfl) : SE K X (.Constant (.str s) j pos) (tC (.str s)) (cK (.str s)) := by
  cases hk
  exact ⟨pe_str, eK fun _ _ => .str _, rfl⟩
/-- a constant of the module: an int, a text -/
theorem xGI {x : Str} {i : Int} {k : Tok} (hg : Gl X x) (hm : X.mg x = some (.int i k)) (hd : (x == ("__debug__" : Str)) = false := by decide) (hk : X.K = K := by rfl) : SE K X (.Name x pos) (tC (.int i)) (cK (.int i)) := by
  cases hk
  exact ⟨pe_glob hg hm ⟨k, rfl⟩ hd, eK fun _ _ => .int _, rfl⟩
theorem xGS {x : Str} {i : Str} {k : Tok} (hg : Gl X x) (hm : X.mg x = some (.str i k)) (hd : (x == ("__debug__" : Str)) = false := by decide) (hk : X.K = K := by rfl) : SE K X (.Name x pos) (tC (.str i)) (cK (.str i)) := by
  cases hk
  exact ⟨pe_glob hg hm ⟨k, rfl⟩ hd, eK fun _ _ => .str _, rfl⟩
theorem xOp {op : Operator} {r : R2} {g : T → T → Option T} (ho : OpR X (binaryOp op) r) (hs : OSnd2 K r g) (ha : SE K X a ta ea) (hb : SE K X b tb eb) : SE K X (.BinOp a op b pos) (tOp r ta tb) (cO2 g ea eb) := by
  cases ha.k
  exact ⟨pe_op ho ha.p hb.p, eO2 ha.s hb.s hs, rfl⟩
theorem xAdd (ha : SE K X a ta ea) (hb : SE K X b tb eb) : SE K X (.BinOp a .Add b pos) (tOp (rAddU K) ta tb) (cO2 addT ea eb) := by
  cases ha.k
  exact xOp op_addU sAdd ha hb
theorem xSub (ha : SE K X a ta ea) (hb : SE K X b tb eb) : SE K X (.BinOp a .Sub b pos) (tOp (rI0 fun i j => .int (i - j)) ta tb) (cO2 subT ea eb) := by
  cases ha.k
  exact xOp op_sub sSub ha hb
theorem xMul (ha : SE K X a ta ea) (hb : SE K X b tb eb) : SE K X (.BinOp a .Mult b pos) (tOp (rI CMul fun i j => .int (i * j)) ta tb) (cO2 mulT ea eb) := by
  cases ha.k
  exact xOp op_mul sMul ha hb
theorem xDiv (ha : SE K X a ta ea) (hb : SE K X b tb eb) : SE K X (.BinOp a .FloorDiv b pos) (tOp (rI CDiv fun i j => .int (i / j)) ta tb) (cO2 divT ea eb) := by
  cases ha.k
  exact xOp op_fdiv sDiv ha hb
theorem xMod (ha : SE K X a ta ea) (hb : SE K X b tb eb) : SE K X (.BinOp a .Mod b pos) (tOp (rI (fun _ j => 0 < j) fun i j => .int (i % j)) ta tb) (cO2 modT ea eb) := by
  cases ha.k
  exact xOp op_mod sMod ha hb
theorem xNeg (ha : SE K X a ta ea) : SE K X (.UnaryOp .USub a pos) (tUn (rU fun i => .int (-i)) ta) (cO1 negT ea) := by
  cases ha.k
  exact ⟨pe_un un_neg ha.p, eO1 ha.s sNeg, rfl⟩
theorem xCmp {op : CmpOp} {r : R2} {g : T → T → Option T} (ho : OpR X (compareOp op) r) (hs : OSnd2 K r g) (ha : SE K X a ta ea) (hb : SE K X b tb eb) (hm : behindInMarks op b = false) : SE K X (.Compare a [op] [b] pos) (tOp r ta tb) (cO2 g ea eb) := by
  cases ha.k
  exact ⟨pe_cmpR ho ha.p hb.p hm, eO2 ha.s hb.s hs, rfl⟩
theorem xLe (ha : SE K X a ta ea) (hb : SE K X b tb eb) : SE K X (.Compare a [.LtE] [b] pos) (tOp (rI0 fun i j => .bl (decide (i ≤ j))) ta tb) (cO2 leT ea eb) := by
  cases ha.k
  exact xCmp op_le sCmp ha hb (nomark _)
theorem xEq (hu : X.A.units + 64 < cLine) (ha : SE K X a ta ea) (hb : SE K X b tb eb) : SE K X (.Compare a [.Eq] [b] pos) (tOp (rEqP K fun b => b) ta tb) (cO2 eqT ea eb) := by
  cases ha.k
  exact xCmp (op_eqP hu) sEq ha hb (nomark _)
theorem yCmp {op : CmpOp} {r : R2} {g : T → T → Option T} (ho : OpR X (compareOp op) r) (hs : OSnd2 K r g) (ha : SE K X a ta ea) (hb : SE K X b tb eb) (hm : behindInMarks op b = false) : ST K X (.Compare a [op] [b] pos) (tTest (tOp r ta tb)) (cTest (cO2 g ea eb)) := by
  cases ha.k
  exact ⟨pt_cmpR ho ha.p hb.p hm, tTest_ (eO2 ha.s hb.s hs), rfl⟩
theorem yLt (ha : SE K X a ta ea) (hb : SE K X b tb eb) : ST K X (.Compare a [.Lt] [b] pos) (tTest (tOp (rI0 fun i j => .bl (decide (i < j))) ta tb)) (cTest (cO2 ltT ea eb)) := by
  cases ha.k
  exact yCmp op_lt sCmp ha hb (nomark _)
theorem yGt (ha : SE K X a ta ea) (hb : SE K X b tb eb) : ST K X (.Compare a [.Gt] [b] pos) (tTest (tOp (rI0 fun i j => .bl (decide (j < i))) ta tb)) (cTest (cO2 gtT ea eb)) := by
  cases ha.k
  exact yCmp op_gt sCmp ha hb (nomark _)
theorem yEq (hu : X.A.units + 64 < cLine) (ha : SE K X a ta ea) (hb : SE K X b tb eb) : ST K X (.Compare a [.Eq] [b] pos) (tTest (tOp (rEqP K fun b => b) ta tb)) (cTest (cO2 eqT ea eb)) := by
  cases ha.k
  exact yCmp (op_eqP hu) sEq ha hb (nomark _)
theorem yNe (hu : X.A.units + 64 < cLine) (ha : SE K X a ta ea) (hb : SE K X b tb eb) : ST K X (.Compare a [.NotEq] [b] pos) (tTest (tOp (rEqP K fun b => !b) ta tb)) (cTest (cO2 neT ea eb)) := by
  cases ha.k
  exact yCmp (op_neP hu) sNe ha hb (nomark _)
/-- an expression that gives True or False, as a test -/
theorem yVal (h : SE K X e te ev) (he : ∀ whole, isTrue e X.env whole = (do let v ← whole; standAt e.pos; holding [v] (truthy v)) := by intro _; rfl) : ST K X e (tB te) (cTest ev) := by
  cases h.k
  exact ⟨pt_val h.p he, tB_ h.s, rfl⟩
theorem yNot (ha : ST K X a tt et) : ST K X (.UnaryOp .Not a pos) (tNot tt) (cNot et) := by
  cases ha.k
  exact ⟨pt_not ha.p, tNot_ ha.s, rfl⟩
theorem wAnd1 (ha : ST K X a tt et) : SW K X (.BoolOp .And [a] pos) tt et := by
  cases ha.k
  exact ⟨pw_and1 ha.p, ha.s, rfl⟩
theorem wOr1 (ha : ST K X a tt et) : SW K X (.BoolOp .Or [a] pos) tt et := by
  cases ha.k
  exact ⟨pw_or1 ha.p, ha.s, rfl⟩
theorem wAnd (ha : ST K X a tt et) (hb : SW K X (.BoolOp .And (b :: es) pos) tu eu) : SW K X (.BoolOp .And (a :: b :: es) pos) (tAnd tt tu) (cAnd et eu) := by
  cases ha.k
  exact ⟨pw_and ha.p hb.p, tAnd_ ha.s hb.s, rfl⟩
theorem wOr (ha : ST K X a tt et) (hb : SW K X (.BoolOp .Or (b :: es) pos) tu eu) : SW K X (.BoolOp .Or (a :: b :: es) pos) (tOr tt tu) (cOr et eu) := by
  cases ha.k
  exact ⟨pw_or ha.p hb.p, tOr_ ha.s hb.s, rfl⟩
theorem SW.t (h : SW K X e tt et) : ST K X e tt et := by
  cases h.k
  exact ⟨h.p.pt, h.s, rfl⟩
theorem xOne {op : BoolOp} (ha : SE K X a ta ea) : SE K X (.BoolOp op [a] pos) ta ea := by
  cases ha.k
  exact ⟨pe_one ha.p, ha.s, rfl⟩
theorem xAndV (ha : SE K X a ta ea) (hb : SE K X (.BoolOp .And (b :: es) pos) tb eb) : SE K X (.BoolOp .And (a :: b :: es) pos) (tAndV ta tb) (cAndV ea eb) := by
  cases ha.k
  exact ⟨pe_and ha.p hb.p, eAndV ha.s hb.s, rfl⟩
theorem xIx (ha : SE K X a ta ea) (hb : SE K X b tb eb) (hp : PlainIx b := by exact fun _ _ => rfl) : SE K X (.Subscript a b pos) (tOp (rIx K) ta tb) (cO2 ixT ea eb) := by
  cases ha.k
  exact ⟨pe_ix ix_seq ha.p hb.p hp, eO2 ha.s hb.s sIx, rfl⟩
theorem xP0 (hk : X.K = K := by rfl) : SPo K X none tNoPart p0 := by
  cases hk
  exact ⟨po_none, pP0, rfl⟩
theorem xP1 (ha : SE K X a ta ea) : SPo K X (some a) (tPart ta) (p1 ea) := by
  cases ha.k
  exact ⟨po_some ha.p, pP1 ha.s, rfl⟩
theorem xSl {lo hi : Option Expr} {tl th : TO} {pl ph : Po} (ha : SE K X a ta ea) (hl : SPo K X lo tl pl) (hh : SPo K X hi th ph) : SE K X (.Subscript a (.Slice lo hi none p2) pos) (tSl (rSlU K) ta tl th) (cSl ea pl ph) := by
  cases ha.k
  exact ⟨pe_slice sl_U ha.p hl.p hh.p, eSl ha.s hl.s hh.s, rfl⟩
theorem xA0 (hk : X.K = K := by rfl) : SA K X [] tNil aNil := by
  cases hk
  exact ⟨pa_nil, eaNil, rfl⟩
theorem xA (he : SE K X e te ev) (hr : SA K X es tas eas) (hs : starEach (e :: es) X.env = (false, eval e X.env) :: starEach es X.env := by rfl) : SA K X (e :: es) (tCons te tas) (aCons ev eas) := by
  cases he.k
  exact ⟨pa_cons he.p hr.p hs, eaCons he.s hr.s, rfl⟩
theorem xTup {k : Nat} (h : SA K X es tas eas) : SE K X (.Tuple es k pos) (tTup tas) (cTup eas) := by
  cases h.k
  exact ⟨pe_tup h.p, eTup h.s, rfl⟩
theorem xLst (h : SA K X es tas eas) : SE K X (.List es pos) (tLst tas) (cLst eas) := by
  cases h.k
  exact ⟨pe_lst h.p, eLst h.s, rfl⟩
theorem xB {id : String} {x : Str} {r : List V → Hp → VK → Prop} {g : List T → Option T} (hc : CallR X (.builtin id) r) (hs : OSndN K r g) (hg : Gl X x) (hm : X.mg x = none) (hv : bootBuiltins x = some (.builtin id)) (ha : SA K X (e :: es) tas eas)
    (hn : x ≠ "__name__" := by decide) (hdb : (x == ("__debug__" : Str)) = false := by decide) (hst : starEach (e :: es) X.env = (false, eval e X.env) :: starEach es X.env := by rfl) (hpl : (backTo pos (starEach es X.env)).any (·.1) = false := by rfl) :
    SE K X (.Call (.Name x p2) (e :: es) [] pos) (tCB r tas) (cON g eas) := by
  cases ha.k
  exact ⟨pe_callB hc hg hm hv ha.p hn hdb hst hpl, eON ha.s hs, rfl⟩
theorem xBT {id : String} {x : Str} {r : List V → Hp → VK → Prop} {g : List T → Option T} (hc : CallR X (.type id) r) (hs : OSndN K r g) (hg : Gl X x) (hm : X.mg x = none) (hv : bootBuiltins x = some (.type id)) (ha : SA K X (e :: es) tas eas)
    (hn : x ≠ "__name__" := by decide) (hdb : (x == ("__debug__" : Str)) = false := by decide) (hst : starEach (e :: es) X.env = (false, eval e X.env) :: starEach es X.env := by rfl) (hpl : (backTo pos (starEach es X.env)).any (·.1) = false := by rfl) :
    SE K X (.Call (.Name x p2) (e :: es) [] pos) (tCB r tas) (cON g eas) := by
  cases ha.k
  exact ⟨pe_callTy hc hg hm hv ha.p hn hdb hst hpl, eON ha.s hs, rfl⟩
end
end LP
set_option maxRecDepth 100000
/-! LP: built-ins, calls, statements, as they are written. -/
namespace LP
open PySem L2
section
variable {K : PySem.W.Frag} {X : Cx} {a b c e : Expr} {es : List Expr} {ta tb tc te : TE} {tas : TA} {ea eb ec ev : Ev} {eas : Ea} {tt tu : TT} {et eu : Et} {pos p2 p3 : Pos} {pn : List Nat}
theorem call_lenU : CallR X (.builtin "len") (rLenU X.K) := call_len_seq.or (call_len_str.or call_lenD)
theorem xLen (hg : Gl X "len") (hm : X.mg "len" = none) (ha : SA K X [e] tas eas) (hst : starEach [e] X.env = (false, eval e X.env) :: starEach [] X.env := by rfl) : SE K X (.Call (.Name "len" p2) [e] [] pos) (tCB (rLenU K) tas) (cON lenT eas) := by
  cases ha.k
  exact xB call_lenU sLen hg hm PySem.boot_len ha (hst := hst) (hpl := rfl)
theorem b_isi : bootBuiltins "isinstance" = some (.builtin "isinstance") := by decide +kernel
theorem b_list : bootBuiltins "list" = some (.type "list") := by decide +kernel
theorem xList (hg : Gl X "list") (hm : X.mg "list" = none) (ha : SA K X [e] tas eas) (hst : starEach [e] X.env = (false, eval e X.env) :: starEach [] X.env := by rfl) :
    SE K X (.Call (.Name "list" p2) [e] [] pos) (tCB (fun xs H Q => ∃ p ys, xs = [.ref p] ∧ (SqL K H p ys ∨ SqT K H p ys) ∧ ∀ l, H l = none → Q (.ref l) (upd H l (.lst ys))) tas) (cON listT eas) := by
  cases ha.k
  exact xBT call_list_of sList hg hm b_list ha (hst := hst) (hpl := rfl)
/-- isinstance(e, T), T a built-in class -/
theorem xIsi {T : Str} {n : String} (hg : Gl X "isinstance") (hm : X.mg "isinstance" = none) (ht : Gl X T) (htm : X.mg T = none) (hv : bootBuiltins T = some (.type n)) (ha : SE K X e te ev)
    (hst : starEach [e, .Name T p3] X.env = (false, eval e X.env) :: starEach [.Name T p3] X.env := by rfl) (hn : T ≠ "__name__" := by decide) (hd : (T == ("__debug__" : Str)) = false := by decide) :
    SE K X (.Call (.Name "isinstance" p2) [e, .Name T p3] [] pos) (tCB (rIsi K) (tCons te (tCons (tC (.ty n)) tNil))) (cIsi n ev) := by
  cases ha.k
  exact ⟨pe_callB call_isi hg hm b_isi (pa_cons ha.p (pa_cons (pe_bltn ht htm hv rfl hn hd) pa_nil rfl) hst) (by decide) (by decide) hst (by rfl), eIsi ha.s, rfl⟩
/-! ### calls of own defs -/
/-- the def x of the module keeps its promise -/
def Cal (P : Program) (w : World) (K : PySem.W.Frag) (mg : Str → Option Value) (base : Heap) (k : Nat) (x : Str) (ps : List Str) (m : List Bool) (g : Fn) : Prop :=
  ∃ f fd, FnOk P w K mg base CX0 k f fd ps (spF K m.length g) ∧ mg x = some (.ref f) ∧ PySem.W.keepIn K (.ref f) = true ∧ Binds K fd ps [] ∧ ∃ oc od osl, K.lookup f = some ⟨oc, od, .func fd, osl⟩
theorem Cal.mono {P : Program} {w : World} {K : PySem.W.Frag} {mg : Str → Option Value} {base : Heap} {j k : Nat} {x : Str} {ps : List Str} {m : List Bool} {g : Fn} (h : Cal P w K mg base j x ps m g) (l : j ≤ k) : Cal P w K mg base k x ps m g := by
  obtain ⟨f, fd, h1, h2⟩ := h
  exact ⟨f, fd, h1.mono l, h2⟩
theorem xCall {k j : Nat} {x : Str} {ps : List Str} {m : List Bool} {g : Fn} (C : Cal X.prog X.w K X.mg X.base j x ps m g) (hr : Room k X.A) (ha : SA K X (e :: es) tas eas) (hg : Gl X x := by rfl) (hj : j ≤ k := by decide)
    (hdb : (x == ("__debug__" : Str)) = false := by decide) (hst : starEach (e :: es) X.env = (false, eval e X.env) :: starEach es X.env := by rfl) (hpl : (backTo pos (starEach es X.env)).any (·.1) = false := by rfl) :
    SE K X (.Call (.Name x p2) (e :: es) [] pos) (tCall (spF K m.length g) [] E0 tas) (cCall g m eas) := by
  cases ha.k
  obtain ⟨f, fd, h1, h2, h3, h4, _⟩ := C
  exact ⟨pe_call h1 (hr.mono hj) hg h2 h3 h4 .nil pass0 ha.p hdb hst hpl, eCall ha.s, rfl⟩
theorem xCall0 {k j : Nat} {x : Str} {ps : List Str} {g : Fn} (C : Cal X.prog X.w K X.mg X.base j x ps [] g) (hr : Room k X.A) (hg : Gl X x := by rfl) (hj : j ≤ k := by decide) (hdb : (x == ("__debug__" : Str)) = false := by decide) (hk : X.K = K := by rfl) :
    SE K X (.Call (.Name x p2) [] [] pos) (tCall (spF K 0 g) [] E0 tNil) (cCall g [] aNil) := by
  cases hk
  obtain ⟨f, fd, h1, h2, h3, h4, _⟩ := C
  exact ⟨pe_call0 h1 (hr.mono hj) hg h2 h3 h4 .nil pass0 hdb, eCall (m := []) eaNil, rfl⟩
theorem xLend (h : SE K X e te ev) : SE K X e te (cLend ev) := by
  cases h.k
  exact ⟨h.p, eLend h.s, rfl⟩
theorem xApp {i : Nat} {x : Str} (h : PE X (.Name x p2) (tVar i)) (ha : SE K X e te ev) (hst : starEach [e] X.env = (false, eval e X.env) :: starEach [] X.env := by rfl)
    (hbase : attributeBase (.Name x p2) "append" X.env (eval (.Name x p2) X.env) = eval (.Name x p2) X.env := by rfl)
    (hfew : ((backTo pos (starEach [e] X.env)).all (fun x => !x.1) && (backToKw pos (keywordEach [] X.env)).all (fun x => x.1.isSome) && decide ([e].length + ([] : List Keyword).length + (if ([] : List Keyword).isEmpty then 0 else 1) < 30)) = true := by rfl)
    (hline : (p3.endLine == pos.line) = true := by rfl) :
    SE K X (.Call (.Attribute (.Name x p2) "append" p3) [e] [] pos) (tBM K "list" rAppend (tVar i) (tCons te tNil)) (cApp i ev) := by
  cases ha.k
  exact ⟨pe_bm PySem.F.plainAttrs_list PySem.F.slot_list_append PySem.F.type_list_append mt_append h (pa_cons ha.p pa_nil hst) hbase hfew hline hst (by rfl), eApp ha.s, rfl⟩
/-! ### targets, what is walked -/
variable {tg : Expr} {tgs : List Expr} {gg : TG} {ggs : TGs} {g : Tg} {gs : Tgs} {wi : TI} {it : It}
theorem gName_ {i : Nat} {x : Str} (h : PG X (.Name x pos) (gName i)) (hi : i ∉ pn := by decide) (hk : X.K = K := by rfl) : SG K X pn (.Name x pos) (gName i) (gN i) := by
  cases hk
  exact ⟨h, tgN hi, rfl⟩
theorem gNil_ (hk : X.K = K := by rfl) : SGs K X pn [] gNil gN0 := by
  cases hk
  exact ⟨pgs_nil, tgs0, rfl⟩
theorem gCons_ (h1 : SG K X pn tg gg g) (h2 : SGs K X pn tgs ggs gs) (hs : (assignEach (tg :: tgs) X.env).map (·.2) = assign tg X.env :: (assignEach tgs X.env).map (·.2) := by rfl) : SGs K X pn (tg :: tgs) (gCons gg ggs) (gNc g gs) := by
  cases h1.k
  exact ⟨pgs_cons h1.p h2.p hs, tgsC h1.s h2.s, rfl⟩
theorem gTup_ {k n : Nat} (hc : X.calm = true) (h : SGs K X pn tgs ggs gs) (hn : (assignEach tgs X.env).length = n := by rfl) (hst : (assignEach tgs X.env).findIdx? (·.1) = none := by rfl) : SG K X pn (.Tuple tgs k pos) (gSeq K n ggs) (gUn n gs) := by
  cases h.k
  exact ⟨pg_seq hc h.p hn hst, tgUn h.s, rfl⟩
theorem gIx_ {i : Nat} {x : Str} (h : PE X (.Name x p2) (tVar i)) (hk : SE K X e te ev)
    (ha : ∀ v, assign (.Subscript (.Name x p2) e pos) X.env v = (do
      let ov ← holding [v] (eval (.Name x p2) X.env)
      let iv ← holding [v, ov] (eval e X.env)
      standAt pos
      holding [v, ov, iv] (setItem ov iv v)
      release [v, ov, iv] []) := by intro _; rfl) : SG K X pn (.Subscript (.Name x p2) e pos) (gSub (tVar i) te rSetL) (gIx i ev) := by
  cases hk.k
  exact ⟨pg_sub h hk.p set_list ha, tgIx hk.s, rfl⟩
theorem iList_ (h : SE K X e te ev) : SI K X tg e (iList K te) (iLs ev) := by
  cases h.k
  exact ⟨pi_list h.p, wList h.s, rfl⟩
theorem iTup_ (h : SE K X e te ev) : SI K X tg e (iTup K te) (iTp ev) := by
  cases h.k
  exact ⟨pi_tup h.p, wTup h.s, rfl⟩
theorem iR1_ (hg : Gl X "range") (hm : X.mg "range" = none) (h : SA K X [e] tas eas) (hs : starEach [e] X.env = [(false, eval e X.env)] := by rfl) : SI K X tg (.Call (.Name "range" p2) [e] [] pos) (iRng1 tas) (iR1 eas) := by
  cases h.k
  exact ⟨pi_range1 hg hm h.p hs, wR1 h.s, rfl⟩
/-! ### comprehensions -/
structure STs (K : PySem.W.Frag) (X : Cx) (ifs : List Expr) (tt : TT) (et : Et) : Prop where
  p : PTs X ifs tt
  s : TSnd K tt et
  k : X.K = K := by rfl
def cYes : Et := fun env => some (true, env)
theorem cNoIf (hk : X.K = K := by rfl) : STs K X [] tYes cYes := by
  cases hk
  exact ⟨pts_nil, fun env b env' h σ F O f a0 Q q => by cases h; exact q F O f a0 Stp.refl, rfl⟩
theorem cIf1 (h : ST K X e tt et) : STs K X [e] tt et := by
  cases h.k
  exact ⟨pts_one h.p, h.s, rfl⟩
theorem all_pn {n : Nat} {vs : List Nat} (hp : ((List.range n).all fun i => decide (i ∈ vs) || decide (i ∈ pn)) = true) : ∀ i, i < n → i ∉ vs → i ∈ pn := fun i hi hv => by
  rw [List.all_eq_true] at hp
  have := hp i (List.mem_range.mpr hi)
  simp only [Bool.or_eq_true, decide_eq_true_eq] at this
  rcases this with z | z
  · exact absurd z hv
  · exact z
theorem xLc {elt iter : Expr} {ifs : List Expr} {scope : Scope} (own : List (Str × Nat)) {n : Nat} (hc : X.calm = true) (hN : X.N.Nodup) (hi : SI K X tg iter wi it) (ok : BlkOk X.N X.env.scope scope own)
    (hg : ∀ (s : Shared) (H : Hp) (C : Addr) (cl : List (Str × Addr)) (fp : List Addr), SG K (X.blk s H scope (PySem.compEnvC scope cl C X.env) fp) pn tg gg g)
    (ht : ∀ (s : Shared) (H : Hp) (C : Addr) (cl : List (Str × Addr)) (fp : List Addr), STs K (X.blk s H scope (PySem.compEnvC scope cl C X.env) fp) ifs tt et)
    (he : ∀ (s : Shared) (H : Hp) (C : Addr) (cl : List (Str × Addr)) (fp : List Addr), SE K (X.blk s H scope (PySem.compEnvC scope cl C X.env) fp) elt te ev)
    (hp : ((List.range n).all fun i => decide (i ∈ own.map (·.2)) || decide (i ∈ pn)) = true := by decide) (hs : ∀ x, foldedSetIterable iter X.env x = pure x := by intro _; rfl) :
    SE K X (.ListComp elt [⟨tg, iter, ifs, 0⟩] scope pos) (tLc wi gg tt te (own.map (·.2))) (cLc n (own.map (·.2)) it g et ev) := by
  cases hi.k
  exact ⟨pe_lc hc hN hi.p ok (fun s H C cl fp => (hg s H C cl fp).p) (fun s H C cl fp => (ht s H C cl fp).p) (fun s H C cl fp => (he s H C cl fp).p) hs,
    eLc (all_pn hp) hi.s (hg X.s_0 X.H_0 0 [] []).s (ht X.s_0 X.H_0 0 [] []).s (he X.s_0 X.H_0 0 [] []).s, rfl⟩
/-! ### statements -/
variable {st : Stmt} {sts : List Stmt} {ts us : TS} {s u : S}
theorem zNil (hk : X.K = K := by rfl) : SSs K X pn [] tNext cSkip := by
  cases hk
  exact ⟨pss_nil, sSkip, rfl⟩
theorem zCons (h1 : SS K X pn st ts s) (h2 : SSs K X pn sts us u) : SSs K X pn (st :: sts) (tSeq ts us) (cSeq s u) := by
  cases h1.k
  exact ⟨pss_cons h1.p h2.p, sSeq h1.s h2.s, rfl⟩
theorem zOne (h1 : SS K X pn st ts s) : SSs K X pn [st] ts s := by
  cases h1.k
  exact ⟨pss_one h1.p, h1.s, rfl⟩
theorem zExpr (he : SE K X e te ev) (hs : swapsWith e none pos.line X.env = pure false := by rfl) : SS K X pn (.Expr e pos) (tDrop te) (cDrop ev) := by
  cases he.k
  exact ⟨ps_expr he.p hs, sDrop he.s, rfl⟩
theorem zRet (he : SE K X e te ev) : SS K X pn (.Return (some e) pos) (tRet te) (cRet ev) := by
  cases he.k
  exact ⟨ps_ret he.p, sRet he.s, rfl⟩
theorem zIf {sa sb : List Stmt} (hc : ST K X c tt et) (ha : SSs K X pn sa ts s) (hb : SSs K X pn sb us u) : SS K X pn (.If c sa sb pos) (tIfS tt ts us) (cIfS et s u) := by
  cases hc.k
  exact ⟨ps_if hc.p ha.p hb.p, sIf hc.s ha.s hb.s, rfl⟩
theorem zAsg (he : SE K X e te ev) (hg : SG K X pn tg gg g) (hs : swapsWithSole [tg] e pos.line X.env = pure false := by rfl) (hw : swappedStores [tg] e X.env = pure none := by rfl) (h1 : (assignEach [tg] X.env).map (·.2) = [assign tg X.env] := by rfl) :
    SS K X pn (.Assign [tg] e pos) (tAsg te gg) (cAsg ev g) := by
  cases he.k
  exact ⟨ps_asg he.p hg.p hs hw h1, sAsg he.s hg.s, rfl⟩
theorem zFor {iter : Expr} {body : List Stmt} (hp : PassesOwn (model X.prog X.w) X.A X.env X.xe) (hc : X.calm = true) (hi : SI K X tg iter wi it) (hg : SG K X pn tg gg g) (hb : SSs K X pn body ts s) (hs : ∀ x, foldedSetIterable iter X.env x = pure x := by intro _; rfl) :
    SS K X pn (.For tg iter body [] pos) (tFor wi gg ts) (cFor it g s) := by
  cases hi.k
  exact ⟨ps_for hp hc hi.p hg.p hb.p hs, sFor hi.s hg.s hb.s, rfl⟩
end
end LP
set_option maxRecDepth 100000
/-! LP: more words; the law's end. -/
namespace LP
open PySem L2
section
variable {K : PySem.W.Frag} {F O F' O' F1 O1 F2 O2 : Hp} {σ : L2.St} {env env' : Env} {f f1 f2 fp fp1 fp2 : List Addr} {pn : List Nat}
/-- what was made is given free at once -/
def cFr (a : Ev) : Ev := fun env => match a env with
  | some (.t x, e) => some (.t x.er, e)
  | some (.s i, e) => some (.s i, e)
  | none => none
theorem eFr {ta : TE} {a : Ev} (ha : ESnd K ta a) : ESnd K ta (cFr a) := by
  intro env o env' h σ F O f a0 Q q
  simp only [cFr] at h
  split at h
  · next x e h1 =>
    cases h
    refine ha _ _ _ h1 σ F O f a0 _ fun v F1 O1 fp1 f1 a1 s1 r1 => ?_
    have r1 : Rl K F1 O1 v x fp1 := r1
    have al := r1.alloc
    have r2 := r1.erase a1.d al fun a z => z
    have sm := a1.d.same_toF al
    have kk : ∀ b ∈ f1, ∀ u, O1 b = some u → offO O1 fp1 b = some u := fun b z u e => by
      unfold offO
      rw [if_neg fun w => a1.nd.apart w z]
      exact e
    have j := jn_toF (F := F1) al
    rw [← j]
    refine q v _ _ [] f1 ⟨a1.d.toF, a1.e.mono sm kk, a1.nd.right⟩ ⟨s1.f.trans sm, fun b u n e => ?_, fun b z => s1.n b (List.mem_append_right _ z), fun b n => ?_⟩ r2
    · have e1 := s1.k b u n e
      unfold offO
      rw [if_neg fun w => ?_]
      · exact e1
      · rcases s1.n b (List.mem_append_left _ w) with q | q
        · exact n q
        · rw [jn_O e] at q; cases q
    · rw [j]; exact s1.g b n
  · next i e h1 =>
    cases h
    exact ha _ _ _ h1 σ F O f a0 Q q
  · cases h
/-- i ** j, small -/
def powT := opI fun i j => if 0 ≤ j ∧ j ≤ 1000000 ∧ i.natAbs < 2 ^ 64 then some (i ^ j.toNat) else none
theorem sPow : OSnd2 K (rI CPow fun i j => .int (i ^ j.toNat)) powT := sI fun i j k e => by
  split at e
  · next h => exact ⟨h, Option.some.inj e⟩
  · cases e
end
section
variable {K : PySem.W.Frag} {X : Cx} {a b c e : Expr} {es : List Expr} {ta tb tc te : TE} {tas : TA} {ea eb ec ev : Ev} {eas : Ea} {tt tu : TT} {et eu : Et} {pos p2 p3 : Pos} {pn : List Nat} {tg : Expr} {tgs : List Expr} {gg : TG} {ggs : TGs} {g : Tg} {gs : Tgs} {wi : TI} {it : It}
theorem xFr (h : SE K X e te ev) : SE K X e te (cFr ev) := by
  cases h.k
  exact ⟨h.p, eFr h.s, rfl⟩
theorem xPow (ha : SE K X a ta ea) (hb : SE K X b tb eb) : SE K X (.BinOp a .Pow b pos) (tOp (rI CPow fun i j => .int (i ^ j.toNat)) ta tb) (cO2 powT ea eb) := by
  cases ha.k
  exact xOp op_pow sPow ha hb
theorem zSetLcF {i : Nat} {y : Str} {py spos : Pos} {elt iter : Expr} {ifs : List Expr} {scope : Scope} (own : List (Str × Nat)) {n : Nat} {pm : List Nat} (hc : X.calm = true) (hN : X.N.Nodup) (hy : X.N[i]? = some y) (hyl : X.env.scope.names.lookup y = some .local)
    (hsw : swapsWith (.ListComp elt [⟨tg, iter, ifs, 0⟩] scope pos) (some (.Name y py)) spos.line X.env = pure true) (hi : SI K X tg iter wi it) (ok : BlkOk X.N X.env.scope scope own)
    (hg : ∀ (s : Shared) (H : Hp) (C : Addr) (cl : List (Str × Addr)) (fp : List Addr), SG K (X.blk s H scope (PySem.compEnvC scope cl C X.env) fp) pm tg gg g)
    (ht : ∀ (s : Shared) (H : Hp) (C : Addr) (cl : List (Str × Addr)) (fp : List Addr), STs K (X.blk s H scope (PySem.compEnvC scope cl C X.env) fp) ifs tt et)
    (he : ∀ (s : Shared) (H : Hp) (C : Addr) (cl : List (Str × Addr)) (fp : List Addr), SE K (X.blk s H scope (PySem.compEnvC scope cl C X.env) fp) elt te ev)
    (hpn : i ∉ pn := by decide) (hp : ((List.range n).all fun i => decide (i ∈ own.map (·.2)) || decide (i ∈ pm)) = true := by decide) (hs : ∀ x, foldedSetIterable iter X.env x = pure x := by intro _; rfl) :
    SS K X pn (.Assign [.Name y py] (.ListComp elt [⟨tg, iter, ifs, 0⟩] scope pos) spos) (tAsg (tLc wi gg tt te (own.map (·.2))) (gName i)) (cAsg (cFr (cLc n (own.map (·.2)) it g et ev)) (gN i)) := by
  cases hi.k
  exact ⟨ps_setLc hc hN hy hyl hsw hi.p ok (fun s H C cl fp => (hg s H C cl fp).p) (fun s H C cl fp => (ht s H C cl fp).p) (fun s H C cl fp => (he s H C cl fp).p) hs,
    sAsg (eFr (eLc (all_pn hp) hi.s (hg X.s_0 X.H_0 0 [] []).s (ht X.s_0 X.H_0 0 [] []).s (he X.s_0 X.H_0 0 [] []).s)) (tgN hpn), rfl⟩
end
/-- a def of the module's top -/
def DefOk (K : PySem.W.Frag) (mg : Str → Option Value) (x : Str) (st : Stmt) : Prop := ∃ f fd, Fun K x x st f fd ∧ mg x = some (.ref f)
theorem fun_lk {K : PySem.W.Frag} {x q : Str} {st : Stmt} {f : Addr} {fd : FuncData} (F : Fun K x q st f fd) : ∃ oc od osl, K.lookup f = some ⟨oc, od, .func fd, osl⟩ := by
  obtain ⟨oc, od, _, _, _, _, _, _, osl, _, h, _⟩ := F.ex
  exact ⟨oc, od, osl, h⟩
theorem fn_same {P : Program} {w : World} {K : PySem.W.Frag} {mg : Str → Option Value} {base : Heap} {k : Nat} {f : Addr} {fd fd' : FuncData} {ps : List Str} {sp : Sp} {x q : Str} {st : Stmt} (h : FnOk P w K mg base CX0 k f fd ps sp)
    (l : ∃ oc od osl, K.lookup f = some ⟨oc, od, .func fd, osl⟩) (F : Fun K x q st f fd') : FnOk P w K mg base CX0 k f fd' ps sp := by
  obtain ⟨_, _, _, l⟩ := l
  obtain ⟨_, _, _, l'⟩ := fun_lk F
  rw [l] at l'
  cases l'
  exact h
/-- the law's end -/
theorem law_of {K : PySem.W.Frag} {H : Hp} {a : Addr} {ns : List Int} {g : Fn} (h : g [.scr ns] = some (.bl true, [.scr ns])) (hO : Only H) (hS : SqL K H a (ns.map V.int)) : spF K 1 g [.ref a] H (fun v _ => v = .bl true) fun _ _ _ => False := by
  have j : jn H (fun _ => none) = H := rfl
  refine ⟨H, fun _ => none, [.scr ns], [], .bl true, [.scr ns], rfl, j.symm, fun _ => .inr rfl, .cons (f := []) (fs := []) (.scr ?_) .nil, Nd.nil, h, fun v F' O' fp f' d s r rs n => ?_⟩
  · rcases hS with (h | ⟨o, h⟩) | h
    · rcases hO a with e | ⟨o, xs, e⟩
      · rw [e] at h; cases h
      · rw [e] at h; cases h
    · exact .inl ⟨o, h⟩
    · exact .inr (.inr h)
  · cases r
    rfl
end LP
set_option maxRecDepth 100000
/-! LP: the combinators reckoned. -/
namespace LP
open PySem L2
def sq (o : Option Out) (b : S) : Option Out := match o with
  | some (.nx e) => b e
  | o => o
@[simp] theorem sq_nx (e : Env) (b : S) : sq (some (.nx e)) b = b e := rfl
@[simp] theorem sq_rt (t : T) (e : Env) (b : S) : sq (some (.rt t e)) b = some (.rt t e) := rfl
@[simp] theorem sq_bk (e : Env) (b : S) : sq (some (.bk e)) b = some (.bk e) := rfl
@[simp] theorem sq_ct (e : Env) (b : S) : sq (some (.ct e)) b = some (.ct e) := rfl
@[simp] theorem sq_none (b : S) : sq none b = none := rfl
@[simp] theorem sq_ite (c : Prop) [Decidable c] (x y : Option Out) (b : S) : sq (if c then x else y) b = if c then sq x b else sq y b := by split <;> rfl
@[simp] theorem bind_ite_ {α β : Type} (c : Prop) [Decidable c] (x y : Option α) (k : α → Option β) : (if c then x else y).bind k = if c then x.bind k else y.bind k := by split <;> rfl
@[simp] theorem cSeq_def (a b : S) (env : Env) : cSeq a b env = sq (a env) b := by
  unfold cSeq sq
  cases a env with
  | none => rfl
  | some o => cases o <;> rfl
@[simp] theorem cSkip_def (env : Env) : cSkip env = some (.nx env) := rfl
@[simp] theorem cBrk_def (env : Env) : cBrk env = some (.bk env) := rfl
@[simp] theorem cCnt_def (env : Env) : cCnt env = some (.ct env) := rfl
@[simp] theorem cIfS_def (c : Et) (a b : S) (env : Env) : cIfS c a b env = (c env).bind fun p => if p.1 = true then a p.2 else b p.2 := by
  unfold cIfS
  cases c env with
  | none => rfl
  | some p => obtain ⟨b, e⟩ := p; cases b <;> rfl
@[simp] theorem cDrop_def (a : Ev) (env : Env) : cDrop a env = (a env).bind fun p => some (.nx p.2) := by
  unfold cDrop
  cases a env <;> rfl
@[simp] theorem cRet_def (a : Ev) (env : Env) : cRet a env = (a env).bind fun p => (sto p.2 p.1).bind fun t => some (.rt t p.2) := by
  unfold cRet
  cases a env with
  | none => rfl
  | some p =>
    simp only [Option.bind_some]
    cases sto p.2 p.1 <;> rfl
@[simp] theorem cRetN_def (env : Env) : cRetN env = some (.rt .non env) := rfl
@[simp] theorem cAsg_def (a : Ev) (g : Tg) (env : Env) : cAsg a g env = (a env).bind fun p => (sto p.2 p.1).bind fun t => (g t p.2).bind fun e => some (.nx e) := by
  unfold cAsg
  cases a env with
  | none => rfl
  | some p =>
    simp only [Option.bind_some]
    cases sto p.2 p.1 with
    | none => rfl
    | some t =>
      simp only [Option.bind_some]
      cases g t p.2 <;> rfl
@[simp] theorem gN_def (i : Nat) (x : T) (env : Env) : gN i x env = some (env.set i (some x)) := rfl
@[simp] theorem gN0_def (env : Env) : gN0 [] env = some env := rfl
@[simp] theorem gNc_def (a : Tg) (r : Tgs) (x : T) (xs : List T) (env : Env) : gNc a r (x :: xs) env = (a x env).bind fun e => r xs e := by
  simp only [gNc]
  cases a x env <;> rfl
@[simp] theorem gUn_tup (n : Nat) (r : Tgs) (o : Bool) (xs : List T) (env : Env) : gUn n r (.tup o xs) env = if xs.length = n then r xs env else none := rfl
@[simp] theorem gUn_lst (n : Nat) (r : Tgs) (o : Bool) (xs : List T) (env : Env) : gUn n r (.lst o xs) env = if xs.length = n then r xs env else none := rfl
def atE (env : Env) (i : Nat) : Option T := match env[i]? with
  | some (some t) => some t
  | _ => none
@[simp] theorem atE_zero (t : T) (r : Env) : atE (some t :: r) 0 = some t := rfl
@[simp] theorem atE_zeroN (r : Env) : atE (none :: r) 0 = none := rfl
@[simp] theorem atE_succ (x : Option T) (r : Env) (i : Nat) : atE (x :: r) (i + 1) = atE r i := rfl
@[simp] theorem vw_s (env : Env) (i : Nat) : vw env (.s i) = atE env i := rfl
@[simp] theorem vw_t (env : Env) (t : T) : vw env (.t t) = some t := rfl
@[simp] theorem sto_t (env : Env) (t : T) : sto env (.t t) = some t := rfl
@[simp] theorem sto_s (env : Env) (i : Nat) : sto env (.s i) = (atE env i).bind fun t => if t.fz = true then some t else none := by
  simp only [sto, vw_s]
  cases atE env i <;> rfl
theorem atE_some {env : Env} {i : Nat} {t : T} (h : env[i]? = some (some t)) : atE env i = some t := by unfold atE; rw [h]
@[simp] theorem cV_def (i : Nat) (env : Env) : cV i env = (atE env i).bind fun _ => some (.s i, env) := by
  unfold cV atE
  cases env[i]? with
  | none => rfl
  | some x => cases x <;> rfl
@[simp] theorem cK_def (t : T) (env : Env) : cK t env = some (.t t, env) := rfl
@[simp] theorem cMv_def (i : Nat) (env : Env) : cMv i env = (atE env i).bind fun t => some (.t t, env.set i none) := by
  unfold cMv atE
  cases env[i]? with
  | none => rfl
  | some x => cases x <;> rfl
@[simp] theorem cFz_def (i : Nat) (env : Env) : cFz i env = (atE env i).bind fun t => some (.t t.er, env.set i (some t.er)) := by
  unfold cFz atE
  cases env[i]? with
  | none => rfl
  | some x => cases x <;> rfl
@[simp] theorem cO1_def (g : T → Option T) (a : Ev) (env : Env) : cO1 g a env = (a env).bind fun p => (vw p.2 p.1).bind fun x => (g x).bind fun t => some (.t t, p.2) := by
  unfold cO1
  cases a env with
  | none => rfl
  | some p =>
    simp only [Option.bind_some]
    cases vw p.2 p.1 with
    | none => rfl
    | some x => simp only [Option.bind_some]; cases g x <;> rfl
@[simp] theorem cO2_def (g : T → T → Option T) (a b : Ev) (env : Env) : cO2 g a b env = (a env).bind fun p => (b p.2).bind fun q => (vw q.2 p.1).bind fun x => (vw q.2 q.1).bind fun y => (g x y).bind fun t => some (.t t, q.2) := by
  unfold cO2
  cases a env with
  | none => rfl
  | some p =>
    simp only [Option.bind_some]
    cases b p.2 with
    | none => rfl
    | some q =>
      simp only [Option.bind_some]
      cases vw q.2 p.1 with
      | none => rfl
      | some x =>
        simp only [Option.bind_some]
        cases vw q.2 q.1 with
        | none => rfl
        | some y => simp only [Option.bind_some]; cases g x y <;> rfl
@[simp] theorem cON_def (g : List T → Option T) (a : Ea) (env : Env) : cON g a env = (a env).bind fun p => (vws p.2 p.1).bind fun x => (g x).bind fun t => some (.t t, p.2) := by
  unfold cON
  cases a env with
  | none => rfl
  | some p =>
    simp only [Option.bind_some]
    cases vws p.2 p.1 with
    | none => rfl
    | some x => simp only [Option.bind_some]; cases g x <;> rfl
@[simp] theorem vws_nil (env : Env) : vws env [] = some [] := rfl
@[simp] theorem vws_cons (env : Env) (o : Opd) (os : List Opd) : vws env (o :: os) = (vw env o).bind fun t => (vws env os).bind fun ts => some (t :: ts) := by
  rw [vws]
  cases vw env o with
  | none => rfl
  | some t => simp only [Option.bind_some]; cases vws env os <;> rfl
@[simp] theorem stos_nil (env : Env) : stos env [] = some [] := rfl
@[simp] theorem stos_cons (env : Env) (o : Opd) (os : List Opd) : stos env (o :: os) = (sto env o).bind fun t => (stos env os).bind fun ts => some (t :: ts) := by
  rw [stos]
  cases sto env o with
  | none => rfl
  | some t => simp only [Option.bind_some]; cases stos env os <;> rfl
@[simp] theorem aNil_def (env : Env) : aNil env = some ([], env) := rfl
@[simp] theorem aCons_def (a : Ev) (r : Ea) (env : Env) : aCons a r env = (a env).bind fun p => (r p.2).bind fun q => some (p.1 :: q.1, q.2) := by
  unfold aCons
  cases a env with
  | none => rfl
  | some p => simp only [Option.bind_some]; cases r p.2 <;> rfl
@[simp] theorem cLst_def (a : Ea) (env : Env) : cLst a env = (a env).bind fun p => (stos p.2 p.1).bind fun ts => if ts.length ≤ sizeLine then some (.t (.lst true ts), p.2) else none := by
  unfold cLst
  cases a env with
  | none => rfl
  | some p => simp only [Option.bind_some]; cases stos p.2 p.1 <;> rfl
@[simp] theorem cTup_def (a : Ea) (env : Env) : cTup a env = (a env).bind fun p => (stos p.2 p.1).bind fun ts => if ts.length ≤ sizeLine then some (.t (.tup (!fzL ts) ts), p.2) else none := by
  unfold cTup
  cases a env with
  | none => rfl
  | some p => simp only [Option.bind_some]; cases stos p.2 p.1 <;> rfl
@[simp] theorem cTest_def (a : Ev) (env : Env) : cTest a env = (a env).bind fun p => (vw p.2 p.1).bind fun t => match t with
    | .bl b => some (b, p.2)
    | _ => none := by
  unfold cTest
  cases a env with
  | none => rfl
  | some p =>
    simp only [Option.bind_some]
    cases vw p.2 p.1 with
    | none => rfl
    | some t => cases t <;> rfl
@[simp] theorem cAnd_def (a b : Et) (env : Env) : cAnd a b env = (a env).bind fun p => if p.1 = true then b p.2 else some (false, p.2) := by
  unfold cAnd
  cases a env with
  | none => rfl
  | some p => obtain ⟨c, e⟩ := p; cases c <;> rfl
@[simp] theorem cOr_def (a b : Et) (env : Env) : cOr a b env = (a env).bind fun p => if p.1 = true then some (true, p.2) else b p.2 := by
  unfold cOr
  cases a env with
  | none => rfl
  | some p => obtain ⟨c, e⟩ := p; cases c <;> rfl
@[simp] theorem cNot_def (a : Et) (env : Env) : cNot a env = (a env).bind fun p => some (!p.1, p.2) := by
  unfold cNot
  cases a env <;> rfl
@[simp] theorem cYes_def (env : Env) : cYes env = some (true, env) := rfl
@[simp] theorem cAndV_def (a b : Ev) (env : Env) : cAndV a b env = (a env).bind fun p => (vw p.2 p.1).bind fun t => match t with
    | .bl c => if c = true then b p.2 else some (.t (.bl false), p.2)
    | _ => none := by
  unfold cAndV
  cases a env with
  | none => rfl
  | some p =>
    simp only [Option.bind_some]
    cases vw p.2 p.1 with
    | none => rfl
    | some t => cases t with
      | bl c => cases c <;> rfl
      | _ => rfl
@[simp] theorem cOrV_def (a b : Ev) (env : Env) : cOrV a b env = (a env).bind fun p => (vw p.2 p.1).bind fun t => match t with
    | .bl c => if c = true then some (.t (.bl true), p.2) else b p.2
    | _ => none := by
  unfold cOrV
  cases a env with
  | none => rfl
  | some p =>
    simp only [Option.bind_some]
    cases vw p.2 p.1 with
    | none => rfl
    | some t => cases t with
      | bl c => cases c <;> rfl
      | _ => rfl
@[simp] theorem cNotV_def (a : Ev) (env : Env) : cNotV a env = (a env).bind fun p => (vw p.2 p.1).bind fun t => match t with
    | .bl c => some (.t (.bl (!c)), p.2)
    | _ => none := by
  unfold cNotV
  cases a env with
  | none => rfl
  | some p =>
    simp only [Option.bind_some]
    cases vw p.2 p.1 with
    | none => rfl
    | some t => cases t <;> rfl
@[simp] theorem cIf_def (c : Et) (a b : Ev) (env : Env) : cIf c a b env = (c env).bind fun p => if p.1 = true then a p.2 else b p.2 := by
  unfold cIf
  cases c env with
  | none => rfl
  | some p => obtain ⟨b, e⟩ := p; cases b <;> rfl
@[simp] theorem p0_def (env : Env) : p0 env = some (none, env) := rfl
@[simp] theorem p1_def (a : Ev) (env : Env) : p1 a env = (a env).bind fun p => (vw p.2 p.1).bind fun t => match t with
    | .int i => some (some i, p.2)
    | _ => none := by
  unfold p1
  cases a env with
  | none => rfl
  | some p =>
    simp only [Option.bind_some]
    cases vw p.2 p.1 with
    | none => rfl
    | some t => cases t <;> rfl
@[simp] theorem cSl_def (a : Ev) (lo hi : Po) (env : Env) : cSl a lo hi env = (a env).bind fun p => (lo p.2).bind fun q => (hi q.2).bind fun r => (vw r.2 p.1).bind fun x => (slT x q.1 r.1).bind fun t => some (.t t, r.2) := by
  unfold cSl
  cases a env with
  | none => rfl
  | some p =>
    simp only [Option.bind_some]
    cases lo p.2 with
    | none => rfl
    | some q =>
      simp only [Option.bind_some]
      cases hi q.2 with
      | none => rfl
      | some r =>
        simp only [Option.bind_some]
        cases vw r.2 p.1 with
        | none => rfl
        | some x => simp only [Option.bind_some]; cases slT x q.1 r.1 <;> rfl
@[simp] theorem cFr_def (a : Ev) (env : Env) : cFr a env = (a env).bind fun p => some (match p.1 with
    | .t x => .t x.er
    | .s i => .s i, p.2) := by
  unfold cFr
  cases a env with
  | none => rfl
  | some p => obtain ⟨o, e⟩ := p; cases o <;> rfl
@[simp] theorem ers_nil : ers [] = [] := rfl
@[simp] theorem ers_s (i : Nat) (r : List Opd) : ers (.s i :: r) = .s i :: ers r := rfl
@[simp] theorem ers_t (x : T) (r : List Opd) : ers (.t x :: r) = .t x.er :: ers r := rfl
@[simp] theorem cArgs_nil (env : Env) : cArgs [] [] env = some ([], env) := rfl
@[simp] theorem cArgs_io (m : List Bool) (i : Nat) (os : List Opd) (env : Env) : cArgs (true :: m) (.s i :: os) env = (atE env i).bind fun t => (cArgs m os (env.set i none)).bind fun p => some (t :: p.1, p.2) := by
  simp only [cArgs, atE]
  cases env[i]? with
  | none => rfl
  | some x =>
    cases x with
    | none => rfl
    | some t =>
      simp only [Option.bind_some]
      cases cArgs m os (env.set i none) <;> rfl
@[simp] theorem cArgs_s (m : List Bool) (i : Nat) (os : List Opd) (env : Env) : cArgs (false :: m) (.s i :: os) env = (atE env i).bind fun t => if t.fz = true then (cArgs m os env).bind fun p => some (t :: p.1, p.2) else none := by
  simp only [cArgs, atE]
  cases env[i]? with
  | none => rfl
  | some x =>
    cases x with
    | none => rfl
    | some t =>
      simp only [Option.bind_some]
      cases cArgs m os env <;> rfl
@[simp] theorem cArgs_t (m : List Bool) (x : T) (os : List Opd) (env : Env) : cArgs (false :: m) (.t x :: os) env = if x.fz = true then (cArgs m os env).bind fun p => some (x :: p.1, p.2) else none := by
  simp only [cArgs]
  cases cArgs m os env <;> rfl
@[simp] theorem cBack_nil (ts : List T) (env : Env) : cBack [] [] ts env = env := by cases ts <;> rfl
@[simp] theorem cBack_io (m : List Bool) (i : Nat) (os : List Opd) (t : T) (ts : List T) (env : Env) : cBack (true :: m) (.s i :: os) (t :: ts) env = cBack m os ts (env.set i (some t)) := rfl
@[simp] theorem cBack_f (m : List Bool) (o : Opd) (os : List Opd) (t : T) (ts : List T) (env : Env) : cBack (false :: m) (o :: os) (t :: ts) env = cBack m os ts env := by cases o <;> rfl
@[simp] theorem cCall_def (g : Fn) (m : List Bool) (a : Ea) (env : Env) : cCall g m a env = (a env).bind fun p => (cArgs m (ers p.1) p.2).bind fun q => (g q.1).bind fun r => some (.t r.1, cBack m (ers p.1) r.2 q.2) := by
  unfold cCall
  cases a env with
  | none => rfl
  | some p =>
    simp only [Option.bind_some]
    cases cArgs m (ers p.1) p.2 with
    | none => rfl
    | some q => simp only [Option.bind_some]; cases g q.1 <;> rfl
@[simp] theorem er_er_fz (t : T) : t.er.fz = true := er_fz t
mutual
theorem er_of_fz : ∀ {t : T}, t.fz = true → t.er = t
  | .non, _ => rfl
  | .bl _, _ => rfl
  | .int _, _ => rfl
  | .str _, _ => rfl
  | .scr _, _ => rfl
  | .lst o xs, h => by
    simp only [T.fz, Bool.and_eq_true, Bool.not_eq_true'] at h
    rw [T.er, h.1, erL_of_fz h.2]
  | .tup o xs, h => by
    simp only [T.fz, Bool.and_eq_true, Bool.not_eq_true'] at h
    rw [T.er, h.1, erL_of_fz h.2]
  | .dic o ks xs, h => by
    simp only [T.fz, Bool.and_eq_true, Bool.not_eq_true'] at h
    rw [T.er, h.1, erL_of_fz h.2]
  | .dtu o ks xs, h => by
    simp only [T.fz, Bool.and_eq_true, Bool.not_eq_true'] at h
    rw [T.er, h.1, erL_of_fz h.2]
theorem erL_of_fz : ∀ {ts : List T}, fzL ts = true → erL ts = ts
  | [], _ => rfl
  | x :: r, h => by
    simp only [fzL, Bool.and_eq_true] at h
    rw [erL, er_of_fz h.1, erL_of_fz h.2]
end
@[simp] theorem outs_nil (env : Env) : outsOf [] [] env = some [] := rfl
@[simp] theorem outs_io (m : List Bool) (t u : T) (ts : List T) (env : Env) : outsOf (true :: m) (u :: ts) (some t :: env) = (outsOf m ts env).bind fun us => some (t :: us) := by
  simp only [outsOf]
  cases outsOf m ts env <;> rfl
@[simp] theorem outs_f (m : List Bool) (x : Option T) (t : T) (ts : List T) (env : Env) : outsOf (false :: m) (t :: ts) (x :: env) = if t.fz = true then (outsOf m ts env).bind fun us => some (t :: us) else none := by
  simp only [outsOf]
  cases outsOf m ts env <;> rfl
def finB (m : List Bool) (ts : List T) : Option Out → Option (T × List T)
  | some (.rt t e) => (outsOf m ts e).bind fun us => some (t, us)
  | some (.nx e) => (outsOf m ts e).bind fun us => some (.non, us)
  | _ => none
@[simp] theorem finB_rt (m : List Bool) (ts : List T) (t : T) (e : Env) : finB m ts (some (.rt t e)) = (outsOf m ts e).bind fun us => some (t, us) := rfl
@[simp] theorem finB_nx (m : List Bool) (ts : List T) (e : Env) : finB m ts (some (.nx e)) = (outsOf m ts e).bind fun us => some (.non, us) := rfl
@[simp] theorem finB_none (m : List Bool) (ts : List T) : finB m ts none = none := rfl
@[simp] theorem finB_ite (m : List Bool) (ts : List T) (c : Prop) [Decidable c] (x y : Option Out) : finB m ts (if c then x else y) = if c then finB m ts x else finB m ts y := by split <;> rfl
@[simp] theorem runB_def (m : List Bool) (n : Nat) (b : S) (ts : List T) : runB m n b ts = finB m ts (b (ts.map some ++ List.replicate (n - ts.length) none)) := by
  unfold runB
  generalize b (ts.map some ++ List.replicate (n - ts.length) none) = o
  cases o with
  | none => rfl
  | some o =>
    cases o with
    | rt t e => simp only [finB]; cases outsOf m ts e <;> rfl
    | nx e => simp only [finB]; cases outsOf m ts e <;> rfl
    | bk e => rfl
    | ct e => rfl
/-- the list that a slot owns -/
def ownL (env : Env) (i : Nat) : Option (List T) := match atE env i with
  | some (.lst true xs) => some xs
  | _ => none
@[simp] theorem ownL_zero (xs : List T) (r : Env) : ownL (some (.lst true xs) :: r) 0 = some xs := rfl
@[simp] theorem ownL_succ (x : Option T) (r : Env) (i : Nat) : ownL (x :: r) (i + 1) = ownL r i := rfl
theorem at_ownL {env : Env} {i : Nat} {xs : List T} (h : env[i]? = some (some (.lst true xs))) : ownL env i = some xs := by unfold ownL atE; rw [h]
theorem at_nownL {env : Env} {i : Nat} (h : ∀ xs, env[i]? = some (some (.lst true xs)) → False) : ownL env i = none := by
  unfold ownL atE
  cases e : env[i]? with
  | none => rfl
  | some x =>
    cases x with
    | none => rfl
    | some t =>
      cases t with
      | lst o xs =>
        cases o with
        | true => exact (h xs e).elim
        | false => rfl
      | _ => rfl
@[simp] theorem cApp_def (i : Nat) (a : Ev) (env : Env) : cApp i a env = (ownL env i).bind fun _ => (a env).bind fun p => (ownL p.2 i).bind fun xs => (sto p.2 p.1).bind fun t => if xs.length < sizeLine then some (.t .non, p.2.set i (some (.lst true (xs ++ [t])))) else none := by
  unfold cApp
  split
  · next xs h =>
    rw [at_ownL h]
    cases a env with
    | none => rfl
    | some p =>
      simp only [Option.bind_some]
      split
      · next ys h2 =>
        rw [at_ownL h2]
        simp only [Option.bind_some]
        cases sto p.2 p.1 <;> rfl
      · next h2 => rw [at_nownL h2]; rfl
  · next h => rw [at_nownL h]; rfl
@[simp] theorem gIx_def (i : Nat) (k : Ev) (x : T) (env : Env) : gIx i k x env = (atE env i).bind fun _ => (k env).bind fun p => (vw p.2 p.1).bind fun t => match t with
    | .int n => (ownL p.2 i).bind fun xs => (ixN xs.length n).bind fun j => some (p.2.set i (some (.lst true (xs.set j x))))
    | _ => none := by
  unfold gIx
  split
  · next t h =>
    rw [atE_some h]
    cases k env with
    | none => rfl
    | some p =>
      simp only [Option.bind_some]
      cases vw p.2 p.1 with
      | none => rfl
      | some t => cases t with
        | int n =>
          simp only [Option.bind_some]
          split
          · next xs h2 =>
            rw [at_ownL h2]
            simp only [Option.bind_some]
            cases ixN xs.length n <;> rfl
          · next h2 => rw [at_nownL h2]; rfl
        | _ => rfl
  · next h =>
    have : atE env i = none := by
      unfold atE
      split
      · next t e => exact (h t e).elim
      · rfl
    rw [this]
    rfl
theorem atE_none {env : Env} {i : Nat} (h : ∀ t, env[i]? = some (some t) → False) : atE env i = none := by
  unfold atE
  split
  · next t e => exact (h t e).elim
  · rfl
@[simp] theorem cAug_def (i : Nat) (g : T → T → Option T) (a : Ev) (env : Env) : cAug i g a env = (atE env i).bind fun _ => (a env).bind fun p => (atE p.2 i).bind fun x => (vw p.2 p.1).bind fun y => (g x y).bind fun t => some (.nx (p.2.set i (some t))) := by
  unfold cAug
  split
  · next t h =>
    rw [atE_some h]
    simp only [Option.bind_some]
    cases a env with
    | none => rfl
    | some p =>
      simp only [Option.bind_some]
      split
      · next x h2 =>
        rw [atE_some h2]
        simp only [Option.bind_some]
        cases vw p.2 p.1 with
        | none => rfl
        | some y => simp only [Option.bind_some]; cases g x y <;> rfl
      · next h2 => rw [atE_none h2]; rfl
  · next h => rw [atE_none h]; rfl
@[simp] theorem opI_ints (g : Int → Int → Option Int) (i j : Int) : opI g (.int i) (.int j) = (g i j).bind fun k => some (.int k) := by
  simp only [opI]
  cases g i j <;> rfl
@[simp] theorem addT_ints (i j : Int) : addT (.int i) (.int j) = some (.int (i + j)) := rfl
@[simp] theorem addI_ints (i j : Int) : addI (.int i) (.int j) = some (.int (i + j)) := rfl
@[simp] theorem subI_ints (i j : Int) : subI (.int i) (.int j) = some (.int (i - j)) := rfl
@[simp] theorem subT_ints (i j : Int) : subT (.int i) (.int j) = some (.int (i - j)) := rfl
@[simp] theorem mulT_ints (i j : Int) : mulT (.int i) (.int j) = if okMul i j = true then some (.int (i * j)) else none := by
  unfold mulT
  rw [opI_ints]
  split <;> rfl
@[simp] theorem divT_ints (i j : Int) : divT (.int i) (.int j) = if 0 < j ∧ j < 1073741824 then some (.int (i / j)) else none := by
  unfold divT
  rw [opI_ints]
  split <;> rfl
@[simp] theorem modT_ints (i j : Int) : modT (.int i) (.int j) = if 0 < j then some (.int (i % j)) else none := by
  unfold modT
  rw [opI_ints]
  split <;> rfl
@[simp] theorem negT_int (i : Int) : negT (.int i) = some (.int (-i)) := rfl
@[simp] theorem ltT_ints (i j : Int) : ltT (.int i) (.int j) = some (.bl (decide (i < j))) := rfl
@[simp] theorem leT_ints (i j : Int) : leT (.int i) (.int j) = some (.bl (decide (i ≤ j))) := rfl
@[simp] theorem gtT_ints (i j : Int) : gtT (.int i) (.int j) = some (.bl (decide (j < i))) := rfl
@[simp] theorem geT_ints (i j : Int) : geT (.int i) (.int j) = some (.bl (decide (j ≤ i))) := rfl
@[simp] theorem eqT_ints (i j : Int) : eqT (.int i) (.int j) = some (.bl (decide (i = j))) := by
  simp only [eqT, T.dle, Bool.and_self, if_true, T.py, PyData.eqv]
  rfl
@[simp] theorem neT_ints (i j : Int) : neT (.int i) (.int j) = some (.bl (!decide (i = j))) := by
  simp only [neT, T.dle, Bool.and_self, if_true, T.py, PyData.eqv]
  rfl
@[simp] theorem isT_non (a : T) : isT a .non = some (.bl (isN a)) := rfl
@[simp] theorem isNotT_non (a : T) : isNotT a .non = some (.bl (!isN a)) := rfl
@[simp] theorem max2T_ints (i j : Int) : max2T [.int i, .int j] = some (.int (if j > i then j else i)) := rfl
@[simp] theorem min2T_ints (i j : Int) : min2T [.int i, .int j] = some (.int (if j < i then j else i)) := rfl
@[simp] theorem lenT_lst (o : Bool) (xs : List T) : lenT [.lst o xs] = some (.int xs.length) := rfl
@[simp] theorem lenT_tup (o : Bool) (xs : List T) : lenT [.tup o xs] = some (.int xs.length) := rfl
@[simp] theorem lenT_scr (ns : List Int) : lenT [.scr ns] = some (.int ns.length) := rfl
@[simp] theorem intT_int (i : Int) : intT [.int i] = some (.int i) := rfl
@[simp] theorem intT_bl (b : Bool) : intT [.bl b] = some (.int (if b then 1 else 0)) := rfl
@[simp] theorem listT_lst (o : Bool) (xs : List T) : listT [.lst o xs] = if fzL xs = true then some (.lst true xs) else none := rfl
@[simp] theorem listT_tup (o : Bool) (xs : List T) : listT [.tup o xs] = if fzL xs = true then some (.lst true xs) else none := rfl
@[simp] theorem ixT_lst (o : Bool) (xs : List T) (i : Int) : ixT (.lst o xs) (.int i) = (atI xs i).bind fun t => if t.fz = true then some t else none := by
  simp only [ixT]
  cases atI xs i <;> rfl
@[simp] theorem ixT_tup (o : Bool) (xs : List T) (i : Int) : ixT (.tup o xs) (.int i) = (atI xs i).bind fun t => if t.fz = true then some t else none := by
  simp only [ixT]
  cases atI xs i <;> rfl
@[simp] theorem ixT_scr (ns : List Int) (i : Int) : ixT (.scr ns) (.int i) = (atI ns i).bind fun n => some (.int n) := by
  simp only [ixT]
  cases atI ns i <;> rfl
@[simp] theorem atI_0 {α : Type} (x : α) (r : List α) : atI (x :: r) 0 = some x := atI_nat (j := 0) rfl
@[simp] theorem atI_1 {α : Type} (x y : α) (r : List α) : atI (x :: y :: r) 1 = some y := atI_nat (j := 1) rfl
@[simp] theorem atI_2 {α : Type} (x y z : α) (r : List α) : atI (x :: y :: z :: r) 2 = some z := atI_nat (j := 2) rfl
@[simp] theorem atI_3 {α : Type} (x y z u : α) (r : List α) : atI (x :: y :: z :: u :: r) 3 = some u := atI_nat (j := 3) rfl
@[simp] theorem atI_4 {α : Type} (x y z u v : α) (r : List α) : atI (x :: y :: z :: u :: v :: r) 4 = some v := atI_nat (j := 4) rfl
@[simp] theorem atI_5 {α : Type} (x y z u v w : α) (r : List α) : atI (x :: y :: z :: u :: v :: w :: r) 5 = some w := atI_nat (j := 5) rfl
theorem atI_of {α : Type} {xs : List α} {i : Int} {v : α} (h0 : 0 ≤ i) (h : xs[i.toNat]? = some v) : atI xs i = some v := by
  have := atI_nat h
  rw [Int.toNat_of_nonneg h0] at this
  exact this
@[simp] theorem ixN_0 (n : Nat) : ixN (n + 1) 0 = some 0 := by unfold ixN; rw [if_pos (by omega), if_pos (by omega)]; rfl
@[simp] theorem ixN_1 (n : Nat) : ixN (n + 2) 1 = some 1 := by unfold ixN; rw [if_pos (by omega), if_pos (by omega)]; rfl
@[simp] theorem fz_lst (o : Bool) (xs : List T) : (T.lst o xs).fz = (!o && fzL xs) := by rw [T.fz]
@[simp] theorem fz_tup (o : Bool) (xs : List T) : (T.tup o xs).fz = (!o && fzL xs) := by rw [T.fz]
@[simp] theorem fz_int (i : Int) : (T.int i).fz = true := rfl
@[simp] theorem fz_bl (i : Bool) : (T.bl i).fz = true := rfl
@[simp] theorem fz_str (i : Str) : (T.str i).fz = true := rfl
@[simp] theorem fz_non : T.non.fz = true := rfl
@[simp] theorem fz_scr (ns : List Int) : (T.scr ns).fz = true := rfl
@[simp] theorem fzL_nil : fzL [] = true := rfl
@[simp] theorem fzL_cons (x : T) (r : List T) : fzL (x :: r) = (x.fz && fzL r) := by rw [fzL]
@[simp] theorem er_lst (o : Bool) (xs : List T) : (T.lst o xs).er = .lst false (erL xs) := by rw [T.er]
@[simp] theorem er_tup (o : Bool) (xs : List T) : (T.tup o xs).er = .tup false (erL xs) := by rw [T.er]
@[simp] theorem er_int (i : Int) : (T.int i).er = .int i := rfl
@[simp] theorem er_bl (i : Bool) : (T.bl i).er = .bl i := rfl
@[simp] theorem er_str (i : Str) : (T.str i).er = .str i := rfl
@[simp] theorem er_non : T.non.er = .non := rfl
@[simp] theorem er_scr (ns : List Int) : (T.scr ns).er = .scr ns := rfl
@[simp] theorem erL_nil : erL [] = [] := rfl
@[simp] theorem erL_cons (x : T) (r : List T) : erL (x :: r) = x.er :: erL r := by rw [erL]
@[simp] theorem fzL_append (xs ys : List T) : fzL (xs ++ ys) = (fzL xs && fzL ys) := by
  induction xs with
  | nil => simp
  | cons x r ih => simp [ih, Bool.and_assoc]
@[simp] theorem fzL_ints (ns : List Int) : fzL (ns.map T.int) = true := by
  induction ns with
  | nil => rfl
  | cons n r ih => simp [ih]
@[simp] theorem sizeLine_1 : (1 : Nat) ≤ sizeLine := by decide
@[simp] theorem cIsi_def (c : String) (a : Ev) (env : Env) : cIsi c a env = cO1 (isiT c) a env := rfl
def lpK (o : Option Out) (k : Env → Option Out) : Option Out := match o with
  | some (.nx e) => k e
  | some (.ct e) => k e
  | some (.bk e) => some (.nx e)
  | some (.rt t e) => some (.rt t e)
  | none => none
@[simp] theorem lpK_nx (e : Env) (k : Env → Option Out) : lpK (some (.nx e)) k = k e := rfl
@[simp] theorem lpK_ct (e : Env) (k : Env → Option Out) : lpK (some (.ct e)) k = k e := rfl
@[simp] theorem lpK_bk (e : Env) (k : Env → Option Out) : lpK (some (.bk e)) k = some (.nx e) := rfl
@[simp] theorem lpK_rt (t : T) (e : Env) (k : Env → Option Out) : lpK (some (.rt t e)) k = some (.rt t e) := rfl
@[simp] theorem lpK_none (k : Env → Option Out) : lpK none k = none := rfl
@[simp] theorem lpK_ite (c : Prop) [Decidable c] (x y : Option Out) (k : Env → Option Out) : lpK (if c then x else y) k = if c then lpK x k else lpK y k := by split <;> rfl
@[simp] theorem loop_nil (g : Tg) (b : S) (env : Env) : loop g b [] env = some (.nx env) := rfl
@[simp] theorem loop_cons (g : Tg) (b : S) (x : T) (r : List T) (env : Env) : loop g b (x :: r) env = (g x env).bind fun e => lpK (b e) (loop g b r) := by
  rw [loop]
  cases g x env with
  | none => rfl
  | some e =>
    simp only [Option.bind_some]
    cases b e with
    | none => rfl
    | some o => cases o <;> rfl
@[simp] theorem cFor_def (it : It) (g : Tg) (b : S) (env : Env) : cFor it g b env = (it env).bind fun p => loop g b p.1 p.2 := by
  unfold cFor
  cases it env <;> rfl
/-- a loop that goes through, by what holds ahead of each turn -/
theorem loop_inv {g : Tg} {b : S} (P : Nat → Env → Prop) : ∀ (items : List T) (k : Nat) (env : Env), P k env →
    (∀ i x e, items[i]? = some x → P (k + i) e → ∃ e2, (g x e).bind b = some (.nx e2) ∧ P (k + i + 1) e2) → ∃ e', loop g b items env = some (.nx e') ∧ P (k + items.length) e'
  | [], k, env, h0, _ => ⟨env, rfl, h0⟩
  | x :: r, k, env, h0, hs => by
    obtain ⟨e2, h1, h2⟩ := hs 0 x env rfl h0
    obtain ⟨e', h3, h4⟩ := loop_inv P r (k + 1) e2 h2 fun i y e hi hp => by
      obtain ⟨e3, h5, h6⟩ := hs (i + 1) y e (by simpa using hi) (by rw [show k + (i + 1) = k + 1 + i by omega]; exact hp)
      exact ⟨e3, h5, by rw [show k + 1 + i + 1 = k + (i + 1) + 1 by omega]; exact h6⟩
    refine ⟨e', ?_, by rw [List.length_cons, show k + (r.length + 1) = k + 1 + r.length by omega]; exact h4⟩
    rw [loop_cons]
    cases q : g x env with
    | none => rw [q] at h1; cases h1
    | some e1 =>
      rw [q] at h1
      simp only [Option.bind_some] at h1 ⊢
      rw [h1, lpK_nx, h3]
theorem loop_rng {g : Tg} {b : S} (P : Nat → Env → Prop) {lo : Int} {n : Nat} {env : Env} (h0 : P 0 env) (hs : ∀ i e, i < n → P i e → ∃ e2, (g (.int (lo + (i : Int))) e).bind b = some (.nx e2) ∧ P (i + 1) e2) : ∃ e', loop g b (rngI lo n) env = some (.nx e') ∧ P n e' := by
  obtain ⟨e', h1, h2⟩ := loop_inv P (rngI lo n) 0 env h0 fun i x e hi hp => by
    obtain ⟨h3, rfl⟩ := rngI_at hi
    rw [Nat.zero_add] at hp ⊢
    exact hs i e h3 hp
  rw [rngI_len, Nat.zero_add] at h2
  exact ⟨e', h1, h2⟩
@[simp] theorem iLs_def (a : Ev) (env : Env) : iLs a env = (a env).bind fun p => match vw p.2 p.1 with
    | some (.lst false xs) => some (xs, p.2)
    | some (.lst true xs) => (match p.1 with
      | .t _ => if fzL xs = true then some (xs, p.2) else none
      | .s _ => none)
    | _ => none := by
  unfold iLs
  cases a env with
  | none => rfl
  | some p => rfl
@[simp] theorem iTp_def (a : Ev) (env : Env) : iTp a env = (a env).bind fun p => match vw p.2 p.1 with
    | some (.tup false xs) => some (xs, p.2)
    | _ => none := by
  unfold iTp
  cases a env with
  | none => rfl
  | some p => rfl
@[simp] theorem iR1_def (a : Ea) (env : Env) : iR1 a env = (a env).bind fun p => match vws p.2 p.1 with
    | some [.int j] => if inR j = true then some (rngI 0 j.toNat, p.2) else none
    | _ => none := by
  unfold iR1
  cases a env with
  | none => rfl
  | some p => rfl
@[simp] theorem iR2_def (a : Ea) (env : Env) : iR2 a env = (a env).bind fun p => match vws p.2 p.1 with
    | some [.int i, .int j] => if (inR i && inR j) = true then some (rngI i (j - i).toNat, p.2) else none
    | _ => none := by
  unfold iR2
  cases a env with
  | none => rfl
  | some p => rfl
theorem inR_of {i : Int} (h1 : -1000000000000000000 ≤ i) (h2 : i ≤ 1000000000000000000) : inR i = true := by
  simp only [inR_eq, Bool.and_eq_true, decide_eq_true_eq]
  omega
theorem okMul_l {i j : Int} (h1 : -1000000000000000000 ≤ i) (h2 : i ≤ 1000000000000000000) : okMul i j = true := by
  simp only [okMul_eq, Bool.or_eq_true, Bool.and_eq_true, decide_eq_true_eq]
  omega
theorem okMul_r {i j : Int} (h1 : -1000000000000000000 ≤ j) (h2 : j ≤ 1000000000000000000) : okMul i j = true := by
  simp only [okMul_eq, Bool.or_eq_true, Bool.and_eq_true, decide_eq_true_eq]
  omega
theorem sz {n : Nat} (h : n ≤ 100000) : n ≤ sizeLine := Nat.le_trans h (by decide)
theorem szl {n : Nat} (h : n ≤ 100000) : n < sizeLine := Nat.lt_of_le_of_lt h (by decide)
@[simp] theorem slT_lst (o : Bool) (xs : List T) (lo hi : Option Int) : slT (.lst o xs) lo hi = if fzL (cutL xs lo hi) = true then some (.lst true (cutL xs lo hi)) else none := rfl
@[simp] theorem slT_tup (xs : List T) (lo hi : Option Int) : slT (.tup false xs) lo hi = some (.tup false (cutL xs lo hi)) := rfl
theorem fzL_map {α : Type} (g : α → T) (h : ∀ x, (g x).fz = true) : ∀ xs : List α, fzL (xs.map g) = true
  | [] => rfl
  | x :: r => by simp [h x, fzL_map g h r]
@[simp] theorem wipeE_nil (env : Env) : wipeE env [] = env := rfl
@[simp] theorem wipeE_cons (env : Env) (v : Nat) (vs : List Nat) : wipeE env (v :: vs) = (wipeE env vs).set v none := rfl
@[simp] theorem bring_nil (e0 e : Env) : bring e0 [] e = some e := rfl
@[simp] theorem bring_cons (e0 e : Env) (v : Nat) (vs : List Nat) : bring e0 (v :: vs) e = (bring e0 vs e).bind fun e1 => match atE e0 v with
    | some t => if t.fz = true then some (e1.set v (some t)) else none
    | none => some e1 := by
  rw [bring]
  cases bring e0 vs e with
  | none => rfl
  | some e1 =>
    simp only [Option.bind_some, atE]
    cases e0[v]? with
    | none => rfl
    | some x => cases x <;> rfl
@[simp] theorem cLc_def (n : Nat) (vs : List Nat) (it : It) (g : Tg) (c : Et) (a : Ev) (env : Env) : cLc n vs it g c a env = (it env).bind fun p => if p.2.length ≤ n then (lcLoop vs g c a p.1 [] (wipeE p.2 vs)).bind fun q => (bring p.2 vs q.2).bind fun e3 => some (.t (.lst true q.1), e3) else none := by
  unfold cLc
  cases it env with
  | none => rfl
  | some p =>
    simp only [Option.bind_some]
    split
    · cases lcLoop vs g c a p.1 [] (wipeE p.2 vs) with
      | none => rfl
      | some q =>
        simp only [Option.bind_some]
        cases bring p.2 vs q.2 <;> rfl
    · rfl
/-- a comprehension's turn -/
def lcTurn (vs : List Nat) (g : Tg) (c : Et) (a : Ev) (x : T) (acc : List T) (env : Env) : Option (List T × Env) :=
  (g x (wipeE env vs)).bind fun e1 => (c e1).bind fun p => if p.1 = true then (a p.2).bind fun q => (sto q.2 q.1).bind fun t => if acc.length < sizeLine then some (acc ++ [t], wipeE q.2 vs) else none else some (acc, wipeE p.2 vs)
@[simp] theorem lcLoop_nil (vs : List Nat) (g : Tg) (c : Et) (a : Ev) (acc : List T) (env : Env) : lcLoop vs g c a [] acc env = some (acc, env) := rfl
theorem lcLoop_cons (vs : List Nat) (g : Tg) (c : Et) (a : Ev) (x : T) (r acc : List T) (env : Env) : lcLoop vs g c a (x :: r) acc env = (lcTurn vs g c a x acc env).bind fun p => lcLoop vs g c a r p.1 p.2 := by
  rw [lcLoop]
  unfold lcTurn
  cases g x (wipeE env vs) with
  | none => rfl
  | some e1 =>
    simp only [Option.bind_some]
    cases c e1 with
    | none => rfl
    | some p =>
      obtain ⟨b, e2⟩ := p
      cases b with
      | false => rfl
      | true =>
        simp only [Option.bind_some, if_true]
        cases a e2 with
        | none => rfl
        | some q =>
          simp only [Option.bind_some]
          cases sto q.2 q.1 with
          | none => rfl
          | some t =>
            simp only [Option.bind_some]
            split <;> rfl
theorem lc_inv {vs : List Nat} {g : Tg} {c : Et} {a : Ev} (P : Nat → List T → Env → Prop) : ∀ (items : List T) (k : Nat) (acc : List T) (env : Env), P k acc env →
    (∀ i x acc e, items[i]? = some x → P (k + i) acc e → ∃ acc' e', lcTurn vs g c a x acc e = some (acc', e') ∧ P (k + i + 1) acc' e') → ∃ acc' e', lcLoop vs g c a items acc env = some (acc', e') ∧ P (k + items.length) acc' e'
  | [], k, acc, env, h0, _ => ⟨acc, env, rfl, h0⟩
  | x :: r, k, acc, env, h0, hs => by
    obtain ⟨a1, e1, h1, h2⟩ := hs 0 x acc env rfl h0
    obtain ⟨a2, e2, h3, h4⟩ := lc_inv P r (k + 1) a1 e1 h2 fun i y ac e hi hp => by
      obtain ⟨a3, e3, h5, h6⟩ := hs (i + 1) y ac e (by simpa using hi) (by rw [show k + (i + 1) = k + 1 + i by omega]; exact hp)
      exact ⟨a3, e3, h5, by rw [show k + 1 + i + 1 = k + (i + 1) + 1 by omega]; exact h6⟩
    refine ⟨a2, e2, ?_, by rw [List.length_cons, show k + (r.length + 1) = k + 1 + r.length by omega]; exact h4⟩
    rw [lcLoop_cons, h1, Option.bind_some, h3]
theorem lc_rng {vs : List Nat} {g : Tg} {c : Et} {a : Ev} (P : Nat → List T → Env → Prop) {lo : Int} {n : Nat} {env : Env} (h0 : P 0 [] env) (hs : ∀ i acc e, i < n → P i acc e → ∃ acc' e', lcTurn vs g c a (.int (lo + (i : Int))) acc e = some (acc', e') ∧ P (i + 1) acc' e') :
    ∃ acc' e', lcLoop vs g c a (rngI lo n) [] env = some (acc', e') ∧ P n acc' e' := by
  obtain ⟨a', e', h1, h2⟩ := lc_inv P (rngI lo n) 0 [] env h0 fun i x acc e hi hp => by
    obtain ⟨h3, rfl⟩ := rngI_at hi
    rw [Nat.zero_add] at hp ⊢
    exact hs i acc e h3 hp
  rw [rngI_len, Nat.zero_add] at h2
  exact ⟨a', e', h1, h2⟩
/-- each item kept by p as h says, the slots as they were -/
theorem lc_pure {α : Type} {vs : List Nat} {g : Tg} {c : Et} {a : Ev} {f : α → T} (p : α → Bool) (h : α → T) {env : Env} (ht : ∀ x acc, acc.length < sizeLine → lcTurn vs g c a (f x) acc env = some (if p x = true then acc ++ [h x] else acc, env)) :
    ∀ (xs : List α) (acc : List T), acc.length + xs.length ≤ sizeLine → lcLoop vs g c a (xs.map f) acc env = some (acc ++ (xs.filter p).map h, env)
  | [], acc, _ => by simp
  | x :: r, acc, hz => by
    rw [List.length_cons] at hz
    rw [List.map_cons, lcLoop_cons, ht x acc (by omega), Option.bind_some, lc_pure p h ht r _ (by split <;> simp <;> omega)]
    cases hp : p x <;> simp [hp]
theorem eqT_self {t : T} (h : t.dle 16 = true) : eqT t t = some (.bl true) := by
  unfold eqT
  rw [h]
  simp only [Bool.and_self, if_true]
  rw [SeqAt.eqv_refl_plain _ (dle_py _ _ h).1]
theorem neT_self {t : T} (h : t.dle 16 = true) : neT t t = some (.bl false) := by
  unfold neT
  rw [h]
  simp only [Bool.and_self, if_true]
  rw [SeqAt.eqv_refl_plain _ (dle_py _ _ h).1]
  rfl
theorem dleL_map {α : Type} (n : Nat) (f : α → T) (h : ∀ x, (f x).dle n = true) : ∀ xs : List α, dleL n (xs.map f) = true
  | [] => rfl
  | x :: r => by rw [List.map_cons, dleL, h x, dleL_map n f h r]; rfl
@[simp] theorem dle_lst (n : Nat) (o : Bool) (xs : List T) : (T.lst o xs).dle (n + 1) = dleL n xs := by rw [T.dle]
@[simp] theorem dle_tup (n : Nat) (o : Bool) (xs : List T) : (T.tup o xs).dle (n + 1) = dleL n xs := by rw [T.dle]
@[simp] theorem dle_int (n : Nat) (i : Int) : (T.int i).dle (n + 1) = true := by rw [T.dle]
@[simp] theorem dle_bl (n : Nat) (i : Bool) : (T.bl i).dle (n + 1) = true := by rw [T.dle]
@[simp] theorem dle_str (n : Nat) (i : Str) : (T.str i).dle (n + 1) = true := by rw [T.dle]
@[simp] theorem dle_non (n : Nat) : T.non.dle (n + 1) = true := by rw [T.dle]
@[simp] theorem dleL_nil (n : Nat) : dleL n [] = true := by rw [dleL]
@[simp] theorem dleL_cons (n : Nat) (x : T) (r : List T) : dleL n (x :: r) = (x.dle n && dleL n r) := by rw [dleL]
theorem kb_NoneType_int : kitB "NoneType" "int" = some false := by decide +kernel
@[simp] theorem isi_NoneType_int : isiT "int" .non = some (.bl false) := by simp only [isiT, tyN, kb_NoneType_int]
theorem kb_bool_int : kitB "bool" "int" = some true := by decide +kernel
@[simp] theorem isi_bool_int (b : Bool) : isiT "int" (.bl b) = some (.bl true) := by simp only [isiT, tyN, kb_bool_int]
theorem kb_int_int : kitB "int" "int" = some true := by decide +kernel
@[simp] theorem isi_int_int (i : Int) : isiT "int" (.int i) = some (.bl true) := by simp only [isiT, tyN, kb_int_int]
theorem kb_str_int : kitB "str" "int" = some false := by decide +kernel
@[simp] theorem isi_str_int (x : Str) : isiT "int" (.str x) = some (.bl false) := by simp only [isiT, tyN, kb_str_int]
theorem kb_list_int : kitB "list" "int" = some false := by decide +kernel
@[simp] theorem isi_list_int (o : Bool) (xs : List T) : isiT "int" (.lst o xs) = some (.bl false) := by simp only [isiT, tyN, kb_list_int]
theorem kb_tuple_int : kitB "tuple" "int" = some false := by decide +kernel
@[simp] theorem isi_tuple_int (o : Bool) (xs : List T) : isiT "int" (.tup o xs) = some (.bl false) := by simp only [isiT, tyN, kb_tuple_int]
theorem kb_NoneType_bool : kitB "NoneType" "bool" = some false := by decide +kernel
@[simp] theorem isi_NoneType_bool : isiT "bool" .non = some (.bl false) := by simp only [isiT, tyN, kb_NoneType_bool]
theorem kb_bool_bool : kitB "bool" "bool" = some true := by decide +kernel
@[simp] theorem isi_bool_bool (b : Bool) : isiT "bool" (.bl b) = some (.bl true) := by simp only [isiT, tyN, kb_bool_bool]
theorem kb_int_bool : kitB "int" "bool" = some false := by decide +kernel
@[simp] theorem isi_int_bool (i : Int) : isiT "bool" (.int i) = some (.bl false) := by simp only [isiT, tyN, kb_int_bool]
theorem kb_str_bool : kitB "str" "bool" = some false := by decide +kernel
@[simp] theorem isi_str_bool (x : Str) : isiT "bool" (.str x) = some (.bl false) := by simp only [isiT, tyN, kb_str_bool]
theorem kb_list_bool : kitB "list" "bool" = some false := by decide +kernel
@[simp] theorem isi_list_bool (o : Bool) (xs : List T) : isiT "bool" (.lst o xs) = some (.bl false) := by simp only [isiT, tyN, kb_list_bool]
theorem kb_tuple_bool : kitB "tuple" "bool" = some false := by decide +kernel
@[simp] theorem isi_tuple_bool (o : Bool) (xs : List T) : isiT "bool" (.tup o xs) = some (.bl false) := by simp only [isiT, tyN, kb_tuple_bool]
theorem kb_NoneType_str : kitB "NoneType" "str" = some false := by decide +kernel
@[simp] theorem isi_NoneType_str : isiT "str" .non = some (.bl false) := by simp only [isiT, tyN, kb_NoneType_str]
theorem kb_bool_str : kitB "bool" "str" = some false := by decide +kernel
@[simp] theorem isi_bool_str (b : Bool) : isiT "str" (.bl b) = some (.bl false) := by simp only [isiT, tyN, kb_bool_str]
theorem kb_int_str : kitB "int" "str" = some false := by decide +kernel
@[simp] theorem isi_int_str (i : Int) : isiT "str" (.int i) = some (.bl false) := by simp only [isiT, tyN, kb_int_str]
theorem kb_str_str : kitB "str" "str" = some true := by decide +kernel
@[simp] theorem isi_str_str (x : Str) : isiT "str" (.str x) = some (.bl true) := by simp only [isiT, tyN, kb_str_str]
theorem kb_list_str : kitB "list" "str" = some false := by decide +kernel
@[simp] theorem isi_list_str (o : Bool) (xs : List T) : isiT "str" (.lst o xs) = some (.bl false) := by simp only [isiT, tyN, kb_list_str]
theorem kb_tuple_str : kitB "tuple" "str" = some false := by decide +kernel
@[simp] theorem isi_tuple_str (o : Bool) (xs : List T) : isiT "str" (.tup o xs) = some (.bl false) := by simp only [isiT, tyN, kb_tuple_str]
theorem kb_NoneType_list : kitB "NoneType" "list" = some false := by decide +kernel
@[simp] theorem isi_NoneType_list : isiT "list" .non = some (.bl false) := by simp only [isiT, tyN, kb_NoneType_list]
theorem kb_bool_list : kitB "bool" "list" = some false := by decide +kernel
@[simp] theorem isi_bool_list (b : Bool) : isiT "list" (.bl b) = some (.bl false) := by simp only [isiT, tyN, kb_bool_list]
theorem kb_int_list : kitB "int" "list" = some false := by decide +kernel
@[simp] theorem isi_int_list (i : Int) : isiT "list" (.int i) = some (.bl false) := by simp only [isiT, tyN, kb_int_list]
theorem kb_str_list : kitB "str" "list" = some false := by decide +kernel
@[simp] theorem isi_str_list (x : Str) : isiT "list" (.str x) = some (.bl false) := by simp only [isiT, tyN, kb_str_list]
theorem kb_list_list : kitB "list" "list" = some true := by decide +kernel
@[simp] theorem isi_list_list (o : Bool) (xs : List T) : isiT "list" (.lst o xs) = some (.bl true) := by simp only [isiT, tyN, kb_list_list]
theorem kb_tuple_list : kitB "tuple" "list" = some false := by decide +kernel
@[simp] theorem isi_tuple_list (o : Bool) (xs : List T) : isiT "list" (.tup o xs) = some (.bl false) := by simp only [isiT, tyN, kb_tuple_list]
theorem kb_NoneType_tuple : kitB "NoneType" "tuple" = some false := by decide +kernel
@[simp] theorem isi_NoneType_tuple : isiT "tuple" .non = some (.bl false) := by simp only [isiT, tyN, kb_NoneType_tuple]
theorem kb_bool_tuple : kitB "bool" "tuple" = some false := by decide +kernel
@[simp] theorem isi_bool_tuple (b : Bool) : isiT "tuple" (.bl b) = some (.bl false) := by simp only [isiT, tyN, kb_bool_tuple]
theorem kb_int_tuple : kitB "int" "tuple" = some false := by decide +kernel
@[simp] theorem isi_int_tuple (i : Int) : isiT "tuple" (.int i) = some (.bl false) := by simp only [isiT, tyN, kb_int_tuple]
theorem kb_str_tuple : kitB "str" "tuple" = some false := by decide +kernel
@[simp] theorem isi_str_tuple (x : Str) : isiT "tuple" (.str x) = some (.bl false) := by simp only [isiT, tyN, kb_str_tuple]
theorem kb_list_tuple : kitB "list" "tuple" = some false := by decide +kernel
@[simp] theorem isi_list_tuple (o : Bool) (xs : List T) : isiT "tuple" (.lst o xs) = some (.bl false) := by simp only [isiT, tyN, kb_list_tuple]
theorem kb_tuple_tuple : kitB "tuple" "tuple" = some true := by decide +kernel
@[simp] theorem isi_tuple_tuple (o : Bool) (xs : List T) : isiT "tuple" (.tup o xs) = some (.bl true) := by simp only [isiT, tyN, kb_tuple_tuple]
theorem kb_NoneType_dict : kitB "NoneType" "dict" = some false := by decide +kernel
@[simp] theorem isi_NoneType_dict : isiT "dict" .non = some (.bl false) := by simp only [isiT, tyN, kb_NoneType_dict]
theorem kb_bool_dict : kitB "bool" "dict" = some false := by decide +kernel
@[simp] theorem isi_bool_dict (b : Bool) : isiT "dict" (.bl b) = some (.bl false) := by simp only [isiT, tyN, kb_bool_dict]
theorem kb_int_dict : kitB "int" "dict" = some false := by decide +kernel
@[simp] theorem isi_int_dict (i : Int) : isiT "dict" (.int i) = some (.bl false) := by simp only [isiT, tyN, kb_int_dict]
theorem kb_str_dict : kitB "str" "dict" = some false := by decide +kernel
@[simp] theorem isi_str_dict (x : Str) : isiT "dict" (.str x) = some (.bl false) := by simp only [isiT, tyN, kb_str_dict]
theorem kb_list_dict : kitB "list" "dict" = some false := by decide +kernel
@[simp] theorem isi_list_dict (o : Bool) (xs : List T) : isiT "dict" (.lst o xs) = some (.bl false) := by simp only [isiT, tyN, kb_list_dict]
theorem kb_tuple_dict : kitB "tuple" "dict" = some false := by decide +kernel
@[simp] theorem isi_tuple_dict (o : Bool) (xs : List T) : isiT "dict" (.tup o xs) = some (.bl false) := by simp only [isiT, tyN, kb_tuple_dict]
end LP
set_option maxRecDepth 100000
/-! LP: more operations. -/
namespace LP
open PySem L2
section
variable {K : PySem.W.Frag} {X : Cx} {a b : Expr} {ta tb : TE} {ea eb : Ev} {pos : Pos}
theorem okRep_ex : ∃ f : Nat → Int → Bool, ∀ n k, f n k = (decide (-1000000000 < k) && decide (k < 1000000000) && decide (n * k.toNat ≤ sizeLine)) := ⟨_, fun _ _ => rfl⟩
/-- few enough (not to be reckoned by the kernel) -/
noncomputable def okRep : Nat → Int → Bool := Classical.choose okRep_ex
theorem okRep_eq (n : Nat) (k : Int) : okRep n k = (decide (-1000000000 < k) && decide (k < 1000000000) && decide (n * k.toNat ≤ sizeLine)) := Classical.choose_spec okRep_ex n k
theorem okRep_of {n : Nat} {k : Int} (h1 : n ≤ 100) (h2 : -1000 ≤ k) (h3 : k ≤ 1000) : okRep n k = true := by
  have : n * k.toNat ≤ 100 * 1000 := Nat.mul_le_mul h1 (by omega)
  have : n * k.toNat ≤ sizeLine := Nat.le_trans this (by decide)
  simp only [okRep_eq, Bool.and_eq_true, decide_eq_true_eq]
  exact ⟨⟨by omega, by omega⟩, this⟩
/-- a list times an int -/
noncomputable def repT : T → T → Option T := fun a b => match a, b with
  | .lst _ xs, .int k => if fzL xs && okRep xs.length k then some (.lst true (List.replicate k.toNat xs).flatten) else none
  | _, _ => none
theorem Rls.rep {F O : Hp} {vs : List V} {ts : List T} (r : Rls K F O vs ts []) : ∀ n : Nat, Rls K F O (List.replicate n vs).flatten (List.replicate n ts).flatten []
  | 0 => .nil
  | n + 1 => by
    rw [List.replicate_succ, List.replicate_succ, List.flatten_cons, List.flatten_cons]
    exact r.append (Rls.rep r n)
theorem sRep : OSnd2 K rRep repT := by
  intro F O x y a b fa fb t d ha hb e Q q
  unfold repT at e
  split at e
  · split at e
    · next h =>
      cases e
      simp only [okRep_eq, Bool.and_eq_true, decide_eq_true_eq] at h
      obtain ⟨h1, ⟨h2, h3⟩, h4⟩ := h
      obtain ⟨p, vs, fs, rfl, h5, r1⟩ := ha.lstv d
      cases hb
      refine ⟨_, _, _, rfl, rfl, h5, ?_, ?_, ?_, ?_⟩
      · exact Int.le_trans (by decide) (Int.le_of_lt h2)
      · exact Int.lt_trans h3 (by decide)
      · rw [r1.len]; exact h4
      · exact q.newL d (Rls.rep (r1.own0 h1) _)
    · cases e
  · cases e
theorem xRep (ha : SE K X a ta ea) (hb : SE K X b tb eb) : SE K X (.BinOp a .Mult b pos) (tOp rRep ta tb) (cO2 repT ea eb) := by
  cases ha.k
  exact xOp op_rep sRep ha hb
end
@[simp] theorem repT_def (o : Bool) (xs : List T) (k : Int) : repT (.lst o xs) (.int k) = if (fzL xs && okRep xs.length k) = true then some (.lst true (List.replicate k.toNat xs).flatten) else none := rfl
@[simp] theorem aFz_def (a : Ea) (env : Env) : aFz a env = (a env).bind fun p => some (ers p.1, p.2) := by
  unfold aFz
  cases a env <;> rfl
@[simp] theorem iZp_def (a : Ea) (env : Env) : iZp a env = (aFz a env).bind fun p => (vws p.2 p.1).bind fun q => match q with
    | [.lst false xs, .lst false ys] => some (zipL xs ys, p.2)
    | _ => none := by
  unfold iZp
  cases aFz a env with
  | none => rfl
  | some p =>
    obtain ⟨os, e⟩ := p
    simp only [Option.bind_some]
    cases vws e os with
    | none => rfl
    | some q =>
      simp only [Option.bind_some]
      split
      · next h => cases h; rfl
      · next h =>
        split
        · next h2 => exact (h _ _ rfl).elim
        · rfl
@[simp] theorem iEn_def (a : Ea) (env : Env) : iEn a env = (aFz a env).bind fun p => (vws p.2 p.1).bind fun q => match q with
    | [.lst false xs] => some (enumL 0 xs, p.2)
    | _ => none := by
  unfold iEn
  cases aFz a env with
  | none => rfl
  | some p =>
    obtain ⟨os, e⟩ := p
    simp only [Option.bind_some]
    cases vws e os with
    | none => rfl
    | some q =>
      simp only [Option.bind_some]
      split
      · next h => cases h; rfl
      · next h =>
        split
        · next h2 => exact (h _ rfl).elim
        · rfl
@[simp] theorem cClr_def (i : Nat) (env : Env) : cClr i env = (ownL env i).bind fun _ => some (.t .non, env.set i (some (.lst true []))) := by
  unfold cClr
  split
  · next xs h => rw [at_ownL h]; rfl
  · next h => rw [at_nownL h]; rfl
@[simp] theorem cLend_def (a : Ev) (env : Env) : cLend a env = if ntE env = true then (a (erE env)).bind fun p => match p.1 with
    | .t r => if r.nl = true then some (.t r, env) else none
    | _ => none else none := by
  unfold cLend
  split
  · cases a (erE env) with
    | none => rfl
    | some p =>
      obtain ⟨o, e⟩ := p
      cases o <;> rfl
  · rfl
@[simp] theorem nt_lst (o : Bool) (xs : List T) : (T.lst o xs).nt = ntL xs := by rw [T.nt]
@[simp] theorem nt_tup (o : Bool) (xs : List T) : (T.tup o xs).nt = (!o && ntL xs) := by rw [T.nt]
@[simp] theorem nt_int (i : Int) : (T.int i).nt = true := rfl
@[simp] theorem nt_bl (i : Bool) : (T.bl i).nt = true := rfl
@[simp] theorem nt_str (i : Str) : (T.str i).nt = true := rfl
@[simp] theorem nt_non : T.non.nt = true := rfl
@[simp] theorem nt_scr (ns : List Int) : (T.scr ns).nt = true := rfl
@[simp] theorem ntL_nil : ntL [] = true := rfl
@[simp] theorem ntL_cons (x : T) (r : List T) : ntL (x :: r) = (x.nt && ntL r) := by rw [ntL]
theorem ntL_map {α : Type} (g : α → T) (h : ∀ x, (g x).nt = true) : ∀ xs : List α, ntL (xs.map g) = true
  | [] => rfl
  | x :: r => by simp [h x, ntL_map g h r]
@[simp] theorem ntL_ints (ns : List Int) : ntL (ns.map T.int) = true := ntL_map _ (fun _ => rfl) ns
@[simp] theorem erL_ints (ns : List Int) : erL (ns.map T.int) = ns.map T.int := erL_of_fz (fzL_ints ns)
@[simp] theorem nl_int (i : Int) : (T.int i).nl = true := rfl
@[simp] theorem nl_bl (i : Bool) : (T.bl i).nl = true := rfl
@[simp] theorem nl_str (i : Str) : (T.str i).nl = true := rfl
@[simp] theorem nl_non : T.non.nl = true := rfl
@[simp] theorem ntE_nil : ntE [] = true := rfl
@[simp] theorem ntE_none (r : Env) : ntE (none :: r) = ntE r := rfl
@[simp] theorem ntE_some (t : T) (r : Env) : ntE (some t :: r) = (t.nt && ntE r) := rfl
@[simp] theorem erE_nil : erE [] = [] := rfl
@[simp] theorem erE_none (r : Env) : erE (none :: r) = none :: erE r := rfl
@[simp] theorem erE_some (t : T) (r : Env) : erE (some t :: r) = some t.er :: erE r := rfl
@[simp] theorem addT_lst (o p : Bool) (xs ys : List T) : addT (.lst o xs) (.lst p ys) = if (fzL xs && fzL ys && decide (xs.length + ys.length ≤ sizeLine)) = true then some (.lst true (xs ++ ys)) else none := rfl
@[simp] theorem erL_append (xs ys : List T) : erL (xs ++ ys) = erL xs ++ erL ys := by
  induction xs with
  | nil => simp
  | cons x r ih => simp [ih]
end LP
set_option maxRecDepth 100000
/-! LP: dicts with plain keys; chains; sorted. -/
namespace LP
open PySem L2
section
variable {K : PySem.W.Frag} {X : Cx} {F O F' O' F1 O1 F2 O2 : Hp} {σ : L2.St} {env env' : Env} {f f1 f2 fp fp1 fp2 : List Addr} {pn : List Nat}
/-- {} -/
def cDct : Ev := fun env => some (.t (.dic true [] []), env)
/-! putting -/
def keyT : T → Option Key
  | .int i => some (.inl i)
  | .str s => some (.inr s)
  | _ => none
theorem Rl.key {v : V} {t : T} {fp : List Addr} {k : Key} (h : Rl K F O v t fp) (e : keyT t = some k) : v = kV k ∧ fp = [] := by
  cases h <;> first | (cases e; exact ⟨rfl, rfl⟩) | cases e
/-- a op1 b op2 c, of ints -/
def cChn (g g' : T → T → Option T) (a b c : Ev) : Ev := fun env => match a env with
  | some (o1, e1) => match b e1 with
    | some (o2, e2) => match vw e2 o1, vw e2 o2 with
      | some (.int i), some (.int j) => match g (.int i) (.int j) with
        | some (.bl true) => match c e2 with
          | some (o3, e3) => match vw e3 o3 with
            | some z => match g' (.int j) z with
              | some t => some (.t t, e3)
              | none => none
            | none => none
          | none => none
        | some (.bl false) => some (.t (.bl false), e2)
        | _ => none
      | _, _ => none
    | none => none
  | none => none
/-! sorted of a dict -/
def insI (n : Int) : List Int → List Int
  | [] => [n]
  | m :: r => if n ≤ m then n :: m :: r else m :: insI n r
def sortI : List Int → List Int
  | [] => []
  | n :: r => insI n (sortI r)
def intKs : List Key → Option (List Int)
  | [] => some []
  | .inl i :: r => match intKs r with
    | some ns => some (i :: ns)
    | none => none
  | .inr _ :: _ => none
@[simp] theorem intKs_map : ∀ ns : List Int, intKs (ns.map Sum.inl) = some ns
  | [] => rfl
  | n :: r => by rw [List.map_cons, intKs, intKs_map r]
end
section
variable {K : PySem.W.Frag} {X : Cx} {a b c e : Expr} {es : List Expr} {ta tb tc te : TE} {ea eb ec ev : Ev} {tas : TA} {eas : Ea} {pos p2 : Pos} {pn : List Nat}
/-- a call that is handed new things, to be changed -/
def cCallT (g : Fn) (m : List Bool) (a : Ea) : Ev := fun env => match a env with
  | some (os, e) => match stos e os with
    | some ts => if ts.length = m.length then match g ts with
      | some (r, outs) => some (.t r, e)
      | none => none
      else none
    | none => none
  | none => none
@[simp] theorem cCallT_def (g : Fn) (m : List Bool) (a : Ea) (env : Env) : cCallT g m a env = (a env).bind fun p => (stos p.2 p.1).bind fun ts => if ts.length = m.length then (g ts).bind fun r => some (.t r.1, p.2) else none := by
  unfold cCallT
  cases a env with
  | none => rfl
  | some p =>
    simp only [Option.bind_some]
    cases stos p.2 p.1 with
    | none => rfl
    | some q =>
      simp only [Option.bind_some]
      split
      · cases g q <;> rfl
      · rfl
@[simp] theorem cDct_def (env : Env) : cDct env = some (.t (.dic true [] []), env) := rfl
end
def chnK (g g' : T → T → Option T) (x y : T) (env : Env) (c : Option (Opd × Env)) : Option (Opd × Env) := match x, y with
  | .int i, .int j => match g (.int i) (.int j) with
    | some (.bl true) => c.bind fun p => (vw p.2 p.1).bind fun z => (g' (.int j) z).bind fun t => some (.t t, p.2)
    | some (.bl false) => some (.t (.bl false), env)
    | _ => none
  | _, _ => none
@[simp] theorem cChn_def (g g' : T → T → Option T) (a b c : Ev) (env : Env) : cChn g g' a b c env = (a env).bind fun p => (b p.2).bind fun q => (vw q.2 p.1).bind fun x => (vw q.2 q.1).bind fun y => chnK g g' x y q.2 (c q.2) := by
  unfold cChn
  cases a env with
  | none => rfl
  | some p =>
    obtain ⟨o1, e1⟩ := p
    simp only [Option.bind_some]
    cases b e1 with
    | none => rfl
    | some q =>
      obtain ⟨o2, e2⟩ := q
      simp only [Option.bind_some]
      cases vw e2 o1 with
      | none => rfl
      | some x =>
        cases vw e2 o2 with
        | none => cases x <;> rfl
        | some y =>
          simp only [Option.bind_some, chnK]
          cases x <;> cases y <;> try rfl
          simp only []
          split
          · cases c e2 with
            | none => rfl
            | some r =>
              obtain ⟨o3, e3⟩ := r
              simp only [Option.bind_some]
              cases vw e3 o3 with
              | none => rfl
              | some z => simp only [Option.bind_some]; split <;> simp_all
          · rfl
          · rfl
def ownD (env : Env) (i : Nat) : Option (List Key × List T) := match atE env i with
  | some (.dic true ks xs) => some (ks, xs)
  | _ => none
@[simp] theorem ownD_zero (ks : List Key) (xs : List T) (r : Env) : ownD (some (.dic true ks xs) :: r) 0 = some (ks, xs) := rfl
@[simp] theorem ownD_succ (x : Option T) (r : Env) (i : Nat) : ownD (x :: r) (i + 1) = ownD r i := rfl
@[simp] theorem keyT_int (i : Int) : keyT (.int i) = some (.inl i) := rfl
end LP
set_option maxRecDepth 100000
/-! LP: dicts with tuples of plain keys. -/
namespace LP
open PySem L2
section
variable {K : PySem.W.Frag} {X : Cx} {F O F' O' F1 O1 F2 O2 : Hp} {σ : L2.St} {env env' : Env} {f f1 f2 fp fp1 fp2 : List Addr} {pn : List Nat}
def keysT : List T → Option (List Key)
  | [] => some []
  | t :: r => match keyT t, keysT r with
    | some k, some ks => some (k :: ks)
    | _, _ => none
theorem Rls.keys : ∀ {vs : List V} {ts : List T} {fp : List Addr} {ks : List Key}, Rls K F O vs ts fp → keysT ts = some ks → vs = ks.map kV ∧ fp = []
  | _, _, _, _, .nil, e => by cases e; exact ⟨rfl, rfl⟩
  | _, _, _, _, .cons h r, e => by
    simp only [keysT] at e
    split at e
    · next k ks h1 h2 =>
      cases e
      obtain ⟨rfl, rfl⟩ := h.key h1
      obtain ⟨rfl, rfl⟩ := Rls.keys r h2
      exact ⟨rfl, rfl⟩
    · cases e
/-- a new tuple of keys -/
theorem At.tup {vs : List V} {p : Addr} (a : At K σ F O env fp f) (hp : jn F O p = none) : At K σ (upd F p (.tup vs)) O env [] f := ⟨a.d.updF (jn_none hp).2, a.e.mono (same_new (jn_none hp).1) fun _ _ _ e => e, a.nd.right⟩
theorem stp_new {p : Addr} {o : HO} {fs : List Addr} (hp : jn F O p = none) : Stp F O fs (upd F p o) O fs := by
  have z := (Stp.newF (o := o) hp).frame (hs := fs)
  simpa only [List.append_nil] using z
end
section
variable {K : PySem.W.Frag} {X : Cx} {a b c e d : Expr} {es : List Expr} {ta tb tc te td : TE} {ea eb ec ev ed : Ev} {tas : TA} {eas : Ea} {pos p2 p3 : Pos} {pn : List Nat}
end
end LP
set_option maxRecDepth 100000
/-! LP: written dicts, displays of dicts, d[k], x in xs. -/
namespace LP
open PySem L2
section
variable {K : PySem.W.Frag} {X : Cx} {F O F' O' F1 O1 F2 O2 : Hp} {σ : L2.St} {env env' : Env} {f f1 f2 fp fp1 fp2 : List Addr} {pn : List Nat}
/-- a display of a dict: texts and ints, all written -/
inductive PP (X : Cx) (pos : Pos) : List (Option Expr) → List Expr → List (TE × TE) → List (Str × Int) → Prop
  | nil : PP X pos [] [] [] []
  | cons {z : Str} {i : Int} {ks : List (Option Expr)} {vs : List Expr} {trs : List (TE × TE)} {kvs : List (Str × Int)} {p1 p2 : Pos} {j1 j2 : Nat} (r : PP X pos ks vs trs kvs) : PP X pos (some (.Constant (.str z) j1 p1) :: ks) (.Constant (.int i) j2 p2 :: vs) ((tC (.str z), tC (.int i)) :: trs) ((z, i) :: kvs)
theorem PP.len {pos : Pos} {ks : List (Option Expr)} {vs : List Expr} {trs : List (TE × TE)} {kvs : List (Str × Int)} (h : PP X pos ks vs trs kvs) : ks.length = kvs.length ∧ vs.length = kvs.length ∧ ks.all (·.isSome) = true := by
  induction h with
  | nil => exact ⟨rfl, rfl, rfl⟩
  | cons r ih => exact ⟨congrArg (· + 1) ih.1, congrArg (· + 1) ih.2.1, ih.2.2⟩
end
section
variable {K : PySem.W.Frag} {X : Cx} {a b c e d : Expr} {es : List Expr} {ta tb tc te td : TE} {ea eb ec ev ed : Ev} {tas : TA} {eas : Ea} {pos p2 p3 : Pos} {pn : List Nat}
end
end LP
set_option maxRecDepth 100000
/-! LP: reversed(range(n)), xs.insert(0, y), xs.extend(ys). -/
namespace LP
open PySem L2
section
variable {K : PySem.W.Frag} {X : Cx} {F O F' O' F1 O1 F2 O2 : Hp} {σ : L2.St} {env env' : Env} {f f1 f2 fp fp1 fp2 : List Addr} {pn : List Nat}
/-- x.insert(0, e) -/
def cIns0 (i : Nat) (a : Ev) : Ev := fun env => match env[i]? with
  | some (some (.lst true _)) => match a env with
    | some (o, e) => match e[i]? with
      | some (some (.lst true xs)) => match sto e o with
        | some t => if xs.length < sizeLine then some (.t .non, e.set i (some (.lst true (t :: xs)))) else none
        | none => none
      | _ => none
    | none => none
  | _ => none
/-- x.extend(e) -/
def cExt (i : Nat) (a : Ev) : Ev := fun env => match env[i]? with
  | some (some (.lst true _)) => match a env with
    | some (o, e) => match e[i]? with
      | some (some (.lst true xs)) => match vw e o with
        | some (.lst _ zs) => if fzL zs = true ∧ xs.length + zs.length ≤ sizeLine then some (.t .non, e.set i (some (.lst true (xs ++ zs)))) else none
        | _ => none
      | _ => none
    | none => none
  | _ => none
/-- reversed(range(n)) -/
def rngD (n : Nat) : List T := (List.range n).map fun i : Nat => T.int ((n : Int) - 1 - (i : Int))
@[simp] theorem rngD_len (n : Nat) : (rngD n).length = n := by unfold rngD; rw [List.length_map, List.length_range]
noncomputable def iRv (a : Ev) : It := fun env => match a env with
  | some (o, e) => match vw e o with
    | some (.int j) => if inR j then some (rngD j.toNat, e) else none
    | _ => none
  | none => none
end
@[simp] theorem cIns0_def (i : Nat) (a : Ev) (env : Env) : cIns0 i a env = (ownL env i).bind fun _ => (a env).bind fun p => (ownL p.2 i).bind fun xs => (sto p.2 p.1).bind fun t => if xs.length < sizeLine then some (.t .non, p.2.set i (some (.lst true (t :: xs)))) else none := by
  unfold cIns0
  split
  · next xs h =>
    rw [at_ownL h]
    cases a env with
    | none => rfl
    | some p =>
      simp only [Option.bind_some]
      split
      · next ys h2 =>
        rw [at_ownL h2]
        simp only [Option.bind_some]
        cases sto p.2 p.1 <;> rfl
      · next h2 => rw [at_nownL h2]; rfl
  · next h => rw [at_nownL h]; rfl
@[simp] theorem cExt_def (i : Nat) (a : Ev) (env : Env) : cExt i a env = (ownL env i).bind fun _ => (a env).bind fun p => (ownL p.2 i).bind fun xs => match vw p.2 p.1 with
    | some (.lst _ zs) => if fzL zs = true ∧ xs.length + zs.length ≤ sizeLine then some (.t .non, p.2.set i (some (.lst true (xs ++ zs)))) else none
    | _ => none := by
  unfold cExt
  split
  · next xs h =>
    rw [at_ownL h]
    cases a env with
    | none => rfl
    | some p =>
      simp only [Option.bind_some]
      split
      · next ys h2 =>
        rw [at_ownL h2]
        rfl
      · next h2 => rw [at_nownL h2]; rfl
  · next h => rw [at_nownL h]; rfl
@[simp] theorem iRv_def (a : Ev) (env : Env) : iRv a env = (a env).bind fun p => match vw p.2 p.1 with
    | some (.int j) => if inR j = true then some (rngD j.toNat, p.2) else none
    | _ => none := by
  unfold iRv
  cases a env <;> rfl
end LP
set_option maxRecDepth 100000
/-! LP: x[j].append(y), x[j].clear(); lending where a plain thing comes back. -/
namespace LP
open PySem L2
section
variable {K : PySem.W.Frag} {X : Cx} {F O F' O' F1 O1 F2 O2 : Hp} {σ : L2.St} {env env' : Env} {f f1 f2 fp fp1 fp2 : List Addr} {pn : List Nat}
def kids : T → Option (List T)
  | .lst true ts => some ts
  | .tup true ts => some ts
  | _ => none
def rekid : T → List T → T
  | .lst o _, ts => .lst o ts
  | .tup o _, ts => .tup o ts
  | t, _ => t
def kidL (env : Env) (i j : Nat) : Option (T × List T × List T) := match env[i]? with
  | some (some t) => match kids t with
    | some ts => match ts[j]? with
      | some (.lst true xs) => some (t, ts, xs)
      | _ => none
    | none => none
  | _ => none
theorem ty_l {p : Addr} {xs : List V} {H : Hp} (h : H p = some (.lst xs)) : tyV K "list" (.ref p) H := .inl ⟨rfl, xs, .inl (.inl h)⟩
/-- x[j].append((c, d)), c and d plain -/
def cAppP (i j : Nat) (y : T) : Ev := fun env => match kidL env i j with
  | some (t, ts, xs) => if xs.length < sizeLine then some (.t .non, env.set i (some (rekid t (ts.set j (.lst true (xs ++ [y])))))) else none
  | none => none
/-- x[j].clear() -/
def cClrN (i j : Nat) : Ev := fun env => match kidL env i j with
  | some (t, ts, _) => some (.t .non, env.set i (some (rekid t (ts.set j (.lst true [])))))
  | none => none
def scT : T → Bool
  | .non => true
  | .bl _ => true
  | .int _ => true
  | .str _ => true
  | _ => false
/-- all is lent, owned tuples too; a plain thing comes back -/
def cLendS (a : Ev) : Ev := fun env => match a (erE env) with
  | some (.t r, _) => if scT r then some (.t r, env) else none
  | _ => none
end
section
variable {K : PySem.W.Frag} {F O : Hp}
def flT : T → Bool
  | .non => true
  | .bl _ => true
  | .int _ => true
  | .str _ => true
  | _ => false
def vF : T → V
  | .bl b => .bl b
  | .int i => .int i
  | .str s => .str s
  | _ => .non
theorem Rl.flat {v : V} {t : T} {f : List Addr} (h : Rl K F O v t f) (z : flT t = true) : v = vF t ∧ flatV v = true := by
  cases h <;> first | exact ⟨rfl, rfl⟩ | cases z
theorem Rls.flat : ∀ {vs : List V} {ts : List T} {f : List Addr}, Rls K F O vs ts f → ts.all flT = true → vs = ts.map vF ∧ vs.all flatV = true
  | _, _, _, .nil, _ => ⟨rfl, rfl⟩
  | _, _, _, .cons h r, z => by
    rw [List.all_cons, Bool.and_eq_true] at z
    obtain ⟨h1, h2⟩ := h.flat z.1
    obtain ⟨h3, h4⟩ := Rls.flat r z.2
    exact ⟨by rw [List.map_cons, ← h1, ← h3], by rw [List.all_cons, h2, h4]; rfl⟩
def anyF (a : T) (xs : List T) : Bool := xs.any fun y => eqV (vF y) (vF a)
/-- x in xs, all plain -/
def inFT (neg : Bool) : T → T → Option T := fun a b => match b with
  | .lst _ xs => if (flT a && xs.all flT) = true then some (.bl (if neg then !anyF a xs else anyF a xs)) else none
  | .tup _ xs => if (flT a && xs.all flT) = true then some (.bl (if neg then !anyF a xs else anyF a xs)) else none
  | _ => none
theorem inV_F (a : T) : ∀ xs : List T, inV (vF a) (xs.map vF) = anyF a xs
  | [] => rfl
  | x :: r => by
    have ih := inV_F a r
    unfold inV anyF at ih ⊢
    rw [List.map_cons, List.any_cons, List.any_cons, ih]
theorem sInF {neg : Bool} : OSnd2 K (rIn K neg) (inFT neg) := by
  intro F O x y a b fa fb t d ha hb e Q q
  unfold inFT at e
  split at e
  · split at e
    · next z =>
      cases e
      rw [Bool.and_eq_true] at z
      obtain ⟨p, vs, fs, rfl, h1, r1⟩ := hb.lstv d
      obtain ⟨h2, h3⟩ := ha.flat z.1
      obtain ⟨h4, h5⟩ := r1.flat z.2
      refine ⟨p, vs, rfl, .inl (.inl (.inl h1)), h3, h5, ?_⟩
      rw [h2, h4, inV_F]
      exact q.sc d (.bl _)
    · cases e
  · split at e
    · next z =>
      cases e
      rw [Bool.and_eq_true] at z
      obtain ⟨p, vs, fs, rfl, h1, r1⟩ := hb.tupv d
      obtain ⟨h2, h3⟩ := ha.flat z.1
      obtain ⟨h4, h5⟩ := r1.flat z.2
      refine ⟨p, vs, rfl, .inr h1, h3, h5, ?_⟩
      rw [h2, h4, inV_F]
      exact q.sc d (.bl _)
    · cases e
  · cases e
end
variable {K : PySem.W.Frag} {X : Cx} {a b c e : Expr} {es : List Expr} {ta tb tc te : TE} {tas : TA} {ea eb ec ev : Ev} {eas : Ea} {pos p2 p3 p5 p6 : Pos}
theorem yNotInF (ha : SE K X a ta ea) (hb : SE K X b tb eb) (hm : behindInMarks .NotIn b = false) : ST K X (.Compare a [.NotIn] [b] pos) (tTest (tOp (rIn K true) ta tb)) (cTest (cO2 (inFT true) ea eb)) := by
  cases ha.k
  exact yCmp op_notIn_seq sInF ha hb hm
@[simp] theorem inFT_lst (neg o : Bool) (a : T) (xs : List T) : inFT neg a (.lst o xs) = if (flT a && xs.all flT) = true then some (.bl (if neg then !anyF a xs else anyF a xs)) else none := rfl
@[simp] theorem cLendS_def (a : Ev) (env : Env) : cLendS a env = (a (erE env)).bind fun p => match p.1 with
    | .t r => if scT r = true then some (.t r, env) else none
    | _ => none := by
  unfold cLendS
  cases a (erE env) with
  | none => rfl
  | some p =>
    obtain ⟨o, e⟩ := p
    cases o <;> rfl
@[simp] theorem scT_bl (b : Bool) : scT (.bl b) = true := rfl
@[simp] theorem scT_int (b : Int) : scT (.int b) = true := rfl
@[simp] theorem scT_str (b : Str) : scT (.str b) = true := rfl
@[simp] theorem scT_non : scT .non = true := rfl
@[simp] theorem cAppP_def (i j : Nat) (y : T) (env : Env) : cAppP i j y env = (kidL env i j).bind fun p => if p.2.2.length < sizeLine then some (.t .non, env.set i (some (rekid p.1 (p.2.1.set j (.lst true (p.2.2 ++ [y])))))) else none := by
  unfold cAppP
  cases kidL env i j <;> rfl
@[simp] theorem cClrN_def (i j : Nat) (env : Env) : cClrN i j env = (kidL env i j).bind fun p => some (.t .non, env.set i (some (rekid p.1 (p.2.1.set j (.lst true []))))) := by
  unfold cClrN
  cases kidL env i j <;> rfl
end LP
set_option maxRecDepth 100000
/-! LP: list(reversed(xs)), range(n, -1, -1), sorted(ns, reverse=True), defs with defaults. -/
namespace RT
open PySem PySem.Spec PyProof.Rows L2
section
variable {prog : Program} {w : World} {A : Around} {E : Value → Shared → Prop} {s : Shared}
end
section
variable {X : Cx}
end
end RT
namespace LP
open PySem L2
section
variable {K : PySem.W.Frag} {X : Cx} {F O F' O' F1 O1 F2 O2 : Hp} {σ : L2.St} {env env' : Env} {f f1 f2 fp fp1 fp2 : List Addr} {pn : List Nat}
/-- list(reversed(xs)) -/
def cLrv (a : Ev) : Ev := fun env => match a env with
  | some (o, e) => match vw e o with
    | some (.lst _ xs) => if fzL xs = true then some (.t (.lst true xs.reverse), e) else none
    | _ => none
  | none => none
/-- range(a, -1, -1) -/
noncomputable def iRd (a : Ea) : It := fun env => match a env with
  | some (os, e) => match vws e os with
    | some [.int i, .int j, .int k] => if inR i = true ∧ j = -1 ∧ k = -1 then some (rngD (i + 1).toNat, e) else none
    | _ => none
  | none => none
/-- sorted(ns, reverse=True) -/
def revI (ns : List Int) : List Int := (sortI ns).reverse
def cSrv (a : Ev) : Ev := fun env => match a env with
  | some (o, e) => match vw e o with
    | some (.lst _ xs) => match intsL xs with
      | some ns => some (.t (.lst true ((revI ns).map T.int)), e)
      | none => none
    | _ => none
  | none => none
end
section
variable {K : PySem.W.Frag} {X : Cx} {a b c e : Expr} {es : List Expr} {ta tb tc te : TE} {tas : TA} {ea eb ec ev : Ev} {eas : Ea} {pos p2 p3 p4 p5 : Pos} {tg : Expr}
end
@[simp] theorem cLrv_def (a : Ev) (env : Env) : cLrv a env = (a env).bind fun p => match vw p.2 p.1 with
    | some (.lst _ xs) => if fzL xs = true then some (.t (.lst true xs.reverse), p.2) else none
    | _ => none := by
  unfold cLrv
  cases a env <;> rfl
@[simp] theorem cSrv_def (a : Ev) (env : Env) : cSrv a env = (a env).bind fun p => match vw p.2 p.1 with
    | some (.lst _ xs) => (match intsL xs with
      | some ns => some (.t (.lst true ((revI ns).map T.int)), p.2)
      | none => none)
    | _ => none := by
  unfold cSrv
  cases a env <;> rfl
@[simp] theorem iRd_def (a : Ea) (env : Env) : iRd a env = (a env).bind fun p => match vws p.2 p.1 with
    | some [.int i, .int j, .int k] => if inR i = true ∧ j = -1 ∧ k = -1 then some (rngD (i + 1).toNat, p.2) else none
    | _ => none := by
  unfold iRd
  cases a env <;> rfl
end LP
set_option maxRecDepth 100000
/-! LP: defs with defaults. -/
namespace LP
open PySem L2
section
variable {P : Program} {w : World} {K : PySem.W.Frag} {mg : Str → Option Value} {base : Heap}
end
end LP
set_option maxRecDepth 100000
/-! LP: >>, &, a slice of the script. -/
namespace LP
open PySem L2
section
variable {K : PySem.W.Frag} {X : Cx} {F O F' O' F1 O1 F2 O2 : Hp} {σ : L2.St} {env env' : Env} {f f1 f2 fp fp1 fp2 : List Addr} {pn : List Nat}
def shrT := opI fun i j => if 0 ≤ j then some (i / 2 ^ j.toNat) else none
def bandT := opI fun i j => some (Builtin.bitAnd i j)
def slST (t : T) (lo hi : Option Int) : Option T := match t with
  | .scr ns => some (.lst true ((cutL ns lo hi).map T.int))
  | _ => none
def cSlS (a : Ev) (lo hi : Po) : Ev := fun env => match a env with
  | some (o, e) => match lo e with
    | some (l, e1) => match hi e1 with
      | some (h, e2) => match vw e2 o with
        | some x => match slST x l h with
          | some t => some (.t t, e2)
          | none => none
        | none => none
      | none => none
    | none => none
  | none => none
end
section
variable {K : PySem.W.Frag} {X : Cx} {a b c e : Expr} {ta tb tc te : TE} {ea eb ec ev : Ev} {pos p2 p3 : Pos}
end
@[simp] theorem shrT_int (i j : Int) : shrT (.int i) (.int j) = if 0 ≤ j then some (.int (i / 2 ^ j.toNat)) else none := by
  by_cases h : 0 ≤ j <;> simp [shrT, opI, h]
@[simp] theorem bandT_int (i j : Int) : bandT (.int i) (.int j) = some (.int (Builtin.bitAnd i j)) := rfl
@[simp] theorem cSlS_def (a : Ev) (lo hi : Po) (env : Env) : cSlS a lo hi env = (a env).bind fun p => (lo p.2).bind fun q => (hi q.2).bind fun r => (vw r.2 p.1).bind fun x => (slST x q.1 r.1).bind fun t => some (.t t, r.2) := by
  unfold cSlS
  cases a env with
  | none => rfl
  | some p =>
    simp only [Option.bind_some]
    cases lo p.2 with
    | none => rfl
    | some q =>
      simp only [Option.bind_some]
      cases hi q.2 with
      | none => rfl
      | some r =>
        simp only [Option.bind_some]
        cases vw r.2 p.1 with
        | none => rfl
        | some x => simp only [Option.bind_some]; cases slST x q.1 r.1 <;> rfl
@[simp] theorem slST_scr (ns : List Int) (lo hi : Option Int) : slST (.scr ns) lo hi = some (.lst true ((cutL ns lo hi).map T.int)) := rfl
end LP
set_option maxRecDepth 100000
/-! LP: sorted of pairs of ints. -/
namespace LP
open PySem L2
def lexLe (p q : Int × Int) : Prop := p.1 < q.1 ∨ (p.1 = q.1 ∧ p.2 ≤ q.2)
instance (p q : Int × Int) : Decidable (lexLe p q) := by unfold lexLe; infer_instance
section
variable {X : Cx}
end
section
variable {K : PySem.W.Frag} {F O : Hp}
end
section
variable {K : PySem.W.Frag} {X : Cx} {e : Expr} {tas : TA} {eas : Ea} {pos p2 : Pos}
end
end LP
set_option maxRecDepth 100000
/-! LP: zip of three lists. -/
namespace L2
open PySem PySem.Spec PyProof.Rows
section
variable {prog : Program} {w : World} {A : Around}
end
end L2

namespace LP
open PySem L2
section
variable {K : PySem.W.Frag} {F O F' O' F1 O1 F2 O2 : Hp} {σ : L2.St} {env env' : Env}
def zipL3 : List T → List T → List T → List T
  | x :: r, y :: s, u :: t => .tup false [x, y, u] :: zipL3 r s t
  | _, _, _ => []
def iZp3 (a : Ea) : It := fun env => match aFz a env with
  | some (os, e) => match vws e os with
    | some [.lst false xs, .lst false ys, .lst false us] => some (zipL3 xs ys us, e)
    | _ => none
  | none => none
theorem Rls.three {vs : List V} {t u x : T} {g : List Addr} (h : Rls K F O vs [t, u, x] g) : ∃ v w z g' g2 g3, vs = [v, w, z] ∧ Rl K F O v t g' ∧ Rl K F O w u g2 ∧ Rl K F O z x g3 := by
  cases h with
  | cons h r => obtain ⟨w, z, g2, g3, rfl, h2, h3⟩ := r.two; exact ⟨_, _, _, _, _, _, rfl, h, h2, h3⟩
end
section
variable {K : PySem.W.Frag} {X : Cx} {a b c : Expr} {tas : TA} {eas : Ea} {pos p2 p3 : Pos} {tgs : List Expr}
@[simp] theorem iZp3_def (a : Ea) (env : Env) : iZp3 a env = (aFz a env).bind fun p => (vws p.2 p.1).bind fun q => match q with
    | [.lst false xs, .lst false ys, .lst false us] => some (zipL3 xs ys us, p.2)
    | _ => none := by
  unfold iZp3
  cases aFz a env with
  | none => rfl
  | some p =>
    obtain ⟨os, e⟩ := p
    simp only [Option.bind_some]
    cases vws e os with
    | none => rfl
    | some q =>
      simp only [Option.bind_some]
      split
      · next h => cases h; rfl
      · next h =>
        split
        · next h2 => exact (h _ _ _ rfl).elim
        · rfl
end
end LP

/-! is True, is not False: two of True, False -/
namespace L2
open PySem PySem.Spec PyProof.Rows
end L2
namespace LP
open PySem L2
def isBT (neg : Bool) : T → T → Option T := fun a b => match a, b with
  | .bl x, .bl y => some (.bl (if neg then !decide (x = y) else decide (x = y)))
  | _, _ => none
@[simp] theorem isBT_bl (n x y : Bool) : isBT n (.bl x) (.bl y) = some (.bl (if n then !decide (x = y) else decide (x = y))) := rfl
section
variable {K : PySem.W.Frag} {X : Cx} {a b : Expr} {ta tb : TE} {ea eb : Ev} {pos : Pos}
end
end LP
set_option maxRecDepth 100000
/-! LP: defs that raise, try. -/
namespace LP
open PySem L2
inductive OutX where
  | ok (o : Out) | ex (c : Str) (e : Env)
abbrev SX := Env → Option OutX
inductive ResX where
  | ok (r : T) (outs : List T) | ex (c : Str) (outs : List T)
abbrev GX := List T → Option ResX
/-- the class of that name -/
def cvl (mg : Str → Option Value) (c : Str) : Value := (mg c).getD .none
def spX (K : PySem.W.Frag) (mg : Str → Option Value) (n : Nat) (g : GX) : Sp := fun vs H Q E => ∃ F O ts f res, vs.length = n ∧ H = jn F O ∧ Dis F O ∧ Rls K F O vs ts f ∧ Nd f ∧ g ts = some res ∧
  match res with
  | .ok r outs => ∀ v F' O' fp f', Dis F' O' → Stp F O f F' O' (fp ++ f') → Rl K F' O' v r fp → Rls K F' O' vs outs f' → Nd (fp ++ f') → Q v (jn F' O')
  | .ex c outs => ∀ F' O' f', Dis F' O' → Stp F O f F' O' f' → Rls K F' O' vs outs f' → Nd f' → E (cvl mg c) none (jn F' O')
section
variable {K : PySem.W.Frag} {mg : Str → Option Value} {F O F' O' F1 O1 F2 O2 : Hp} {σ : L2.St} {env env' : Env} {f f1 f2 fp fp1 fp2 : List Addr} {pn : List Nat} {W : WX}
def EndOkX (K : PySem.W.Frag) (mg : Str → Option Value) (pn : List Nat) (σ : L2.St) (F O : Hp) (f : List Addr) (D : Ends) (W : WX) : OutX → Prop
  | .ok o => EndOk K pn σ F O f D o
  | .ex c e => ∀ σ' F' O' f', At K σ' F' O' e [] f' → Stp F O f F' O' f' → Same2 pn σ σ' → W (cvl mg c) none σ' (jn F' O')
theorem EndOkX.after {σ1 : L2.St} {o : OutX} {D : Ends} (h : EndOkX K mg pn σ F O f D W o) (s : Stp F O f F1 O1 f1) (p : Same2 pn σ σ1) : EndOkX K mg pn σ1 F1 O1 f1 D W o := by
  cases o with
  | ok o => exact EndOk.after h s p
  | ex c e => exact fun σ' F' O' f' a st q => h σ' F' O' f' a (s.trans st) (p.trans q)
def SndX (K : PySem.W.Frag) (mg : Str → Option Value) (pn : List Nat) (W : WX) (ts : TS) (s : SX) : Prop := ∀ env out, s env = some out → ∀ σ F O f, At K σ F O env [] f → ∀ D, EndOkX K mg pn σ F O f D W out → ts D σ (jn F O)
structure SY (K : PySem.W.Frag) (X : Cx) (pn : List Nat) (st : Stmt) (ts : WX → TS) (b : SX) : Prop where
  p : ∀ W, Takes X W → PassesOwn (model X.prog X.w) X.A X.env X.xe → PS X st (ts W)
  s : ∀ W, SndX K X.mg pn W (ts W) b
  k : X.K = K := by rfl
structure SYs (K : PySem.W.Frag) (X : Cx) (pn : List Nat) (st : List Stmt) (ts : WX → TS) (b : SX) : Prop where
  p : ∀ W, Takes X W → PassesOwn (model X.prog X.w) X.A X.env X.xe → PSs X st (ts W)
  s : ∀ W, SndX K X.mg pn W (ts W) b
  k : X.K = K := by rfl
def lf (b : S) : SX := fun env => (b env).map .ok
theorem sLf {ts : TS} {b : S} (h : SSnd K pn ts b) : SndX K mg pn W ts (lf b) := by
  intro env out e σ F O f a0 D q
  unfold lf at e
  cases hb : b env with
  | none => rw [hb] at e; cases e
  | some o =>
    rw [hb] at e
    cases e
    exact h _ _ hb σ F O f a0 D q
def kSeq (a b : SX) : SX := fun env => match a env with
  | some (.ok (.nx e)) => b e
  | some o => some o
  | none => none
theorem sKSeq {ta tb : TS} {a b : SX} (ha : SndX K mg pn W ta a) (hb : SndX K mg pn W tb b) : SndX K mg pn W (tSeq ta tb) (kSeq a b) := by
  intro env out h σ F O f a0 D q
  unfold kSeq at h
  split at h
  · next e h1 => exact ha _ _ h1 σ F O f a0 _ fun σ1 F1 O1 f1 a1 s1 p1 => hb _ _ h σ1 F1 O1 f1 a1 _ (q.after s1 p1)
  · next o h1 h2 =>
    cases h
    refine ha _ _ h2 σ F O f a0 _ ?_
    cases out with
    | ok o =>
      cases o with
      | nx e => exact (h1 e rfl).elim
      | rt t e => exact q
      | bk e => exact q
      | ct e => exact q
    | ex c e => exact q
  · cases h
def kIf (c : Et) (a b : SX) : SX := fun env => match c env with
  | some (true, e) => a e
  | some (false, e) => b e
  | none => none
theorem sKIf {tc : TT} {ta tb : TS} {c : Et} {a b : SX} (hc : TSnd K tc c) (ha : SndX K mg pn W ta a) (hb : SndX K mg pn W tb b) : SndX K mg pn W (tIfS tc ta tb) (kIf c a b) := by
  intro env out h σ F O f a0 D q
  unfold kIf at h
  split at h
  · next e h1 =>
    refine hc _ _ _ h1 σ F O f a0 _ fun F1 O1 f1 a1 s1 => ?_
    rw [if_pos rfl]
    exact ha _ _ h σ F1 O1 f1 a1 D (q.after s1 Same2.refl)
  · next e h1 =>
    refine hc _ _ _ h1 σ F O f a0 _ fun F1 O1 f1 a1 s1 => ?_
    rw [if_neg Bool.false_ne_true]
    exact hb _ _ h σ F1 O1 f1 a1 D (q.after s1 Same2.refl)
  · cases h
def kRai (c : Str) : SX := fun env => some (.ex c env)
theorem sKRai {c : Str} : SndX K mg pn W (fun _ σ H => W (cvl mg c) none σ H) (kRai c) := by
  intro env out h σ F O f a0 D q
  cases h
  exact q σ F O f a0 Stp.refl Same2.refl
/-! expressions that may raise -/
inductive ExE where
  | ok (o : Opd) (e : Env) | ex (c : Str) (e : Env)
abbrev EvX := Env → Option ExE
def ESndX (K : PySem.W.Frag) (mg : Str → Option Value) (W : WX) (te : TE) (ev : EvX) : Prop := ∀ env r, ev env = some r → ∀ σ F O f, At K σ F O env [] f → ∀ Q : VK,
  (match r with
  | .ok o env' => ∀ v F' O' fp f', At K σ F' O' env' fp f' → Stp F O f F' O' (fp ++ f') → RlO K σ F' O' v o fp → Q v (jn F' O')
  | .ex c env' => ∀ F' O' f', At K σ F' O' env' [] f' → Stp F O f F' O' f' → W (cvl mg c) none σ (jn F' O')) → te σ (jn F O) Q
def cCallX (g : GX) (m : List Bool) (a : Ea) : EvX := fun env => match a env with
  | some (os, e) => match cArgs m (ers os) e with
    | some (ts, e1) => match g ts with
      | some (.ok r outs) => some (.ok (.t r) (cBack m (ers os) outs e1))
      | some (.ex c outs) => some (.ex c (cBack m (ers os) outs e1))
      | none => none
    | none => none
  | none => none
/-- behind a call: the outs in their slots again -/
theorem call_back {m : List Bool} {os : List Opd} {vs : List V} {e e1 : Env} {ts : List T} (al : ∀ a ∈ fp1, ∃ o, O1 a = some o) (a1 : At K σ F1 O1 e fp1 f1) (s1 : Stp F O f F1 O1 (fp1 ++ f1)) (r1 : RlOs K σ F1 O1 vs os fp1) (h2 : cArgs m (LP.ers os) e = some (ts, e1)) :
    ∃ gg, jn F1 O1 = jn (toF F1 O1 fp1) (offO O1 fp1) ∧ Dis (toF F1 O1 fp1) (offO O1 fp1) ∧ Rls K (toF F1 O1 fp1) (offO O1 fp1) vs ts gg ∧ Nd gg ∧
      ∀ (F3 O3 : Hp) (fp3 g3 : List Addr) (outs : List T), Dis F3 O3 → Stp (toF F1 O1 fp1) (offO O1 fp1) gg F3 O3 (fp3 ++ g3) → Rls K F3 O3 vs outs g3 → Nd (fp3 ++ g3) →
        ∃ f4, At K σ F3 O3 (cBack m (LP.ers os) outs e1) fp3 f4 ∧ Stp F O f F3 O3 (fp3 ++ f4) := by
  have d2 : Dis (toF F1 O1 fp1) (offO O1 fp1) := a1.d.toF
  have r2 := r1.ers a1.d al fun a z => z
  have sm := a1.d.same_toF al
  have kk : ∀ b ∈ f1, ∀ u, O1 b = some u → offO O1 fp1 b = some u := fun b z u e => by
    unfold offO
    rw [if_neg fun w => a1.nd.apart w z]
    exact e
  have e2 := a1.e.mono sm kk
  have j := jn_toF (F := F1) al
  obtain ⟨gg, f2, m1, m2, m3, m4⟩ := args_out r2 e2 h2
  have s12 : Stp F O f (toF F1 O1 fp1) (offO O1 fp1) f1 := by
    refine ⟨s1.f.trans sm, fun b u n e => ?_, fun b z => s1.n b (List.mem_append_right _ z), fun b n => ?_⟩
    · have e1 := s1.k b u n e
      unfold offO
      rw [if_neg fun w => ?_]
      · exact e1
      · rcases s1.n b (List.mem_append_left _ w) with q | q
        · exact n q
        · rw [jn_O e] at q; cases q
    · rw [j]; exact s1.g b n
  have n1 := a1.nd.right
  have ngf : Nd (gg ++ f2) := n1.sub fun a => by rw [List.count_append]; have := m3 a; omega
  refine ⟨gg, j.symm, d2, m1, ngf.left, fun F3 O3 fp3 g3 outs d3 s3 ro n3 => ?_⟩
  have e3 : RlE K F3 O3 σ e1 f2 := m2.mono s3.f fun a z o e => s3.k a o (fun w => ngf.apart w z) e
  obtain ⟨f4, k1, k2⟩ := m4 F3 O3 outs g3 f2 ro e1 e3
  have big : Nd ((fp3 ++ g3) ++ f2) := n3.of ngf.right fun a z w => by
    rcases s3.n a z with q | q
    · exact ngf.apart q w
    · obtain ⟨o, e⟩ := m2.alloc a w
      rw [jn_O e] at q
      cases q
  refine ⟨f4, ⟨d3, k1, big.sub fun a => by simp only [List.count_append]; have := k2 a; omega⟩, s12.trans ⟨s3.f, fun a o z e => s3.k a o (fun w => z ?_) e, fun a z => ?_, s3.g⟩⟩
  · rw [mem_count] at w ⊢
    have := m3 a
    omega
  · have z' : a ∈ fp3 ++ g3 ∨ a ∈ f2 := by
      rw [mem_count, List.count_append] at z
      rw [mem_count, mem_count, List.count_append]
      have := k2 a
      omega
    rcases z' with w | w
    · rcases s3.n a w with q | q
      · refine .inl ?_
        rw [mem_count] at q ⊢
        have := m3 a
        omega
      · exact .inr q
    · refine .inl ?_
      rw [mem_count] at w ⊢
      have := m3 a
      omega
theorem eCallX {ta : TA} {a : Ea} {g : GX} {m : List Bool} (ha : ASnd K ta a) : ESndX K mg W (tCallS (spX K mg m.length g) (WE W) ta) (cCallX g m a) := by
  intro env r h σ F O f a0 Q q
  simp only [cCallX] at h
  split at h
  · next os e h1 =>
    split at h
    · next ts e1 h2 =>
      refine ha _ _ _ h1 σ F O f a0 _ fun vs F1 O1 fp1 f1 a1 s1 r1 => ?_
      obtain ⟨gg, j, d2, m1, n2, bk⟩ := call_back r1.alloc a1 s1 r1 h2
      rw [j]
      split at h
      · next r' outs h3 =>
        cases h
        refine ⟨_, _, ts, gg, _, ?_, rfl, d2, m1, n2, h3, fun v F3 O3 fp3 g3 d3 s3 r3 ro n3 => ?_⟩
        · rw [m1.len, cArgs_len h2]
        · obtain ⟨f4, x1, x2⟩ := bk F3 O3 fp3 g3 outs d3 s3 ro n3
          exact q v F3 O3 fp3 f4 x1 x2 r3
      · next c outs h3 =>
        cases h
        refine ⟨_, _, ts, gg, _, ?_, rfl, d2, m1, n2, h3, fun F3 O3 g3 d3 s3 ro n3 => ?_⟩
        · rw [m1.len, cArgs_len h2]
        · obtain ⟨f4, x1, x2⟩ := bk F3 O3 [] g3 outs d3 s3 ro n3
          exact q F3 O3 f4 x1 x2
      · cases h
    · cases h
  · cases h
def kDrop (a : EvX) : SX := fun env => match a env with
  | some (.ok _ e) => some (.ok (.nx e))
  | some (.ex c e) => some (.ex c e)
  | none => none
theorem sKDrop {ta : TE} {a : EvX} (ha : ESndX K mg W ta a) : SndX K mg pn W (tDrop ta) (kDrop a) := by
  intro env out h σ F O f a0 D q
  simp only [kDrop] at h
  split at h
  · next o e h1 =>
    cases h
    exact ha _ _ h1 σ F O f a0 _ fun v F1 O1 fp1 f1 a1 s1 r1 => q σ F1 O1 f1 a1.only s1.snd Same2.refl
  · next c e h1 =>
    cases h
    exact ha _ _ h1 σ F O f a0 _ fun F1 O1 f1 a1 s1 => q σ F1 O1 f1 a1 s1 Same2.refl
  · cases h
/-- where it does not raise -/
def gOk (g : GX) : Fn := fun ts => match g ts with
  | some (.ok r outs) => some (r, outs)
  | _ => none
theorem gOk_eq {g : GX} {ts : List T} {r : T} {outs : List T} (h : gOk g ts = some (r, outs)) : g ts = some (.ok r outs) := by
  unfold gOk at h
  split at h
  · next r' o' e => cases h; exact e
  · cases h
/-- a call with defaults behind: dT their trees, without lists -/
theorem eCallK {ta : TA} {a : Ea} {g : GX} {m : List Bool} {n : Nat} {E : XK} {dvs : List V} {dT : List T} (hn : n = m.length + dvs.length) (hd : ∀ F O, Rls K F O dvs dT []) (ha : ASnd K ta a) : ESnd K (tCall (spX K mg n g) dvs E ta) (cCall (fun ts => (gOk g (ts ++ dT)).map fun p => (p.1, p.2.take ts.length)) m a) := by
  intro env o env' h σ F O f a0 Q q
  simp only [cCall] at h
  split at h
  · next os e h1 =>
    split at h
    · next ts e1 h2 =>
      refine ha _ _ _ h1 σ F O f a0 _ fun vs F1 O1 fp1 f1 a1 s1 r1 => ?_
      obtain ⟨gg, j, d2, m1, n2, bk⟩ := call_back r1.alloc a1 s1 r1 h2
      rw [j]
      split at h
      · next r' outs h3 =>
        cases h
        cases hg : gOk g (ts ++ dT) with
        | none => rw [hg] at h3; cases h3
        | some pr =>
          obtain ⟨r2, o2⟩ := pr
          rw [hg] at h3
          simp only [Option.map_some, Option.some.injEq, Prod.mk.injEq] at h3
          obtain ⟨rfl, rfl⟩ := h3
          have lv := m1.len
          refine ⟨_, _, ts ++ dT, gg, _, ?_, rfl, d2, ?_, n2, gOk_eq hg, fun v F3 O3 fp3 g3 d3 s3 r3 ro n3 => ?_⟩
          · rw [List.length_append, lv, cArgs_len h2, hn]
          · have := m1.append (hd (toF F1 O1 fp1) (offO O1 fp1))
            rwa [List.append_nil] at this
          · obtain ⟨g4, g5, h4, _, h6⟩ := ro.take (n := ts.length)
            rw [show (vs ++ dvs).take ts.length = vs by rw [← lv, List.take_left]] at h4
            obtain ⟨f4, x1, x2⟩ := bk F3 O3 fp3 g4 _ d3 (s3.less fun a z => by
              rcases List.mem_append.mp z with w | w
              · exact List.mem_append_left _ w
              · refine List.mem_append_right _ ?_
                rw [mem_count] at w ⊢
                have := h6 a
                omega) h4 (n3.sub fun a => by
                have := h6 a
                simp only [List.count_append]; omega)
            exact q v F3 O3 fp3 f4 x1 x2 r3
      · cases h
    · cases h
  · cases h
end
/-- with trees behind, where it does not raise -/
def gPart (g : GX) (dT : List T) : Fn := fun ts => (gOk g (ts ++ dT)).map fun p => (p.1, p.2.take ts.length)
/-! ### the rules -/
theorem PS.nox {X : Cx} {st : Stmt} {t : TS} (h : PS X.nox st t) : PS X st t := ⟨fun pins s σ H D I hw =>
  wpAny_mono (h.run pins s σ H D (I.wish _) hw) (fun _ _ q => q.unwish) fun _ _ z => False.elim z⟩
theorem PA.nox {X : Cx} {es : List Expr} {t : TA} (h : PA X.nox es t) : PA X es t := ⟨fun pos pins s σ H Q I hw =>
  wpAny_mono (h.run pos pins s σ H Q (I.wish _) hw) (fun _ _ ⟨v, H', I', r, q⟩ => ⟨v, H', I'.unwish, r, q⟩) fun _ _ z => False.elim z⟩
theorem PG.nox {X : Cx} {e : Expr} {t : TG} (h : PG X.nox e t) : PG X e t := ⟨fun pins s σ H v u Q I r hw =>
  wpAny_mono (h.run pins s σ H v u Q (I.wish _) r hw) (fun _ _ ⟨σ', H', I', q⟩ => ⟨σ', H', I'.unwish, q⟩) fun _ _ z => False.elim z⟩
def CalX (P : Program) (w : World) (K : PySem.W.Frag) (mg : Str → Option Value) (base : Heap) (k : Nat) (x : Str) (ps : List Str) (m : List Bool) (g : GX) : Prop :=
  ∃ f fd, FnOk P w K mg base (L2.CX P w) k f fd ps (spX K mg m.length g) ∧ mg x = some (.ref f) ∧ PySem.W.keepIn K (.ref f) = true ∧ Binds K fd ps []
structure SEX (K : PySem.W.Frag) (X : Cx) (e : Expr) (te : WX → TE) (ev : EvX) : Prop where
  p : ∀ W, Takes X W → PE X e (te W)
  s : ∀ W, ESndX K X.mg W (te W) ev
  k : X.K = K := by rfl
section
variable {K : PySem.W.Frag} {X : Cx} {c e : Expr} {es : List Expr} {te : TE} {tw : WX → TE} {tas : TA} {ev : Ev} {eas : Ea} {evx : EvX} {tt : TT} {et : Et} {pos p2 p3 : Pos} {pn : List Nat} {st : Stmt} {sts : List Stmt} {ts us : WX → TS} {s u : SX} {gg : TG} {g : Tg} {tg : Expr}
theorem yLf {t : TS} {b : S} (h : SS K X.nox pn st t b) : SY K X pn st (fun _ => t) (lf b) := by
  cases h.k
  exact ⟨fun _ _ _ => PS.nox h.p, fun _ => sLf h.s, rfl⟩
theorem yNil (hk : X.K = K := by rfl) : SYs K X pn [] (fun _ => tNext) (lf cSkip) := by
  cases hk
  exact ⟨fun _ _ _ => pss_nil, fun _ => sLf sSkip, rfl⟩
theorem yCons (h1 : SY K X pn st ts s) (h2 : SYs K X pn sts us u) : SYs K X pn (st :: sts) (fun W => tSeq (ts W) (us W)) (kSeq s u) := by
  cases h1.k
  exact ⟨fun W t po => pss_cons (h1.p W t po) (h2.p W t po), fun W => sKSeq (h1.s W) (h2.s W), rfl⟩
theorem yOne (h1 : SY K X pn st ts s) : SYs K X pn [st] ts s := by
  cases h1.k
  exact ⟨fun W t po => pss_one (h1.p W t po), h1.s, rfl⟩
theorem yIf {sa sb : List Stmt} (hc : ST K X.nox c tt et) (ha : SYs K X pn sa ts s) (hb : SYs K X pn sb us u) : SY K X pn (.If c sa sb pos) (fun W => tIfS tt (ts W) (us W)) (kIf et s u) := by
  cases hc.k
  exact ⟨fun W t po => ps_if (PT.nox hc.p) (ha.p W t po) (hb.p W t po), fun W => sKIf hc.s (ha.s W) (hb.s W), rfl⟩
theorem yCallX {k j : Nat} {x : Str} {ps : List Str} {m : List Bool} {g : GX} {mg : Str → Option Value} (C : CalX X.prog X.w K mg X.base j x ps m g) (hr : Room k X.A) (ha : SA K X.nox (e :: es) tas eas) (hmg : X.mg = mg := by rfl) (hg : Gl X x := by rfl) (hj : j ≤ k := by decide)
    (hdb : (x == ("__debug__" : Str)) = false := by decide) (hst : starEach (e :: es) X.env = (false, eval e X.env) :: starEach es X.env := by rfl) (hpl : (backTo pos (starEach es X.env)).any (·.1) = false := by rfl) :
    SEX K X (.Call (.Name x p2) (e :: es) [] pos) (fun W => tCallS (spX K mg m.length g) (WE W) tas) (cCallX g m eas) := by
  cases ha.k
  cases hmg
  obtain ⟨f, fd, h1, h2, h3, h4⟩ := C
  exact ⟨fun W tk => pe_callS h1 (hr.mono hj) hg h2 h3 h4 (passAt tk) (PA.nox ha.p) hdb hst hpl, fun W => eCallX ha.s, rfl⟩
theorem yExpr (he : SEX K X e tw evx) (hs : swapsWith e none pos.line X.env = pure false := by rfl) : SY K X pn (.Expr e pos) (fun W => tDrop (tw W)) (kDrop evx) := by
  cases he.k
  exact ⟨fun W t _ => ps_expr (he.p W t) hs, fun W => sKDrop (he.s W), rfl⟩
/-- where it does not raise -/
theorem xCallK {k j : Nat} {x : Str} {ps : List Str} {m : List Bool} {g : GX} (C : CalX X.prog X.w K X.mg X.base j x ps m g) (hr : Room k X.A) (ha : SA K X (e :: es) tas eas) (hg : Gl X x := by rfl) (hj : j ≤ k := by decide)
    (hdb : (x == ("__debug__" : Str)) = false := by decide) (hst : starEach (e :: es) X.env = (false, eval e X.env) :: starEach es X.env := by rfl) (hpl : (backTo pos (starEach es X.env)).any (·.1) = false := by rfl) :
    SE K X (.Call (.Name x p2) (e :: es) [] pos) (tCall (spX K X.mg m.length g) [] E0 tas) (cCall (gPart g []) m eas) := by
  cases ha.k
  obtain ⟨f, fd, h1, h2, h3, h4⟩ := C
  exact ⟨pe_call h1 (hr.mono hj) hg h2 h3 h4 .nil passL ha.p hdb hst hpl, eCallK rfl (fun _ _ => .nil) ha.s, rfl⟩
end
/-! ### a def that may raise -/
def runX (m : List Bool) (n : Nat) (b : SX) : GX := fun ts => match b (ts.map some ++ List.replicate (n - ts.length) none) with
  | some (.ok (.rt t e)) => match outsOf m ts e with
    | some us => some (.ok t us)
    | none => none
  | some (.ok (.nx e)) => match outsOf m ts e with
    | some us => some (.ok .non us)
    | none => none
  | some (.ex c e) => match outsOf m ts e with
    | some us => some (.ex c us)
    | none => none
  | _ => none
section
variable {P : Program} {w : World} {K : PySem.W.Frag} {mg : Str → Option Value} {base : Heap}
theorem bodyX {N : List Str} {scope : Scope} {qual : Str} {fa : Addr} {body : List Stmt} (m : List Bool) {b : SX} {cdv : Value} {A : Around} {outer : List PySem.Env} {s : Shared} {H : Hp} {E : XK} {vs : List V} {Q : VK}
    {tw : WX → TS} (hs : SYs K (cxOf (L2.CX P w) P w K mg base N qual scope fa cdv A outer s H E) (pins m 0) body tw b) (h : spX K mg m.length (runX m N.length b) vs H Q E) :
    tw (fun cls d _ H => E cls d H) { nx := fun _ H' => Q .non H', rt := Q } (L2.start N vs) H := by
  obtain ⟨F, O, ts, f, res, hl, rfl, d, rl, nd, hg, q⟩ := h
  have e0 := RlE.start (n := N.length - vs.length) rl
  have hlen : N.length - vs.length = N.length - ts.length := by rw [rl.len]
  have hpin : ∀ {σ' : L2.St}, Same2 (pins m 0) (L2.start N vs) σ' → ∀ i, i ∈ pins m 0 → ∃ j, i = 0 + j ∧ σ'[j]? = (L2.start N vs)[i]? := fun p i hi => ⟨i, (Nat.zero_add i).symm, p.s i hi⟩
  have hst : ∀ j v, vs[j]? = some v → (L2.start N vs)[0 + j]? = some (some v) := fun j v e => by
    unfold L2.start
    have hj := (List.getElem?_eq_some_iff.mp e).1
    rw [Nat.zero_add, List.getElem?_append_left (by rw [List.length_map]; exact hj), List.getElem?_map, e]
    rfl
  have outs : ∀ {σ' : L2.St} {F' O' : Hp} {fp f' : List Addr} {e : Env} {us : List T}, At K σ' F' O' e fp f' → Stp F O f F' O' (fp ++ f') → Same2 (pins m 0) (L2.start N vs) σ' → outsOf m ts e = some us → ∃ g, Stp F O f F' O' (fp ++ g) ∧ Rls K F' O' vs us g ∧ Nd (fp ++ g) := by
    intro σ' F' O' fp f' e us a1 s1 p1 eo
    obtain ⟨g, k1, k2⟩ := outs_of s1.f (k := 0) (σ0 := L2.start N vs) a1.e rl eo (hpin p1) hst
    refine ⟨g, s1.less fun a z => ?_, k1, a1.nd.sub fun a => by rw [List.count_append, List.count_append]; have := k2 a; omega⟩
    rcases List.mem_append.mp z with w | w
    · exact List.mem_append_left _ w
    · refine List.mem_append_right _ ?_
      rw [mem_count] at w ⊢
      have := k2 a
      omega
  unfold runX at hg
  rw [← hlen] at hg
  split at hg
  · next t' e hb' =>
    split at hg
    · next us hu =>
      cases hg
      exact hs.s _ _ _ hb' (L2.start N vs) F O f ⟨d, e0, nd⟩ _ fun v σ' F' O' fp f' a1 s1 r1 p1 => by
        obtain ⟨g, k1, k2, k3⟩ := outs a1 s1 p1 hu
        exact q v F' O' fp g a1.d k1 r1 k2 k3
    · cases hg
  · next e hb' =>
    split at hg
    · next us hu =>
      cases hg
      exact hs.s _ _ _ hb' (L2.start N vs) F O f ⟨d, e0, nd⟩ _ fun σ' F' O' f' a1 s1 p1 => by
        obtain ⟨g, k1, k2, k3⟩ := outs (fp := []) a1 s1 p1 hu
        exact q .non F' O' [] g a1.d k1 .non k2 k3
    · cases hg
  · next c e hb' =>
    split at hg
    · next us hu =>
      cases hg
      exact hs.s _ _ _ hb' (L2.start N vs) F O f ⟨d, e0, nd⟩ _ fun σ' F' O' f' a1 s1 p1 => by
        obtain ⟨g, k1, k2, k3⟩ := outs (fp := []) a1 s1 p1 hu
        exact q F' O' g a1.d k1 k2 k3
    · cases hg
  · cases hg
theorem fn_okX {x qual : Str} {st : Stmt} {fa : Addr} {fd : FuncData} {N ps : List Str} {k : Nat} (Fu : Fun K x qual st fa fd) (Sc : FnScope N ps (defScope st)) (m : List Bool) (hm : m.length = ps.length) {b : SX}
    (hb : ∀ (cdv : Value) (A : Around) (outer : List PySem.Env) (s : Shared) (H : Hp) (E : XK), Room k (A.deeper (PyProof.Rows.envOfC qual (defScope st) s.heap.objs.size fa cdv)) → ∃ t, SYs K (cxOf (L2.CX P w) P w K mg base N qual (defScope st) fa cdv A outer s H E) (pins m 0) (defBody st) t b) :
    FnOk P w K mg base (L2.CX P w) (k + 1) fa fd ps (spX K mg m.length (runX m N.length b)) := by
  refine Fu.okX Sc (fun vs H Q E h => ?_) (fun cdv A outer s H vs Q E hr h => ?_)
  · obtain ⟨_, _, _, _, _, hl, _⟩ := h
    rw [hl, hm]
  · obtain ⟨t, hs⟩ := hb cdv A outer s H E hr
    exact ⟨_, hs.p _ (takes_of rfl rfl rfl rfl) (passes_of rfl), bodyX m hs h⟩
end
/-! ### classes, raise -/
/-- an own class of exceptions, over ValueError -/
structure ExO (K : PySem.W.Frag) (C : Addr) : Prop where
  q : PySem.W.excIn K C [.type "ValueError", .type "Exception", .type "BaseException", .type "object"] "ValueError.__new__" = true
  k : PySem.W.keepIn K (.ref C) = true
  s : PySem.W.subIn K (.ref C) (.type "BaseException") = some true
  t : PySem.W.typeIn K (.ref C) = some (.type "type")
def Cls1 (K : PySem.W.Frag) (mg : Str → Option Value) (x : Str) : Prop := ∃ C, mg x = some (.ref C) ∧ ExO K C
section
variable {K : PySem.W.Frag} {X : Cx} {pos p2 p3 p4 : Pos} {pn : List Nat}
theorem yRaise {x m : Str} {j : Nat} (R : Cls1 K X.mg x) (hg : Gl X x := by rfl) (hc : X.calm = true := by rfl) (hdb : (x == ("__debug__" : Str)) = false := by decide) (hk : X.K = K := by rfl) :
    SY K X pn (.Raise (some (.Call (.Name x p3) [.Constant (.str m) j p2] [] p4)) none pos) (fun W _ σ H => W (cvl X.mg x) none σ H) (kRai x) := by
  cases hk
  obtain ⟨C, h1, h2⟩ := R
  have e : cvl X.mg x = .ref C := by unfold cvl; rw [h1]; rfl
  refine ⟨fun W tk _ => ?_, fun W => sKRai, rfl⟩
  rw [e]
  exact ps_raise hc tk (pmk_own PySem.F.excBase_ValueError h2.q h1 h2.k (raises_own h2.s h2.t) hg hdb)
/-! ### try .. except X: -/
def kTry (a : SX) (m : Str → Option Bool) (b : S) : S := fun env => match a env with
  | some (.ok o) => some o
  | some (.ex c e) => match m c with
    | some true => b e
    | _ => none
  | none => none
theorem zTryO {x : Str} {c : Value} {body suite : List Stmt} {b₀ : Stmt} {np pos' : Pos} {tb : WX → TS} {ts : TS} {bx : SX} {b : S} {m : Str → Option Bool} (hs : X.stack = X.env :: X.outer) (hf : X.env.frame = some X.env.locals) (hc : Names X x c)
    (hm : ∀ c', m c' = some true → PySem.W.exmOne X.K (cvl X.mg c') c = some true)
    (hb : ∀ (pns : List (Addr × Obj)) (xe : Value → Shared → Prop), SYs K (X.tr pns xe) pn body tb bx)
    (hsu : ∀ (a : Addr) (oe : Obj) (pns : List (Addr × Obj)), SSs K (X.suite a ((a, oe) :: pns)) pn (b₀ :: suite) ts b) :
    SS K X pn (.Try body [.ExceptHandler (some (.Name x np)) none (b₀ :: suite) pos'] [] [] pos) (fun D σ H => tb (wOnly X.K c (fun _ _ _ => ts) (fun _ _ _ _ => False) D) D σ H) (kTry bx m b) := by
  refine ⟨ps_try_only hs hf hc takes0 (fun W pns xe tk po => (hb pns xe).p W tk po) (fun a oe cls d pns _ _ => (hsu a oe pns).p), ?_, (hb [] (fun _ _ => False)).k⟩
  intro env out h σ F O f a0 D q
  refine (hb [] (fun _ _ => False)).s _ env _ (?_ : bx env = some ?o) σ F O f a0 D ?_
  case o => exact (bx env).getD (.ok (.nx env))
  · unfold kTry at h
    cases hx : bx env with
    | none => rw [hx] at h; cases h
    | some o => rfl
  · unfold kTry at h
    cases hx : bx env with
    | none => rw [hx] at h; cases h
    | some o =>
      rw [hx] at h
      cases o with
      | ok o =>
        cases h
        exact q
      | ex c' e =>
        simp only at h
        cases hmc : m c' with
        | none => rw [hmc] at h; cases h
        | some bb =>
          cases bb with
          | false => rw [hmc] at h; cases h
          | true =>
            rw [hmc] at h
            intro σ' F' O' f' a1 s1 p1
            exact ⟨true, hm c' hmc, fun _ a _ => (hsu a ⟨.none, none, .fields #[], #[]⟩ []).s e out h σ' F' O' f' a1 D (q.after s1 p1), fun z => by cases z⟩
end
end LP
/-! ### try .. except X as e: what is asked of e is known -/
namespace LP
open PySem L2
def Val (P : L2.St → Prop) (te : TE) (b : Bool) : Prop := ∀ σ F O, Dis F O → P σ → ∀ Q : VK, (∀ F', Dis F' O → Stp F O [] F' O [] → Q (.bl b) (jn F' O)) → te σ (jn F O) Q
/-- isinstance(e, (c1, ..)) -/
def rIsET (K : PySem.W.Frag) (C a : Addr) : List V → Hp → VK → Prop := fun xs H Q => ∃ (tp : Addr) (cs : List V) (us : List Value) (b : Bool), xs = [.ref a, .ref tp] ∧ H tp = some (.tup cs) ∧ Paired ClsV cs us ∧ PySem.W.kitAny K (.ref C) us = some b ∧ Q (.bl b) H
theorem call_isET {X : Cx} {a D : Addr} {oe : Obj} {pn : List (Addr × Obj)} (C : ExcC X.K D) (hz : Zc (.ref D) none oe) (hf : ∃ vs, oe.data = .fields vs) : CallR (X.suite a ((a, oe) :: pn)) (.builtin "isinstance") (rIsET X.K D a) := by
  intro pins s σ H xs us Q I r h
  obtain ⟨tp, cs, ws, b, rfl, hT, k, e, q⟩ := h
  obtain ⟨u1, u2, rfl, r1, r2⟩ := vals2 r
  cases (show u2 = Value.ref tp from r2)
  cases (show u1 = Value.ref a from r1)
  obtain ⟨hget, _⟩ := I.pin (a, oe) (List.mem_append.mpr (.inl List.mem_cons_self))
  obtain ⟨vs, hv⟩ := hf
  have J : PySem.W.InstAt s.heap a oe D none := by
    obtain ⟨oc, od, oda, osl⟩ := oe
    obtain ⟨h1, h2⟩ := hz
    dsimp only at h1 h2 hv
    subst h1 h2 hv
    exact ⟨hget, rfl, rfl, trivial⟩
  obtain ⟨_, its, rv, o, h1, h2, n, h3⟩ := (show ObjOk X.prog X.w H s.heap tp (.tup cs) from I.hok tp _ hT)
  have e3 := ClsV.all k rv
  subst e3
  obtain ⟨oc, od, dt, sl⟩ := o
  simp only at h2 h3
  subst h2 h3
  exact PySem.W.kia_tup (PySem.W.handS_kitx_exc C.hg C.hk C.hs C.hd C.ha C.hn C.ht C.hm) I.kIn J h1 e (fun z => nomatch z) fun tk => ⟨.bl b, H, I.kept (t' := tk) fun _ _ z => z, rfl, q⟩
structure VE (K : PySem.W.Frag) (X : Cx) (C : Addr) (e : Expr) (P : Addr → L2.St → Prop) (te : Addr → TE) (b : Bool) : Prop where
  p : ∀ (a : Addr) (oe : Obj) (pns : List (Addr × Obj)), Zc (.ref C) none oe → (∃ vs, oe.data = .fields vs) → PE (X.suite a ((a, oe) :: pns)) e (te a)
  s : ∀ a, Val (P a) (te a) b
  k : X.K = K := by rfl
/-- classes, one after the other -/
structure VC (K : PySem.W.Frag) (X : Cx) (C : Addr) (es : List Expr) (ta : TA) (cs : List V) (us : List Value) : Prop where
  p : ∀ (a : Addr) (oe : Obj) (pns : List (Addr × Obj)), PA (X.suite a ((a, oe) :: pns)) es ta
  s : ∀ σ H Q, Q cs H → ta σ H Q
  c : Paired ClsV cs us
section
variable {K : PySem.W.Frag} {X : Cx} {C D : Addr} {i j : Nat} {P : Addr → L2.St → Prop} {e e1 e2 : Expr} {es : List Expr} {te te1 te2 : Addr → TE} {ta : TA} {cs : List V} {us : List Value} {b : Bool} {pos p1 p2 p3 : Pos}
theorem vc0 : VC K X C [] tNil [] [] := ⟨fun _ _ _ => pa_nil, fun _ _ _ q => q, .nil⟩
theorem vcC {x : Str} (hg : Gl X x) (hm : X.mg x = some (.ref D)) (h : VC K X C es ta cs us) (hst : ∀ env, starEach (.Name x p1 :: es) env = (false, eval (.Name x p1) env) :: starEach es env := by intro _; rfl) (hd : (x == ("__debug__" : Str)) = false := by decide) :
    VC K X C (.Name x p1 :: es) (tCons (tC (.ref D)) ta) (.ref D :: cs) (.ref D :: us) :=
  ⟨fun a oe pns => pa_cons (pe_glob hg hm rfl hd) (h.p a oe pns) (hst _), fun σ H Q q => h.s σ H _ q, .cons (.own D) h.c⟩
theorem vIs {x : Str} {n : Str} (E : ExcC X.K C) (hi : ∀ a oe pns, PE (X.suite a ((a, oe) :: pns)) (.Name n p1) (tVar i)) (hgi : Gl X "isinstance") (hmi : X.mg "isinstance" = none) (hg : Gl X x) (hm : X.mg x = some (.ref D)) (hk : PySem.W.kitOne X.K (.ref C) (.ref D) = some b)
    (hst : ∀ env, starEach [.Name n p1, .Name x p2] env = (false, eval (.Name n p1) env) :: starEach [.Name x p2] env := by intro _; rfl) (hst2 : ∀ env, starEach [.Name x p2] env = (false, eval (.Name x p2) env) :: starEach [] env := by intro _; rfl) (hpl : ∀ env, (backTo pos (starEach [.Name x p2] env)).any (·.1) = false := by intro _; rfl) (hd : (x == ("__debug__" : Str)) = false := by decide) :
    VE X.K X C (.Call (.Name "isinstance" p3) [.Name n p1, .Name x p2] [] pos) (fun a σ => σ[i]? = some (some (.ref a))) (fun a => tCB (rIsE X.K C a) (tCons (tVar i) (tCons (tC (.ref D)) tNil))) b :=
  ⟨fun a oe pns hz hf => pe_callB (call_isE E hz hf) hgi hmi b_isi (pa_cons (hi a oe pns) (pa_cons (pe_glob hg hm rfl hd) pa_nil (hst2 _)) (hst _)) (by decide) (by decide) (hst _) (hpl _),
    fun a σ F O d hp Q q => ⟨_, hp, _, _, b, rfl, (fun u hu => hu), hk, q F d Stp.refl⟩, rfl⟩
theorem vIsB {x : Str} {T : String} {n : Str} (E : ExcC X.K C) (hi : ∀ a oe pns, PE (X.suite a ((a, oe) :: pns)) (.Name n p1) (tVar i)) (hgi : Gl X "isinstance") (hmi : X.mg "isinstance" = none) (hg : Gl X x) (hm : X.mg x = none) (hv : bootBuiltins x = some (.type T)) (hk : PySem.W.kitOne X.K (.ref C) (.type T) = some b)
    (hn : x ≠ "__name__" := by decide) (hst : ∀ env, starEach [.Name n p1, .Name x p2] env = (false, eval (.Name n p1) env) :: starEach [.Name x p2] env := by intro _; rfl) (hst2 : ∀ env, starEach [.Name x p2] env = (false, eval (.Name x p2) env) :: starEach [] env := by intro _; rfl) (hpl : ∀ env, (backTo pos (starEach [.Name x p2] env)).any (·.1) = false := by intro _; rfl) (hd : (x == ("__debug__" : Str)) = false := by decide) :
    VE X.K X C (.Call (.Name "isinstance" p3) [.Name n p1, .Name x p2] [] pos) (fun a σ => σ[i]? = some (some (.ref a))) (fun a => tCB (rIsE X.K C a) (tCons (tVar i) (tCons (tC (.ty T)) tNil))) b :=
  ⟨fun a oe pns hz hf => pe_callB (call_isE E hz hf) hgi hmi b_isi (pa_cons (hi a oe pns) (pa_cons (pe_bltn hg hm hv rfl hn hd) pa_nil (hst2 _)) (hst _)) (by decide) (by decide) (hst _) (hpl _),
    fun a σ F O d hp Q q => ⟨_, hp, _, _, b, rfl, (fun u hu => hu), hk, q F d Stp.refl⟩, rfl⟩
theorem vIsT {n : Str} {kx : Nat} (E : ExcC X.K C) (hi : ∀ a oe pns, PE (X.suite a ((a, oe) :: pns)) (.Name n p1) (tVar i)) (hgi : Gl X "isinstance") (hmi : X.mg "isinstance" = none) (hcs : VC X.K X C es ta cs us) (hl : cs.length ≤ 1000) (hk : PySem.W.kitAny X.K (.ref C) us = some b)
    (hst : ∀ env, starEach [.Name n p1, .Tuple es kx p2] env = (false, eval (.Name n p1) env) :: starEach [.Tuple es kx p2] env := by intro _; rfl) (hst2 : ∀ env, starEach [.Tuple es kx p2] env = (false, eval (.Tuple es kx p2) env) :: starEach [] env := by intro _; rfl) (hpl : ∀ env, (backTo pos (starEach [.Tuple es kx p2] env)).any (·.1) = false := by intro _; rfl) :
    VE X.K X C (.Call (.Name "isinstance" p3) [.Name n p1, .Tuple es kx p2] [] pos) (fun a σ => σ[i]? = some (some (.ref a))) (fun a => tCB (rIsET X.K C a) (tCons (tVar i) (tCons (tTup ta) tNil))) b := by
  refine ⟨fun a oe pns hz hf => pe_callB (call_isET E hz hf) hgi hmi b_isi (pa_cons (hi a oe pns) (pa_cons (pe_tup (hcs.p a oe pns)) pa_nil (hst2 _)) (hst _)) (by decide) (by decide) (hst _) (hpl _),
    fun a σ F O d hp Q q => ⟨_, hp, hcs.s _ _ _ ⟨Nat.le_trans hl (by decide), fun p hp' => ?_⟩⟩, rfl⟩
  have e := upd_jnF (F := F) (O := O) (o := HO.tup cs) (jn_none hp').2
  show rIsET X.K C a [V.ref a, V.ref p] (upd (jn F O) p (HO.tup cs)) Q
  rw [e]
  refine ⟨p, cs, us, b, rfl, ?_, hcs.c, hk, q _ (d.updF (jn_none hp').2) ?_⟩
  · rw [← e]; exact upd_same
  · exact Stp.newF hp'
end
end LP
namespace LP
open PySem L2
theorem pss_pre {X : Cx} {st : List Stmt} {t : TS} {p : Prop} (h : p → PSs X st t) : PSs X st (fun D σ H => p ∧ t D σ H) := ⟨fun pins s σ H D I hw => (h hw.1).run pins s σ H D I hw.2⟩
section
variable {K : PySem.W.Frag} {X : Cx} {C : Addr} {i j : Nat} {e1 e2 e3 : Expr} {te1 te2 te3 : Addr → TE} {pos p1 p2 q1 q2 q3 np pos' : Pos} {pn : List Nat} {n x mine R : Str} {c : Value} {body : List Stmt} {tb : WX → TS} {bx : SX}
end
end LP
namespace LP
open PySem L2
/-- min, max of three ints -/
def min3T : List T → Option T
  | [.int i, .int j, .int k] => some (.int (if k < (if j < i then j else i) then k else (if j < i then j else i)))
  | _ => none
@[simp] theorem min3T_ints (i j k : Int) : min3T [.int i, .int j, .int k] = some (.int (if k < (if j < i then j else i) then k else (if j < i then j else i))) := rfl
section
variable {K : PySem.W.Frag} {X : Cx} {a b c : Expr} {tas : TA} {eas : Ea} {pos p2 : Pos}
/-- t + u of tuples, empty ones too -/
def catT : T → T → Option T := fun a b => match a, b with
  | .tup false xs, .tup false ys => if fzL xs && fzL ys && decide (xs.length + ys.length ≤ sizeLine) then some (.tup false (xs ++ ys)) else none
  | _, _ => none
@[simp] theorem catT_def (xs ys : List T) : catT (.tup false xs) (.tup false ys) = if (fzL xs && fzL ys && decide (xs.length + ys.length ≤ sizeLine)) = true then some (.tup false (xs ++ ys)) else none := rfl
end
section
variable {K : PySem.W.Frag} {X : Cx} {a b : Expr} {ta tb : TE} {ea eb : Ev} {pos : Pos}
end
end LP

/-! ### the classes of a program -/
namespace LP
open PySem L2
def adr (mg : Str → Option Value) (x : Str) : Addr := match mg x with
  | some (.ref a) => a
  | _ => 0
theorem adr_of {mg : Str → Option Value} {x : Str} {a : Addr} (h : mg x = some (.ref a)) : adr mg x = a := by unfold adr; rw [h]
theorem cvl_of {mg : Str → Option Value} {x : Str} {v : Value} (h : mg x = some v) : cvl mg x = v := by unfold cvl; rw [h]; rfl
theorem adr_mg {mg : Str → Option Value} {x : Str} {a : Addr} (h : mg x = some (.ref a)) : mg x = some (.ref (adr mg x)) := by rw [adr_of h]; exact h
def m1 (R : Str) : Str → Option Bool := fun c => if c = R then some true else none
@[simp] theorem m1_self (R : Str) : m1 R R = some true := if_pos rfl
theorem m1_ok {K : PySem.W.Frag} {mg : Str → Option Value} {R : Str} {c : Value} {a : Addr} (hR : mg R = some (.ref a)) (h : PySem.W.exmOne K (.ref a) c = some true) : ∀ c', m1 R c' = some true → PySem.W.exmOne K (cvl mg c') c = some true := by
  intro c' e
  unfold m1 at e
  split at e
  · next h1 => subst h1; rw [cvl_of hR]; exact h
  · cases e
theorem kitAny_no {K : PySem.W.Frag} {t c : Value} {r : List Value} (h : PySem.W.kitOne K t c = some false) (hr : PySem.W.kitAny K t r = some false) : PySem.W.kitAny K t (c :: r) = some false := by
  unfold PySem.W.kitAny
  rw [h]
  exact hr
theorem kitAny_nil {K : PySem.W.Frag} {t : Value} : PySem.W.kitAny K t [] = some false := rfl
/-- a class as it is named -/
structure ClsF (K : PySem.W.Frag) (D : Addr) : Prop where
  s : PySem.W.subIn K (.ref D) (.type "BaseException") = some true
  d : PySem.W.hasDictIn K D = true
  t : PySem.W.typeIn K (.ref D) = some (.type "type")
theorem ClsF.exm {K : PySem.W.Frag} {R D : Addr} {b : Bool} (c : ClsF K D) (h : PySem.W.subIn K (.ref R) (.ref D) = some b) : PySem.W.exmOne K (.ref R) (.ref D) = some b := PySem.W.exm_ref c.s c.d c.t h
theorem kit_self {K : PySem.W.Frag} {R : Addr} : PySem.W.kitOne K (.ref R) (.ref R) = some true := by
  unfold PySem.W.kitOne
  rw [if_pos (by simp)]
theorem ClsF.kit {K : PySem.W.Frag} {R D : Addr} {b : Bool} (c : ClsF K D) (n : (R == D) = false) (h : PySem.W.subIn K (.ref R) (.ref D) = some b) : PySem.W.kitOne K (.ref R) (.ref D) = some b := by
  have n' : ¬ R = D := fun e => by subst e; simp at n
  unfold PySem.W.kitOne
  rw [if_neg (by simp [n'])]
  unfold PySem.W.kitCls
  obtain ⟨cd, hc, _⟩ := PySem.W.any_some c.d
  simp only
  rw [if_pos (by rw [hc, c.t]; rfl)]
  exact h
theorem kit_type {K : PySem.W.Frag} {R : Addr} {T : String} {b : Bool} (m : PySem.W.kitMeta T = true) (h : PySem.W.subIn K (.ref R) (.type T) = some b) : PySem.W.kitOne K (.ref R) (.type T) = some b := by
  unfold PySem.W.kitOne
  rw [if_neg (by simp)]
  unfold PySem.W.kitCls
  simp only
  rw [if_pos m]
  exact h
end LP
set_option maxRecDepth 100000
/-! LP: sorted of pairs of a text and an int. -/
namespace SrtS
open PySem PyProof.Rows SrtO
def IsPS (h : Heap) (v : Value) (x : Str) (y : Int) : Prop := ∃ a o t u n, v = .ref a ∧ h.get? a = some o ∧ o.cls = .type "tuple" ∧ o.data = .seq #[.str x t, .int y u] n
theorem IsPS.keeps {h h' : Heap} {v : Value} {x : Str} {y : Int} (p : IsPS h v x y) (k : ∀ b o, h.get? b = some o → o.cls = .type "tuple" → h'.get? b = some o) : IsPS h' v x y := by
  obtain ⟨a, o, t, u, n, e, ho, hc, hd⟩ := p
  exact ⟨a, o, t, u, n, e, k _ _ ho hc, hc, hd⟩
def sLt (x y : Str) : Prop := x.cps.toList < y.cps.toList
instance (x y : Str) : Decidable (sLt x y) := by unfold sLt; infer_instance
theorem str_ext {x y : Str} (h : x.cps.toList = y.cps.toList) : x = y := by
  obtain ⟨a⟩ := x
  obtain ⟨b⟩ := y
  exact congrArg PySem.Str.mk (Array.toList_inj.mp h)
theorem sLt_irr (x : Str) : ¬ sLt x x := List.lt_irrefl _
theorem sLt_tr {x y z : Str} (h1 : sLt x y) (h2 : sLt y z) : sLt x z := List.lt_trans h1 h2
theorem sLt_tri (x y : Str) : sLt x y ∨ x = y ∨ sLt y x := by
  rcases Classical.em (sLt x y) with h | h
  · exact .inl h
  · rcases Classical.em (sLt y x) with h2 | h2
    · exact .inr (.inr h2)
    · refine .inr (.inl (str_ext ?_))
      exact List.le_antisymm (List.not_lt.mp h2) (List.not_lt.mp h)
section
variable {prog : Program} {w : World} {A : Around} {E : Value → Shared → Prop} {s : Shared}
end
end SrtS
namespace L2
open PySem PySem.Spec PyProof.Rows
def lexSLe (p q : PySem.Str × Int) : Prop := SrtS.sLt p.1 q.1 ∨ (p.1 = q.1 ∧ p.2 ≤ q.2)
section
variable {X : Cx}
end
end L2
namespace LP
open PySem L2
abbrev SI' := PySem.Str × Int
instance (p q : SI') : Decidable (lexSLe p q) := by unfold lexSLe; infer_instance
def pS (p : SI') : T := .tup false [.str p.1, .int p.2]
section
variable {K : PySem.W.Frag} {F O : Hp}
end
section
variable {K : PySem.W.Frag} {X : Cx} {e : Expr} {tas : TA} {eas : Ea} {pos p2 : Pos}
end
/-! x or y by truth: x a list (none too) -/
def truL (t : T) : Option Bool := match t with
  | .non => some false
  | .lst _ xs => some (!xs.isEmpty)
  | _ => none
def cOrL (a b : Ev) : Ev := fun env => match a env with
  | some (o, e) => match vw e o with
    | some t => match truL t with
      | some true => some (o, e)
      | some false => b e
      | none => none
    | none => none
  | none => none
section
variable {K : PySem.W.Frag} {X : Cx} {a b : Expr} {es : List Expr} {ta tb : TE} {ea eb : Ev} {pos : Pos}
@[simp] theorem cOrL_def (ea eb : Ev) (env : Env) : cOrL ea eb env = (ea env).bind fun p => (vw p.2 p.1).bind fun t => match truL t with
    | some true => some (p.1, p.2)
    | some false => eb p.2
    | none => none := by
  unfold cOrL
  cases ea env with
  | none => rfl
  | some p =>
    obtain ⟨o, e⟩ := p
    simp only [Option.bind_some]
    cases vw e o <;> rfl
@[simp] theorem truL_non : truL .non = some false := rfl
@[simp] theorem truL_lst (o : Bool) (xs : List T) : truL (.lst o xs) = some (!xs.isEmpty) := rfl
end
end LP
/-! for, the body may raise -/
namespace LP
open PySem L2
def loopX (g : Tg) (b : SX) : List T → Env → Option OutX
  | [], env => some (.ok (.nx env))
  | x :: r, env => match g x env with
    | some e1 => match b e1 with
      | some (.ok (.nx e2)) => loopX g b r e2
      | some (.ok (.ct e2)) => loopX g b r e2
      | some (.ok (.bk e2)) => some (.ok (.nx e2))
      | some (.ok (.rt t e2)) => some (.ok (.rt t e2))
      | some (.ex c e2) => some (.ex c e2)
      | none => none
    | none => none
def kFor (it : It) (g : Tg) (b : SX) : SX := fun env => match it env with
  | some (items, e) => loopX g b items e
  | none => none
section
variable {K : PySem.W.Frag} {mg : Str → Option Value} {pn : List Nat} {W : WX}
theorem sKFor {wi : TI} {it : It} {tg : TG} {g : Tg} {tb : TS} {b : SX} (hi : WSnd K wi it) (hg : GSnd K pn tg g) (hb : SndX K mg pn W tb b) : SndX K mg pn W (tFor wi tg tb) (kFor it g b) := by
  intro env out h σ F O f a0 D q
  simp only [kFor] at h
  split at h
  · next items e h1 =>
    refine hi _ _ _ h1 σ F O f a0 _ fun J F1 O1 f1 a1 s1 y => ?_
    have q1 := q.after s1 Same2.refl
    refine ⟨fun i m σ' H => ∃ env' F' O' f', H = jn F' O' ∧ m = items.length - i ∧ At K σ' F' O' env' [] f' ∧ Stp F1 O1 f1 F' O' f' ∧ Same2 pn σ σ' ∧ loopX g b (items.drop i) env' = some out, ⟨items.length, e, F1, O1, f1, rfl, rfl, a1, Stp.refl, Same2.refl, h⟩, ?_⟩
    rintro i m σ2 H ⟨env2, F2, O2, f2, rfl, rfl, a2, s2, p2, h2⟩
    obtain ⟨y1, y2⟩ := y F2 O2 s2.f a2.d i
    by_cases hl : items.length ≤ i
    · rw [List.drop_eq_nil_of_le hl] at h2
      simp only [loopX] at h2
      cases h2
      exact .inl ⟨y2 hl, q1 σ2 F2 O2 f2 a2 s2 p2⟩
    · have hlt : i < items.length := Nat.lt_of_not_le hl
      rw [List.drop_eq_getElem_cons hlt] at h2
      obtain ⟨go, yl⟩ := y1 _ (List.getElem?_eq_getElem hlt)
      refine .inr ⟨go, fun σ' H' => ∃ env' F' O' f', H' = jn F' O' ∧ At K σ' F' O' env' [] f' ∧ Stp F1 O1 f1 F' O' f' ∧ Same2 pn σ σ' ∧ loopX g b (items.drop (i + 1)) env' = some out, ?_, fun x H' yx => ?_⟩
      · rintro σ' H' ⟨env', F', O', f', rfl, b1, b2, b3, b4⟩
        exact ⟨items.length - (i + 1), by omega, env', F', O', f', rfl, rfl, b1, b2, b3, b4⟩
      · obtain ⟨F3, O3, rfl, d3, s3, r3⟩ := yl x H' yx
        simp only [loopX] at h2
        split at h2
        · next e3 h3 =>
          have a3 : At K σ2 F3 O3 env2 [] f2 := ⟨d3, a2.e.mono s3.f fun a z o e => s3.none_k a o e, a2.nd⟩
          have s23 : Stp F2 O2 f2 F3 O3 f2 := by
            have := s3.frame (hs := f2)
            rw [List.append_nil] at this
            exact this
          refine hg _ _ _ h3 x σ2 F3 O3 [] f2 a3 r3 _ fun σ4 F4 O4 f4 a4 s4 p4 => ?_
          have s14 : Stp F1 O1 f1 F4 O4 f4 := (s2.trans s23).trans s4
          have p14 : Same2 pn σ σ4 := p2.trans p4
          split at h2
          · next e4 h4 => exact hb _ _ h4 σ4 F4 O4 f4 a4 _ fun σ5 F5 O5 f5 a5 s5 p5 => ⟨e4, F5, O5, f5, rfl, a5, s14.trans s5, p14.trans p5, h2⟩
          · next e4 h4 => exact hb _ _ h4 σ4 F4 O4 f4 a4 _ fun σ5 F5 O5 f5 a5 s5 p5 => ⟨e4, F5, O5, f5, rfl, a5, s14.trans s5, p14.trans p5, h2⟩
          · next e4 h4 =>
            cases h2
            exact hb _ _ h4 σ4 F4 O4 f4 a4 _ fun σ5 F5 O5 f5 a5 s5 p5 => q1 σ5 F5 O5 f5 a5 (s14.trans s5) (p14.trans p5)
          · next t e4 h4 =>
            cases h2
            exact hb _ _ h4 σ4 F4 O4 f4 a4 _ fun v σ5 F5 O5 fp5 f5 a5 s5 r5 p5 => q1 v σ5 F5 O5 fp5 f5 a5 (s14.trans s5) r5 (p14.trans p5)
          · next c e4 h4 =>
            cases h2
            exact hb _ _ h4 σ4 F4 O4 f4 a4 _ fun σ5 F5 O5 f5 a5 s5 p5 => q1 σ5 F5 O5 f5 a5 (s14.trans s5) (p14.trans p5)
          · cases h2
        · cases h2
  · cases h
end
section
variable {K : PySem.W.Frag} {X : Cx} {pos : Pos} {pn : List Nat} {tg : Expr} {gg : TG} {g : Tg} {wi : TI} {it : It} {ts : WX → TS} {s : SX}
theorem PI.nox {tg iter : Expr} {wi : TI} (h : PI X.nox tg iter wi) : PI X tg iter wi := ⟨fun pins s σ H R I hw =>
  wpAny_mono (h.run pins s σ H R (I.wish _) hw) (fun v s1 q => wpAny_mono q (fun itv s2 ⟨it, fp, tn, J, H', e, I', T, z1, z2, z3⟩ => ⟨it, fp, tn, J, H', e, I'.unwish, T, z1, fun b hb => z2 b hb, z3⟩) fun _ _ z => False.elim z) fun _ _ z => False.elim z⟩
theorem yFor {iter : Expr} {body : List Stmt} (hi : SI K X.nox tg iter wi it) (hg : SG K X.nox pn tg gg g) (hb : SYs K X pn body ts s) (hc : X.calm = true := by rfl) (hs : ∀ x, foldedSetIterable iter X.env x = pure x := by intro _; rfl) :
    SY K X pn (.For tg iter body [] pos) (fun W => tFor wi gg (ts W)) (kFor it g s) := by
  cases hi.k
  exact ⟨fun W t po => ps_for po hc (PI.nox hi.p) (PG.nox hg.p) (hb.p W t po) hs, fun W => sKFor hi.s hg.s (hb.s W), rfl⟩
end
end LP
set_option maxRecDepth 100000
/-! LP: x[j].append(e), x[j][k] = e. -/
namespace LP
open PySem L2
section
variable {K : PySem.W.Frag} {X : Cx} {F O F' O' F1 O1 F2 O2 : Hp} {σ : L2.St} {env env' : Env} {f f1 f2 fp fp1 fp2 : List Addr} {pn : List Nat}
end
end LP
namespace LP
open PySem L2
section
variable {K : PySem.W.Frag} {X : Cx} {a b : Expr} {te : TE} {ea : Ev} {pos p2 p3 p5 p6 : Pos} {pn : List Nat}
end
end LP
set_option maxRecDepth 100000
/-! LP: sorted(set(texts)). -/
namespace STx
open PySem PySem.Spec PyProof.Rows L2 Froz
/-- the payload D holds just the texts l, unlike, and can be walked -/
structure Good (P : Program) (w : World) (D : SD) (l : List Str) : Prop where
  ok : TxOk P w D l
  nd : l.Nodup
  ris : Ris D.2.2.place.toList
  led : w.params.followText "set-order" = true ∨ D.2.2.led = true
section
variable {P : Program} {w : World} {A : Around} {E : Value → Shared → Prop} {s : Shared} {D : SD} {l : List Str} {k : Str} {u : Tok}
theorem tail_rl {Z : Prop} {ep : Nat} {es : Array (Int × Value)} {t : SetTable} {b : Bool} (r : Ris t.place.toList) (z : Z ∨ t.led = true) :
    Ris (tailTx ep es t b).2.2.place.toList ∧ (Z ∨ (tailTx ep es t b).2.2.led = true) := by
  unfold tailTx
  by_cases c : (!b && t.tooFull) = true
  · rw [if_pos c]
    refine ⟨relayAll_ris t es _, z.imp id fun y => ?_⟩
    show (relayAll t es _).2.1.led = true
    rw [relayAll_led]
    exact y
  · rw [if_neg c]
    exact ⟨r, z⟩
theorem Good.add (G : Good P w D l) (hk : k ∉ l) : Good P w (addTx (hashStr w k) (.str k u) D) (k :: l) := by
  have r := layNew_ris D.2.2 D.1 (hashStr w k) (.str k u) G.ris
  have z : w.params.followText "set-order" = true ∨ (layNew D.2.2 D.1 (hashStr w k) (.str k u)).2.1.led = true := by
    rw [layNew_led]
    exact G.led
  have q : Ris (addTx (hashStr w k) (.str k u) D).2.2.place.toList ∧ (w.params.followText "set-order" = true ∨ (addTx (hashStr w k) (.str k u) D).2.2.led = true) := by
    unfold addTx
    refine tail_rl ?_ ?_
    · split <;> exact r
    · split <;> exact z
  exact ⟨add_ok u G.ok, List.nodup_cons.mpr ⟨hk, G.nd⟩, q.1, q.2⟩
/-- a text that is there is added again -/
theorem dup_x {a : Addr} {T : String} {Q : Bool → Shared → Prop} (ho : s.heap.get? a = some (sObj T D)) (G : TxOk P w D l) (hk : k ∈ l) (hb : l.length < scanBound) (h : Q false s) :
    wpAny (model P w) A (setAddHashed a (.str k u) (hashStr w k)) Q E s := by
  obtain ⟨es, ep, t⟩ := D
  have e0 : (sObj T (es, ep, t)).data = .set es ep t := rfl
  have e1 : es.size < scanBound := by have := G.sz; simp only at this; omega
  obtain ⟨e, he, q⟩ := (G.mem k).mp hk
  unfold setAddHashed setAddHashedIn
  refine wpAny_holding (wpAny_bind (wpAny_setState_of ho e0 G.fit ?_))
  dsimp only
  rw [byScan_of rfl e1 G.el]
  simp only [↓reduceIte]
  unfold setAddByScan
  refine wpAny_bind (wpAny_bind (wpAny_rule (wpAny_bind (wpAny_setScan_of (knd := strKind P w) (k := k) (is_str k u) ho e0 G.fit G.el ?_))))
  cases hf : List.findIdx? (fun e => (strKind P w).is k e.2) es.toList with
  | none =>
    have c := List.findIdx?_eq_none_iff.mp hf e he
    rw [q] at c
    cases c
  | some j =>
    dsimp only
    exact wpAny_pure (wpAny_pure h)
end
section
variable {P : Program} {w : World} {A : Around}
theorem upd_loop {I : Addr} {fp wr : List Addr} {G : Array GenState → Array GenState → Prop} {n : Nat} {Pv : Nat → Value → Prop} {St : Nat → Shared → Prop} {R : Result → Shared → Prop}
    (W : WalksS P w A.in1 I fp wr G n Pv St) (S : Addr) (hSf : S ∉ fp) (xs : List Str) (hn : n = xs.length) (hb : xs.length + 1 < scanBound) (hval : ∀ i v, Pv i v → ∃ k t, xs[i]? = some k ∧ v = .str k t) :
    ∀ (m i : Nat) (s : Shared) (D : SD) (l : List Str), n - i = m → i ≤ n → St i s → s.heap.get? S = some (sObj "set" D) → Good P w D l → l.length ≤ i → (∀ x, x ∈ l ↔ x ∈ xs.take i) →
      (∀ s' D' l', Moved (S :: wr) G s s' → s'.heap.get? S = some (sObj "set" D') → Good P w D' l' → l'.length ≤ n → (∀ x, x ∈ l' ↔ x ∈ xs) → R (.ok (.ret .none)) s') →
      codeAny (model P w) A (.builtin "set.update.loop" ⟨[.ref S, .ref I], []⟩) R s := by
  have nw : S ∉ wr := fun z => hSf (W.sub _ z)
  have sb : ∀ b ∈ wr, b ∈ S :: wr := fun b z => List.mem_cons_of_mem _ z
  intro m
  induction m with
  | zero =>
    intro i s D l hm hi hst ho g hl hx hR
    obtain rfl : i = n := by omega
    refine codeAny_builtin F.entry_set_update_loop ?_
    rw [Around.under_plainId F.plain_set_update_loop _]
    show wpAny _ A.in1 (pyNext (.ref I) >>= _) _ _ s
    refine wpAny_bind (W.done s _ _ hst fun s' mv => ?_)
    show wpAny _ A.in1 (ret Value.none) _ _ s'
    refine wpAny_pure (hR s' D l (mv.mono sb) (mv.heap S _ nw ho) g hl fun x => ?_)
    rw [hx x, List.take_of_length_le (by omega)]
  | succ m ih =>
    intro i s D l hm hi hst ho g hl hx hR
    have lt : i < n := by omega
    refine codeAny_builtin F.entry_set_update_loop ?_
    rw [Around.under_plainId F.plain_set_update_loop _]
    show wpAny _ A.in1 (pyNext (.ref I) >>= _) _ _ s
    refine wpAny_bind (W.item i s _ _ lt hst fun v s' hP hst' mv => ?_)
    obtain ⟨z, t, hz, rfl⟩ := hval i v hP
    have ho' := mv.heap S _ nw ho
    show wpAny _ A.in1 (holding [Value.str z t] (setAdd S (.str z t)) >>= _) _ _ s'
    refine wpAny_bind (wpAny_holding ?_)
    unfold setAdd
    refine wpAny_holding ?_
    refine wpAny_bind ((PySem.strKind P w).pyHash (k := z) (strKind_is _ _ _ _) ?_)
    have tk : xs.take (i + 1) = xs.take i ++ [z] := by rw [List.take_add_one, hz] <;> rfl
    have go : ∀ (h' : Heap) (D' : SD) (l' : List Str), (∀ b, b ≠ S → h'.get? b = s'.heap.get? b) → h'.get? S = some (sObj "set" D') → Good P w D' l' → l'.length ≤ i + 1 → (∀ x, x ∈ l' ↔ x ∈ xs.take (i + 1)) →
        codeAny (model P w) A (.builtin "set.update.loop" ⟨[.ref S, .ref I], []⟩) R { s' with heap := h', toks := s'.toks + 1 } := fun h' D' l' k1 k2 k3 k4 k5 => by
      refine ih (i + 1) _ D' l' (by omega) lt (W.frame _ s' _ _ hst' (Nat.le_succ _) fun b hb o e => ?_) k2 k3 k4 k5 fun s2 D2 l2 m2 => ?_
      · rw [k1 b fun h : b = S => hSf (h ▸ hb)]
        exact e
      · refine hR s2 D2 l2 (Moved.trans W.gtrans ((mv.mono sb).then_heap (Nat.le_succ _) fun b o hb e => ?_) m2)
        rw [k1 b fun h : b = S => hb (h ▸ List.mem_cons_self)]
        exact e
    by_cases hk : z ∈ l
    · refine dup_x (s := { s' with toks := s'.toks + 1 }) ho' g.ok hk (by omega) ?_
      refine wpAny_pure ⟨plainId_quiet F.plain_set_update_loop _, go s'.heap D l (fun _ _ => rfl) ho' g (by omega) fun x => ?_⟩
      rw [tk, hx x, List.mem_append, List.mem_singleton]
      exact ⟨.inl, fun y => y.elim id fun y => y ▸ (hx z).mp hk⟩
    · refine add_x (s := { s' with toks := s'.toks + 1 }) ho' g.ok hk (by omega) ?_
      refine wpAny_pure ⟨plainId_quiet F.plain_set_update_loop _, go _ _ (z :: l) (fun b hb => Heap.get?_update_other _ _ (Ne.symm hb)) (get_upd _ ho' rfl) (g.add hk) (by rw [List.length_cons]; omega) fun x => ?_⟩
      rw [tk, List.mem_cons, hx x, List.mem_append, List.mem_singleton]
      exact Or.comm
end
end STx
namespace STx
open PySem PySem.Spec PyProof.Rows L2 Froz
section
variable {P : Program} {w : World} {A : Around} {E : Value → Shared → Prop} {s : Shared}
def new0 (w : World) : SD := (#[], 0, .fresh 0 0 (!w.params.followText "set-order"))
theorem good0 : Good P w (new0 w) [] := by
  refine ⟨TxOk.nil (by rfl), List.nodup_nil, List.Pairwise.nil, ?_⟩
  show _ ∨ (!w.params.followText "set-order") = true
  cases w.params.followText "set-order"
  · exact .inr rfl
  · exact .inl rfl
set_option maxHeartbeats 3200000 in
theorem call_set_txt {l : Addr} {items : Array Value} (xs : List Str) {Q : Value → Shared → Prop} (hh : A.handled = none) (hl : s.heap.IsList l items) (hit : StrsAre items.toList xs) (hb : xs.length + 1 < scanBound)
    (h : ∀ (h' : Heap) (tk : Nat) (D : SD) (L : List Str), h'.get? s.heap.objs.size = some (sObj "set" D) → Good P w D L → L.length ≤ xs.length → (∀ x, x ∈ L ↔ x ∈ xs) → (∀ b o, s.heap.get? b = some o → h'.get? b = some o) →
      Q (.ref s.heap.objs.size) { s with heap := h', toks := tk }) :
    wpAny (model P w) A (call (.type "set") [.ref l]) Q E s := by
  have isz : items.size = xs.length := by rw [← StrsAre.len_eq hit, Array.length_toList]
  obtain ⟨c1, c2, q1⟩ := F.called_set.mro
  have q2 := F.called_set.made
  have q3 := F.called_set.sub
  refine wpAny_call (codeAny_of_tree ?_)
  show wpAny _ _ (callAny (.type "set") _) _ _ _
  refine wpAny_pure ⟨Code.quiet_builtin _ (by decide +kernel), codeAny_builtin F.entry_type_call ?_⟩
  rw [Around.under_plain (weight_type_call_type "set" [.ref l] []) rfl]
  have q4 := F.called_set.notType
  have q5 := F.called_set.canCreate
  have q6 := F.typeCall_set_1 (.ref l)
  repeat (any_goals (first | assumption | wp_step))

  refine codeAny_mono (code_set_led1 (.ref l) (E := E) (Q₁ := fun v s₁ => v = .ref s.heap.objs.size ∧ s₁ = { s with heap := s.heap.push (sObj "set" (new0 w)) }) ⟨rfl, rfl⟩) fun r s₁ hr => ?_
  cases r with
  | error e => exact hr
  | ok fl =>
    cases fl with
    | ret obj =>
      obtain ⟨rfl, rfl⟩ := hr
      have hS : (s.heap.push (sObj "set" (new0 w))).get? s.heap.objs.size = some (sObj "set" (new0 w)) := Heap.get?_push_size _ rfl
      have hT : Shared.TypeIs { s with heap := s.heap.push (sObj "set" (new0 w)) } (.ref s.heap.objs.size) "set" := ⟨_, hS, rfl⟩
      have q7 := F.called_set.init.lookup
      have q8 := F.called_set.init.bind (.ref s.heap.objs.size)
      repeat (any_goals (first | assumption | wp_step))

      refine codeAny_mono (codeAny_call_builtin (R := wants (fun r s₂ => r = .none ∧ ∃ h' tk D L, s₂ = { s with heap := h', toks := tk } ∧ h'.get? s.heap.objs.size = some (sObj "set" D) ∧ Good P w D L ∧ L.length ≤ xs.length ∧ (∀ x, x ∈ L ↔ x ∈ xs) ∧
          (∀ b o, s.heap.get? b = some o → h'.get? b = some o)) E) F.called_set.init.plain F.entry_set_init (check_set_init_1 hT ?_)) fun r₂ s₂ hr₂ => ?_
      · obtain ⟨ol, hol, hcl, nl, hdl⟩ := hl
        obtain ⟨ocls, odict, odata, oslots⟩ := ol
        simp only at hcl hdl
        subst hcl; subst hdl
        have hol' : (s.heap.push (sObj "set" (new0 w))).get? l = some { cls := .type "list", dict := odict, data := .seq items nl, slots := oslots } := Heap.get?_push_of_some _ hol
        have n1 := F.sub_list_set
        have n2 := F.sub_list_frozenset
        have n3 : (Value.type "list" == Value.type "dict") = false := by decide
        have hl1 : (s.heap.push (sObj "set" (new0 w))).IsList l items := ⟨_, hol', rfl, nl, rfl⟩
        unfold Builtin.«set.__init__» noKeywords Builtin.Frozenset.updateFrom
        generalize hPI : pyIter = PI
        wp_walk
        subst hPI

        refine wpAny_pyIter_list hl1 ?_
        refine wpAny_bind (wpAny_runValue ?_)
        have ll : l < s.heap.objs.size := Heap.lt_size hol
        have hh3 : A.in1.in1.in1.handled = none := by simp [hh]
        have sz1 : (s.heap.push (sObj "set" (new0 w))).objs.size = s.heap.objs.size + 1 := Heap.size_push ..
        have nI : l ≠ (s.heap.push (sObj "set" (new0 w))).objs.size := by rw [sz1]; exact Nat.ne_of_lt (Nat.lt_succ_of_lt ll)
        have nS : s.heap.objs.size ∉ [(s.heap.push (sObj "set" (new0 w))).objs.size, l] := by
          rw [sz1]
          intro z
          rcases List.mem_cons.mp z with z | z
          · exact absurd z (Nat.ne_of_lt (Nat.lt_succ_self s.heap.objs.size))
          · have z2 := List.mem_singleton.mp z
            rw [← z2] at ll
            exact Nat.lt_irrefl _ ll
        have hval : ∀ (i : Nat) (v : Value), items[i]? = some v → ∃ k t, xs[i]? = some k ∧ v = .str k t := fun i v hv => by
          have hi : i < xs.length := by rw [← isz]; exact (Array.getElem?_eq_some_iff.mp hv).1
          obtain ⟨t, e⟩ := SS.strs_at hit i v (by rw [Array.getElem?_toList]; exact hv)
          refine ⟨xs[i], t, List.getElem?_eq_getElem hi, ?_⟩
          rw [e, List.getD_eq_getElem?_getD, List.getElem?_eq_getElem hi] <;> rfl
        refine upd_loop ((Walks.list hh3 _ l nI items).toS) s.heap.objs.size nS xs isz hb hval (items.size - 0) 0 _ (new0 w) [] (by omega) (Nat.zero_le _)
          ⟨⟨_, Heap.get?_push_size _ rfl, rfl, rfl⟩, (hl1.push _)⟩ (Heap.get?_push_of_some _ hS) good0 (Nat.le_refl _) (fun x => by simp) fun s' D' L' mv hS' g' hl' hx' => ?_
        obtain ⟨h', g2, d', tk', os'⟩ := s'
        have eg : g2 = s.gens := mv.gens
        have ed : d' = s.drawn := mv.drawn
        have eo : os' = s.os := mv.os
        subst eg; subst ed; subst eo
        show wpAny _ _ _ _ _ _
        refine wpAny_pure ?_
        show wpAny _ _ (ret Value.none) _ _ _
        refine wpAny_pure ⟨rfl, h', tk', D', L', rfl, hS', g', by rw [← isz]; exact hl', hx', fun b o e => ?_⟩
        have b0 : b < s.heap.objs.size := Heap.lt_size e
        refine mv.heap b o (fun z => ?_) (Heap.get?_push_of_some _ (Heap.get?_push_of_some _ e))
        rcases List.mem_cons.mp z with z | z
        · rw [z] at b0
          exact Nat.lt_irrefl _ b0
        · have z2 := List.mem_singleton.mp z
          rw [sz1] at z2
          rw [z2] at b0
          exact Nat.not_succ_lt_self b0

      · cases r₂ with
        | error e => exact hr₂
        | ok fl₂ =>
          cases fl₂ with
          | ret r =>
            obtain ⟨rfl, h', tk, D', L', rfl, a1, a2, a3, a4, a5⟩ := hr₂
            repeat (any_goals (first | assumption | wp_step))
            exact h _ _ _ _ a1 a2 a3 a4 a5
          | _ => exact hr₂.elim
    | _ => exact hr.elim
end
end STx
namespace L2
open PySem PySem.Spec PyProof.Rows
section
variable {X : Cx} {a : Expr} {ta : TE} {p p2 q pos : Pos}
end
end L2
namespace LP
open PySem L2
/-- all texts -/
def strsL : List T → Option (List Str)
  | [] => some []
  | .str i :: r => match strsL r with
    | some ns => some (i :: ns)
    | none => none
  | _ :: _ => none
theorem strsL_map (ns : List Str) : strsL (ns.map T.str) = some ns := by
  induction ns with
  | nil => rfl
  | cons n r ih => simp only [List.map_cons, strsL, ih]
theorem strsL_eq : ∀ {ts : List T} {ns : List Str}, strsL ts = some ns → ts = ns.map T.str
  | [], ns, h => by cases h; rfl
  | t :: r, ns, h => by
    cases t with
    | str i =>
      simp only [strsL] at h
      split at h
      · next ms hm =>
        cases h
        rw [strsL_eq hm]
        rfl
      · cases h
    | _ => cases h
section
variable {K : PySem.W.Frag} {F O : Hp}
theorem rls_strs : ∀ {vs : List V} {ss : List Str} {f : List Addr}, Rls K F O vs (ss.map T.str) f → vs = ss.map V.str
  | _, [], _, h => by cases h; rfl
  | _, s :: r, _, h => by
    cases h with
    | cons h1 h2 =>
      cases h1
      rw [rls_strs h2]
      rfl
/-- the texts, sorted, each once -/
def insU (x : Str) : List Str → List Str
  | [] => [x]
  | y :: r => if SrtS.sLt x y then x :: y :: r else if x = y then y :: r else y :: insU x r
def setS : List Str → List Str
  | [] => []
  | x :: r => insU x (setS r)
theorem mem_insU (x k : Str) : ∀ l, k ∈ insU x l ↔ k = x ∨ k ∈ l
  | [] => by simp [insU]
  | y :: r => by
    unfold insU
    split
    · simp
    · split
      · next h => subst h; simp
      · rw [List.mem_cons, mem_insU x k r, List.mem_cons]
        exact ⟨fun h => by rcases h with h | h | h <;> simp [h], fun h => by rcases h with h | h | h <;> simp [h]⟩
theorem mem_setS (k : Str) : ∀ l, k ∈ setS l ↔ k ∈ l
  | [] => by simp [setS]
  | x :: r => by rw [setS, mem_insU, mem_setS k r, List.mem_cons]
theorem insU_pw (x : Str) : ∀ {l}, l.Pairwise SrtS.sLt → (insU x l).Pairwise SrtS.sLt
  | [], _ => List.pairwise_singleton ..
  | y :: r, h => by
    obtain ⟨h1, h2⟩ := List.pairwise_cons.mp h
    unfold insU
    split
    · next c => exact List.pairwise_cons.mpr ⟨fun z hz => by
        rcases List.mem_cons.mp hz with rfl | hz
        · exact c
        · exact SrtS.sLt_tr c (h1 z hz), h⟩
    · next c =>
      split
      · exact h
      · next c2 =>
        refine List.pairwise_cons.mpr ⟨fun z hz => ?_, insU_pw x h2⟩
        rcases (mem_insU x z r).mp hz with rfl | hz
        · rcases SrtS.sLt_tri z y with q | q | q
          · exact absurd q c
          · exact absurd q c2
          · exact q
        · exact h1 z hz
theorem setS_pw : ∀ l, (setS l).Pairwise SrtS.sLt
  | [] => .nil
  | x :: r => insU_pw x (setS_pw r)
def sortSetT : List T → Option T
  | [.lst _ xs] => match strsL xs with
    | some ss => if ss.length < 64 then some (.lst true ((setS ss).map T.str)) else none
    | none => none
  | _ => none
@[simp] theorem sortSetT_map (o : Bool) (ss : List Str) (h : ss.length < 64) : sortSetT [.lst o (ss.map T.str)] = some (.lst true ((setS ss).map T.str)) := by
  simp [sortSetT, strsL_map, h]
end
section
variable {K : PySem.W.Frag} {X : Cx} {e : Expr} {te : TE} {ev : Ev} {pos p2 p3 p4 : Pos}
end
end LP
set_option maxRecDepth 100000
/-! LP: the signs of a text; d.get(k, x). -/
namespace LP
open PySem L2
def sgT (c : Nat) : T := .str ⟨#[c]⟩
def iSt (a : Ev) : It := fun env => match a env with
  | some (o, e) => match vw e o with
    | some (.str s) => some (s.cps.toList.map sgT, e)
    | _ => none
  | none => none
section
variable {K : PySem.W.Frag} {F O : Hp}
theorem yieldsS {x : Str} : Yields K (L2.Its x) F (x.cps.toList.map sgT) := by
  intro F' O' s d i
  refine ⟨fun t e => ?_, fun hl => ?_⟩
  · rw [List.getElem?_map] at e
    have hi : i < x.cps.size := by
      cases h : x.cps.toList[i]? with
      | none => rw [h] at e; cases e
      | some c => exact (by simpa using (List.getElem?_eq_some_iff.mp h).1)
    refine ⟨hi, fun v H' y => ?_⟩
    obtain ⟨rfl, c, hc, rfl⟩ := y
    rw [Array.getElem?_toList, hc] at e
    cases e
    exact ⟨F', O', rfl, d, Stp.refl, .str _⟩
  · rw [List.length_map, Array.length_toList] at hl
    exact hl
theorem wStr {ta : TE} {a : Ev} (ha : ESnd K ta a) : WSnd K (L2.iStr ta) (iSt a) := by
  intro env items env' h σ F O f a0 R q
  simp only [iSt] at h
  split at h
  · next o e h1 =>
    split at h
    · next xs hx =>
      cases h
      refine ha _ _ _ h1 σ F O f a0 _ fun v F1 O1 fp1 f1 a1 s1 r1 => ?_
      obtain ⟨g1, w1, _⟩ := r1.view a1.e hx
      cases w1
      exact ⟨_, rfl, q _ F1 O1 f1 a1.only s1.snd yieldsS⟩
    · cases h
  · cases h
end
section
variable {K : PySem.W.Frag} {X : Cx} {tg e : Expr} {te : TE} {ev : Ev} {pos p1 p2 p3 p4 : Pos}
theorem iStr_ (h : SE K X e te ev) : SI K X tg e (L2.iStr te) (iSt ev) := by
  cases h.k
  exact ⟨pi_str h.p, wStr h.s, rfl⟩
@[simp] theorem iSt_def (a : Ev) (env : Env) : iSt a env = (a env).bind fun p => match vw p.2 p.1 with
    | some (.str s) => some (s.cps.toList.map sgT, p.2)
    | _ => none := by
  unfold iSt
  cases a env with
  | none => rfl
  | some p => rfl
end
end LP
namespace LP
open PySem L2
/-- a divisor below 2 ^ 9000 -/
noncomputable def okDv (j : Int) : Bool := Classical.choose (⟨decide (0 < j ∧ j.natAbs.log2 < 9000), rfl⟩ : ∃ b : Bool, b = decide (0 < j ∧ j.natAbs.log2 < 9000))
noncomputable def divWT := opI fun i j => if okDv j then some (i / j) else none
section
variable {K : PySem.W.Frag} {X : Cx} {a b : Expr} {ta tb : TE} {ea eb : Ev} {pos : Pos}
end
@[simp] theorem divWT_ints (i j : Int) (h : okDv j = true) : divWT (.int i) (.int j) = some (.int (i / j)) := by
  simp [divWT, opI, h]
end LP
namespace LP
open PySem L2
section
variable {P : Program} {w : World} {K : PySem.W.Frag} {mg : Str → Option Value} {base : Heap}
end
end LP
namespace LP
open PySem L2
section
variable {K : PySem.W.Frag} {X : Cx} {e : Expr} {te : TE} {ev : Ev}
end
end LP
namespace LP
open PySem L2
section
variable {K : PySem.W.Frag} {X : Cx} {a b c e : Expr} {es : List Expr} {ta tb tc te : TE} {tas : TA} {ea eb ec ev : Ev} {eas : Ea} {tt tu : TT} {et eu : Et} {pos p2 p3 : Pos} {pn : List Nat} {tg : Expr} {tgs : List Expr} {gg : TG} {ggs : TGs} {g : Tg} {gs : Tgs} {wi : TI} {it : It}
end
end LP
set_option maxRecDepth 100000
/-! LP: min, max of tuples of ints. -/
namespace LP
open PySem L2
def lexI : List Int → List Int → Bool
  | [], [] => false
  | [], _ :: _ => true
  | _ :: _, [] => false
  | x :: r, y :: t => decide (x < y) || (!decide (y < x) && lexI r t)
/-- the first of the least, of the greatest -/
def bestI (mx : Bool) (p : List Int) (ps : List (List Int)) : List Int := ps.foldl (fun a y => if (if mx = true then lexI a y else lexI y a) = true then y else a) p
section
variable {X : Cx}
end
def tI (ns : List Int) : T := .tup false (ns.map T.int)
def tupsI : List T → Option (List (List Int))
  | [] => some []
  | .tup false ts :: r => match intsL ts with
    | some ns => match tupsI r with
      | some ps => some (ns :: ps)
      | none => none
    | none => none
  | _ :: _ => none
def minTI (mx : Bool) : List T → Option T
  | [.lst _ xs] => match tupsI xs with
    | some (p :: ps) => some (tI (bestI mx p ps))
    | _ => none
  | _ => none
theorem intsL_map : ∀ ns : List Int, intsL (ns.map T.int) = some ns
  | [] => rfl
  | n :: r => by rw [List.map_cons, intsL, intsL_map r]
theorem tupsI_map : ∀ ps : List (List Int), tupsI (ps.map tI) = some ps
  | [] => rfl
  | p :: r => by
    rw [List.map_cons]
    unfold tI
    rw [tupsI, intsL_map p]
    have := tupsI_map r
    unfold tI at this
    rw [this]
@[simp] theorem minTI_map (mx o : Bool) (p : List Int) (ps : List (List Int)) : minTI mx [.lst o ((p :: ps).map tI)] = some (tI (bestI mx p ps)) := by
  rw [minTI, tupsI_map]
section
variable {K : PySem.W.Frag} {F O : Hp}
end
section
variable {K : PySem.W.Frag} {X : Cx} {e : Expr} {tas : TA} {eas : Ea} {pos p2 : Pos}
end
/-! a constant tuple of the module -/
def KTp (K : PySem.W.Frag) (a : Addr) (vs : List V) : Prop := ∃ (o : Obj) (its : Array Value) (n : Nat), (K.lookup a = some o ∧ o.cls = .type "tuple" ∧ o.dict = none) ∧ o.data = .seq its n ∧ its.size ≤ sizeLine ∧ Vals vs its.toList
theorem KTp.mk {K : PySem.W.Frag} {a : Addr} {vs : List V} {its : Array Value} {n : Nat} {sl : Array (Option Value)} (l : K.lookup a = some ⟨.type "tuple", none, .seq its n, sl⟩) (h : its.size ≤ 64) (rv : Vals vs its.toList) : KTp K a vs := ⟨_, its, n, ⟨l, rfl, rfl⟩, rfl, by rw [sizeLine_eq]; omega, rv⟩
theorem KTp.sq {K : PySem.W.Frag} {a : Addr} {vs : List V} (h : KTp K a vs) (H : Hp) : SqT K H a vs := by
  obtain ⟨o, its, n, ⟨h1, h2, h3⟩, h4, h5, h6⟩ := h
  exact .inr ⟨o, its, n, h1, h2, h4, h5, h6⟩
theorem xGT {K : PySem.W.Frag} {X : Cx} {pos : Pos} {x : Str} {vs : List V} {ts : List T} (hg : Gl X x) (hm : ∃ a, X.mg x = some (.ref a) ∧ KTp K a vs) (hr : ∀ F O, Rls K F O vs ts []) (hd : (x == ("__debug__" : Str)) = false := by decide) (hk : X.K = K := by rfl) : SE K X (.Name x pos) (tC (.ref hm.choose)) (cK (.tup false ts)) := by
  cases hk
  exact ⟨pe_glob hg hm.choose_spec.1 rfl hd, eK fun F O => .tupF (hm.choose_spec.2.sq F) (hr F O), rfl⟩
/-! for x in reversed(a list) -/
section
variable {K : PySem.W.Frag} {X : Cx} {F O : Hp} {tg : Expr} {a : Expr} {ta : TE} {ea : Ev} {p2 pos : Pos}
def iRvL (a : Ev) : It := fun env => match a env with
  | some (o, e) => match vw e o with
    | some (.lst false xs) => some (xs.reverse, e)
    | _ => none
  | none => none
@[simp] theorem iRvL_def (a : Ev) (env : Env) : iRvL a env = (a env).bind fun p => (vw p.2 p.1).bind fun t => match t with
    | .lst false xs => some (xs.reverse, p.2)
    | _ => none := by
  unfold iRvL
  cases a env with
  | none => rfl
  | some p =>
    simp only [Option.bind_some]
    cases vw p.2 p.1 with
    | none => rfl
    | some t => cases t with
      | lst o xs => cases o <;> rfl
      | _ => rfl
end
end LP
set_option maxRecDepth 100000
/-! LP: lists of ints compared, a tuple's index, reverse. -/
namespace LP
open PySem L2
section
variable {K : PySem.W.Frag} {X : Cx} {F O : Hp}
def geLT : T → T → Option T
  | .lst _ xs, .lst _ ys => match intsL xs, intsL ys with
    | some a, some b => some (.bl (!lexI a b))
    | _, _ => none
  | _, _ => none
@[simp] theorem geLT_ints (o p : Bool) (a b : List Int) : geLT (.lst o (a.map T.int)) (.lst p (b.map T.int)) = some (.bl (!lexI a b)) := by
  rw [geLT, intsL_map, intsL_map]
end
section
variable {K : PySem.W.Frag} {X : Cx} {a b : Expr} {ta tb : TE} {ea eb : Ev} {pos : Pos}
end
/-! t.index(x) -/
section
variable {K : PySem.W.Frag} {X : Cx} {F O : Hp}
def rTix (K : PySem.W.Frag) : V → List V → Hp → VK → Prop := fun x xs H Q => ∃ p, ∃ ys : List Str, ∃ z j, x = .ref p ∧ xs = [.str z] ∧ SqT K H p (ys.map V.str) ∧ ys[j]? = some z ∧ (∀ m, m < j → ys[m]? ≠ some z) ∧ Q (.int (j : Nat)) H
def fstAt (z : Str) : List Str → Option Nat
  | [] => none
  | y :: r => if y = z then some 0 else (fstAt z r).map (· + 1)
theorem fstAt_spec {z : Str} : ∀ {ys : List Str} {j : Nat}, fstAt z ys = some j → ys[j]? = some z ∧ ∀ m, m < j → ys[m]? ≠ some z
  | [], j, h => by cases h
  | y :: r, j, h => by
    rw [fstAt] at h
    split at h
    · next e =>
      cases h
      exact ⟨by rw [e]; rfl, fun m hm => by omega⟩
    · next e =>
      cases hr : fstAt z r with
      | none => rw [hr] at h; cases h
      | some i =>
        rw [hr] at h
        cases h
        obtain ⟨h1, h2⟩ := fstAt_spec hr
        refine ⟨by simpa using h1, fun m (hm : m < i + 1) => ?_⟩
        cases m with
        | zero =>
          intro w
          exact e (by simpa using w)
        | succ m =>
          have := h2 m (by omega)
          simpa using this
def tixT : T → T → Option T
  | .tup false xs, .str z => match strsL xs with
    | some ys => match fstAt z ys with
      | some j => some (.int (j : Nat))
      | none => none
    | none => none
  | _, _ => none
/-- k.index(e): k a tuple of texts that stays -/
def cTix (k : T) (a : Ev) : Ev := fun env => match a env with
  | some (o, e) => match vw e o with
    | some x => match tixT k x with
      | some t => some (.t t, e)
      | none => none
    | none => none
  | none => none
@[simp] theorem cTix_def (k : T) (a : Ev) (env : Env) : cTix k a env = (a env).bind fun p => (vw p.2 p.1).bind fun x => (tixT k x).bind fun t => some (.t t, p.2) := by
  unfold cTix
  cases a env with
  | none => rfl
  | some p =>
    simp only [Option.bind_some]
    cases vw p.2 p.1 with
    | none => rfl
    | some x => simp only [Option.bind_some]; cases tixT k x <;> rfl
theorem eTix {w : Addr} {ys : List Str} {ta : TE} {a : Ev} (hk : KTp K w (ys.map V.str)) (ha : ESnd K ta a) : ESnd K (tBM K "tuple" (rTix K) (tC (.ref w)) (tCons ta tNil)) (cTix (.tup false (ys.map T.str)) a) := by
  intro env o env' h σ F O f a0 Q q
  simp only [cTix] at h
  split at h
  · next o1 e1 h1 =>
    split at h
    · next x hx =>
      split at h
      · next t ht =>
        cases h
        have hq : ∀ H, SqT K H w (ys.map V.str) := hk.sq
        refine ⟨.inr (.inl ⟨rfl, by obtain ⟨o, its, n, h, _⟩ := hk; exact ⟨o, h⟩⟩), ?_⟩
        refine ha _ _ _ h1 σ F O f a0 _ fun v F1 O1 fp1 f1 a1 s1 r1 => ?_
        obtain ⟨g1, w1, _⟩ := r1.view a1.e hx
        unfold tixT at ht
        split at ht
        · next xs z he =>
          injection he with e1 e2
          subst e2
          rw [strsL_map] at ht
          simp only at ht
          split at ht
          · next j hj =>
            cases ht
            cases w1
            obtain ⟨j1, j2⟩ := fstAt_spec hj
            exact ⟨w, ys, z, j, rfl, rfl, hq _, j1, j2, q _ F1 O1 [] f1 (a1.only) s1.snd (.int _)⟩
          · cases ht
        · cases ht
      · cases h
    · cases h
  · cases h
theorem xTix {e : Expr} {te : TE} {ev : Ev} {p2 p3 pos : Pos} {x : Str} {ys : List Str} (hg : Gl X x) (hm : ∃ a, X.mg x = some (.ref a) ∧ KTp K a (ys.map V.str)) (ha : SE K X e te ev) (hd : (x == ("__debug__" : Str)) = false := by decide)
    (hst : starEach [e] X.env = (false, eval e X.env) :: starEach [] X.env := by rfl)
    (hbase : attributeBase (.Name x p2) "index" X.env (eval (.Name x p2) X.env) = eval (.Name x p2) X.env := by rfl)
    (hfew : ((backTo pos (starEach [e] X.env)).all (fun x => !x.1) && (backToKw pos (keywordEach [] X.env)).all (fun x => x.1.isSome) && decide ([e].length + ([] : List Keyword).length + (if ([] : List Keyword).isEmpty then 0 else 1) < 30)) = true := by rfl)
    (hline : (p3.endLine == pos.line) = true := by rfl) :
    SE K X (.Call (.Attribute (.Name x p2) "index" p3) [e] [] pos) (tBM K "tuple" (rTix K) (tC (.ref hm.choose)) (tCons te tNil)) (cTix (.tup false (ys.map T.str)) ev) := by
  cases ha.k
  exact ⟨pe_bm PySem.F.plainAttrs_tuple PySem.F.slot_tuple_index PySem.F.type_tuple_index mt_tup_index (pe_glob hg hm.choose_spec.1 rfl hd) (pa_cons ha.p pa_nil hst) hbase hfew hline hst (by rfl), eTix hm.choose_spec.2 ha.s, rfl⟩
end
/-! x.reverse() -/
section
variable {K : PySem.W.Frag} {X : Cx} {F O : Hp}
def cRvs (i : Nat) : Ev := fun env => match env[i]? with
  | some (some (.lst true xs)) => some (.t .non, env.set i (some (.lst true xs.reverse)))
  | _ => none
@[simp] theorem cRvs_def (i : Nat) (env : Env) : cRvs i env = (ownL env i).bind fun xs => some (.t .non, env.set i (some (.lst true xs.reverse))) := by
  unfold cRvs
  split
  · next xs h => rw [at_ownL h]; rfl
  · next h => rw [at_nownL h]; rfl
end
end LP
set_option maxRecDepth 100000
/-! LP: paths of constant indices through owned lists and tuples: append and clear at their end. -/
namespace LP
open PySem L2
section
variable {K : PySem.W.Frag} {X : Cx} {F O F' O' F1 O1 F2 O2 : Hp} {σ : L2.St} {env env' : Env} {f f1 f2 fp fp1 fp2 : List Addr} {pn : List Nat}
theorem Rls.updAt2 : ∀ {vs : List V} {ts : List T} {f : List Addr} {j : Nat} {t : T}, Rls K F O vs ts f → ts[j]? = some t → ∃ (v : V) (g h : List Addr), vs[j]? = some v ∧ Rl K F O v t g ∧ (∀ a, g.count a + h.count a = f.count a) ∧
    ∀ (F' O' : Hp) (t' : T) (g' : List Addr), Same F F' → (∀ a ∈ h, ∀ o, O a = some o → O' a = some o) → Rl K F' O' v t' g' → ∃ f', Rls K F' O' vs (ts.set j t') f' ∧ ∀ a, f'.count a = g'.count a + h.count a
  | _, _, _, _, _, .nil, e => by simp at e
  | _, _, _, 0, t', .cons (v := v) (t := t0) (f := f0) (fs := fs) h r, e => by
    have e2 : t0 = t' := by simpa using e
    subst e2
    refine ⟨v, f0, fs, rfl, h, fun a => by rw [List.count_append], fun F' O' t' g' s k x => ⟨g' ++ fs, .cons x (r.mono s k), fun a => by rw [List.count_append]⟩⟩
  | _, _, _, j + 1, _, .cons (v := v) (t := t0) (f := f0) (fs := fs) h r, e => by
    obtain ⟨u, g, l, h1, h2, h3, h4⟩ := Rls.updAt2 (j := j) r (by simpa using e)
    refine ⟨u, g, f0 ++ l, by simpa using h1, h2, fun a => by have := h3 a; rw [List.count_append, List.count_append]; omega, fun F' O' t' g' s k x => ?_⟩
    obtain ⟨f', h5, h6⟩ := h4 F' O' t' g' s (fun a z => k a (List.mem_append_right _ z)) x
    exact ⟨f0 ++ f', .cons (h.mono s fun a z => k a (List.mem_append_left _ z)) h5, fun a => by have := h6 a; rw [List.count_append, List.count_append]; omega⟩
/-- along a path of constant indices -/
def gtP : T → List Int → Option T
  | t, [] => some t
  | t, j :: r => match kids t with
    | some ts => match ixN ts.length j with
      | some k => match ts[k]? with
        | some u => gtP u r
        | none => none
      | none => none
    | none => none
def stP : T → List Int → T → T
  | _, [], u => u
  | t, j :: r, u => match kids t with
    | some ts => match ixN ts.length j with
      | some k => match ts[k]? with
        | some x => rekid t (ts.set k (stP x r u))
        | none => t
      | none => t
    | none => t
def Wlk (H : Hp) : V → List Int → V → Prop
  | v, [], w => v = w
  | v, j :: r, w => ∃ p vs u, v = .ref p ∧ (H p = some (.lst vs) ∨ H p = some (.tup vs)) ∧ L2.atI vs j = some u ∧ Wlk H u r w
theorem Wlk.mono {H H' : Hp} (k : ∀ a o, H a = some o → H' a = some o) : ∀ {pth : List Int} {v w : V}, Wlk H v pth w → Wlk H' v pth w
  | [], _, _, h => h
  | _ :: _, _, _, ⟨p, vs, u, h1, h2, h3, h4⟩ => ⟨p, vs, u, h1, h2.imp (k _ _) (k _ _), h3, Wlk.mono k h4⟩
theorem Wlk.det {H : Hp} : ∀ {pth : List Int} {v w w' : V}, Wlk H v pth w → Wlk H v pth w' → w = w'
  | [], _, _, _, h, h' => h.symm.trans h'
  | _ :: _, _, _, _, ⟨p, vs, u, h1, h2, h3, h4⟩, ⟨p', vs', u', k1, k2, k3, k4⟩ => by
    rw [h1] at k1
    cases k1
    have : vs = vs' := by rcases h2 with h2 | h2 <;> rcases k2 with k2 | k2 <;> rw [h2] at k2 <;> cases k2 <;> rfl
    subst this
    rw [h3] at k3
    cases k3
    exact h4.det k4
theorem Wlk.snoc {H : Hp} : ∀ {pth : List Int} {v w : V} {j : Int}, Wlk H v (pth ++ [j]) w → ∃ p vs, Wlk H v pth (.ref p) ∧ (H p = some (.lst vs) ∨ H p = some (.tup vs)) ∧ L2.atI vs j = some w
  | [], _, _, _, ⟨p, vs, u, h1, h2, h3, h4⟩ => by
    cases (show u = _ from h4)
    exact ⟨p, vs, h1, h2, h3⟩
  | _ :: r, _, _, j, ⟨p, vs, u, h1, h2, h3, h4⟩ => by
    obtain ⟨q, ws, k1, k2, k3⟩ := Wlk.snoc (pth := r) h4
    exact ⟨q, ws, ⟨p, vs, u, h1, h2, h3, k1⟩, k2, k3⟩
theorem Rl.deep : ∀ {pth : List Int} {v : V} {t u : T} {f : List Addr}, Rl K F O v t f → gtP t pth = some u → ∃ (w : V) (g h : List Addr), Wlk O v pth w ∧ Rl K F O w u g ∧ (∀ a, g.count a + h.count a = f.count a) ∧
    ∀ (F' O' : Hp) (u' : T) (g' : List Addr), Same F F' → (∀ a ∈ h, ∀ o, O a = some o → O' a = some o) → Rl K F' O' w u' g' → ∃ f', Rl K F' O' v (stP t pth u') f' ∧ ∀ a, f'.count a = g'.count a + h.count a
  | [], v, t, u, f, r, e => by
    cases (Option.some.inj e : t = u)
    exact ⟨v, f, [], rfl, r, fun a => by rw [List.count_nil]; omega, fun F' O' u' g' s k x => ⟨g', x, fun a => by rw [List.count_nil]; omega⟩⟩
  | j :: pth, v, t, u, f, r, e => by
    unfold gtP at e
    split at e
    · next ts hk =>
      split at e
      · next k hi =>
        split at e
        · next x hx =>
          have core : ∀ (p : Addr) (vs : List V) (fs : List Addr), v = .ref p → f = p :: fs → (O p = some (.lst vs) ∨ O p = some (.tup vs)) → Rls K F O vs ts fs → (∀ (F' O' : Hp) (ts' : List T) (fs' : List Addr), O' p = O p → Rls K F' O' vs ts' fs' → Rl K F' O' (.ref p) (rekid t ts') (p :: fs')) →
              ∃ (w : V) (g h : List Addr), Wlk O v (j :: pth) w ∧ Rl K F O w u g ∧ (∀ a, g.count a + h.count a = f.count a) ∧
              ∀ (F' O' : Hp) (u' : T) (g' : List Addr), Same F F' → (∀ a ∈ h, ∀ o, O a = some o → O' a = some o) → Rl K F' O' w u' g' → ∃ f', Rl K F' O' v (stP t (j :: pth) u') f' ∧ ∀ a, f'.count a = g'.count a + h.count a := by
            intro p vs fs ev ef hp rs mk
            subst ev
            subst ef
            obtain ⟨v1, g1, h1, q1, q2, q3, q4⟩ := rs.updAt2 hx
            obtain ⟨w, g, h2, k1, k2, k3, k4⟩ := Rl.deep q2 e
            refine ⟨w, g, p :: (h1 ++ h2), ⟨p, vs, v1, rfl, hp, by unfold L2.atI; rw [rs.len, hi]; exact q1, k1⟩, k2, fun a => ?_, fun F' O' u' g' s k x => ?_⟩
            · have := q3 a
              have := k3 a
              rw [List.count_cons, List.count_cons, List.count_append]
              omega
            · obtain ⟨f1, z1, z2⟩ := k4 F' O' u' g' s (fun a z => k a (List.mem_cons_of_mem _ (List.mem_append_right _ z))) x
              obtain ⟨f2, z3, z4⟩ := q4 F' O' _ f1 s (fun a z => k a (List.mem_cons_of_mem _ (List.mem_append_left _ z))) z1
              refine ⟨p :: f2, ?_, fun a => ?_⟩
              · have hOp : O' p = O p := by
                  rcases hp with hp | hp <;> rw [hp] <;> exact k p (List.mem_cons_self ..) _ hp
                have := mk F' O' _ f2 hOp z3
                unfold stP
                rw [hk]
                simp only [hi, hx]
                exact this
              · have := z2 a
                have := z4 a
                rw [List.count_cons, List.count_cons, List.count_append]
                omega
          cases r with
          | lstO ho r => cases hk; exact core _ _ _ rfl rfl (.inl ho) r fun F' O' ts' fs' z x => .lstO (z.trans ho) x
          | tupO ho r => cases hk; exact core _ _ _ rfl rfl (.inr ho) r fun F' O' ts' fs' z x => .tupO (z.trans ho) x
          | _ => cases hk
        · cases e
      · cases e
    · cases e
/-- what a path's expression does -/
structure SPt (K : PySem.W.Frag) (X : Cx) (e : Expr) (te : TE) (i : Nat) (pth : List Int) : Prop where
  p : PE X e te
  s : ∀ {σ : L2.St} {H : Hp} {v w : V}, σ[i]? = some (some v) → Wlk H v pth w → ∀ Q : VK, Q w H → te σ H Q
  k : X.K = K := by rfl
structure SIxC (K : PySem.W.Frag) (X : Cx) (e : Expr) (te : TE) (j : Int) : Prop where
  p : PE X e te
  s : ∀ {σ : L2.St} {H : Hp} (Q : VK), Q (.int j) H → te σ H Q
  k : X.K = K := by rfl
/-- the list at the path's end is another: what is known then -/
theorem wrP {i : Nat} {pth : List Int} {t : T} {xs : List T} (a1 : At K σ F O env [] f) (e : env[i]? = some (some t)) (hg : gtP t pth = some (.lst true xs)) :
    ∃ v q ws gs, σ[i]? = some (some v) ∧ Wlk O v pth (.ref q) ∧ O q = some (.lst ws) ∧ Rls K F O ws xs gs ∧
      ∀ (ws' : List V) (xs' : List T) (gs' : List Addr), Rls K F O ws' xs' gs' → (∀ a, gs'.count a ≤ gs.count a) →
      ∃ f', At K σ F (upd O q (.lst ws')) (env.set i (some (stP t pth (.lst true xs')))) [] f' ∧ Stp F O f F (upd O q (.lst ws')) f' := by
  obtain ⟨v, _, h1, h2, _⟩ := a1.e.get e
  obtain ⟨fq, f0, h3, h4, h5⟩ := a1.e.upd h1 e
  obtain ⟨w, g, h, k1, k2, k3, k4⟩ := h3.deep hg
  cases k2 with
  | lstO ho rr =>
    next q ws gs =>
    refine ⟨v, q, ws, gs, h1, k1, ho, rr, fun ws' xs' gs' r' c => ?_⟩
    have n : ∀ a, ((if q = a then 1 else 0) + gs.count a + h.count a + f0.count a) ≤ 1 := fun a => by
      have n1 := a1.nd a
      have n2 := h4 a
      have n3 := k3 a
      rw [List.nil_append] at n1
      rw [List.count_cons] at n3
      by_cases z : q = a <;> simp [z] at n3 ⊢ <;> omega
    have zq := n q
    rw [if_pos rfl] at zq
    have np : ∀ {l : List Addr}, l.count q = 0 → ∀ a ∈ l, ∀ o, O a = some o → upd O q (.lst ws') a = some o := fun z a w o e => by
      rw [upd_ne fun y => by rw [y, mem_count] at w; omega]
      exact e
    have cq := c q
    obtain ⟨fs', s1, s2⟩ := k4 F (upd O q (.lst ws')) (.lst true xs') (q :: gs') (Same.refl F) (np (by omega)) (.lstO upd_same (r'.mono (Same.refl F) (np (by omega))))
    obtain ⟨f', h6, h7⟩ := h5 F (upd O q (.lst ws')) _ fs' (Same.refl F) (np (by omega)) s1
    have h8 : ∀ a, f'.count a = (if q = a then 1 else 0) + gs'.count a + h.count a + f0.count a := fun a => by
      have n1 := h7 a
      have n2 := s2 a
      rw [List.count_cons] at n2
      by_cases z : q = a <;> simp [z] at n2 ⊢ <;> omega
    have h9 : ∀ a, f.count a = (if q = a then 1 else 0) + gs.count a + h.count a + f0.count a := fun a => by
      have n2 := h4 a
      have n3 := k3 a
      rw [List.count_cons] at n3
      by_cases z : q = a <;> simp [z] at n3 ⊢ <;> omega
    refine ⟨f', ⟨a1.d.updO (a1.d.noF ho), h6, fun a => ?_⟩, ⟨Same.refl F, fun a o z e => ?_, fun a z => .inl ?_, fun a z => ?_⟩⟩
    · rw [List.nil_append]
      have := h8 a
      have := n a
      have := c a
      omega
    · rw [upd_ne fun y => z ?_]
      · exact e
      · rw [y, mem_count]
        have := h9 q
        rw [if_pos rfl] at this
        omega
    · rw [mem_count] at z ⊢
      have e1 := h8 a
      have e2 := h9 a
      have e3 := c a
      omega
    · rw [← upd_jn]
      by_cases w : a = q
      · rw [w, upd_same]; exact fun z => nomatch z
      · rw [upd_ne w]; exact z
theorem jnO_mono : ∀ a o, O a = some o → jn F O a = some o := fun _ _ h => jn_O h
/-- x[..][..].append(y), y plain -/
def cAppS (i : Nat) (pth : List Int) (a : Ev) : Ev := fun env => match env[i]? with
  | some (some t) => match gtP t pth with
    | some (.lst true xs) => match a (erE env) with
      | some (.t y, _) => if scT y = true ∧ xs.length < sizeLine then some (.t .non, env.set i (some (stP t pth (.lst true (xs ++ [y]))))) else none
      | _ => none
    | _ => none
  | _ => none
/-- x[..][..].append((c, d)), c and d constants -/
def cAppQ (i : Nat) (pth : List Int) (y : T) : Ev := fun env => match env[i]? with
  | some (some t) => match gtP t pth with
    | some (.lst true xs) => if xs.length < sizeLine then some (.t .non, env.set i (some (stP t pth (.lst true (xs ++ [y]))))) else none
    | _ => none
  | _ => none
theorem eAppQ {i : Nat} {pth : List Int} {e0 : Expr} {te : TE} {v1 v2 : V} {t1 t2 : T} (hp : SPt K X e0 te i pth) (g1 : ∀ F O, Rl K F O v1 t1 []) (g2 : ∀ F O, Rl K F O v2 t2 []) : ESnd K (tBM K "list" rAppend te (tCons (tTup (tCons (tC v1) (tCons (tC v2) tNil))) tNil)) (cAppQ i pth (.tup false [t1, t2])) := by
  intro env o env' h σ F O f a0 Q q
  unfold cAppQ at h
  split at h
  · next t ht =>
    split at h
    · next xs hx =>
      split at h
      · next hz =>
        cases h
        obtain ⟨v, q0, ws, gs, m1, m2, m3, m4, _⟩ := wrP a0 ht hx
        refine hp.s m1 (m2.mono jnO_mono) _ ⟨ty_l (jn_O m3), (show 2 ≤ sizeLine by decide), fun p' hp' => ?_⟩
        have sm : Same F (upd F p' (.tup [v1, v2])) := same_new (jn_none hp').1
        have a1 : At K σ (upd F p' (.tup [v1, v2])) O env [] f := ⟨a0.d.updF (jn_none hp').2, a0.e.mono sm fun _ _ _ e => e, a0.nd⟩
        obtain ⟨v', q2, ws2, gs2, n1, n2, n3, n4, w⟩ := wrP a1 ht hx
        rw [m1] at n1
        cases n1
        have eq : V.ref q0 = V.ref q2 := m2.det n2
        cases eq
        rw [upd_jnF (jn_none hp').2]
        refine ⟨q0, ws2, .ref p', rfl, rfl, jn_O n3, by rw [n4.len]; exact hz, ?_⟩
        rw [upd_jn]
        have rt : Rl K (upd F p' (.tup [v1, v2])) O (.ref p') (.tup false [t1, t2]) [] := .tupF (.inl (.inl upd_same)) (.cons (f := []) (fs := []) (g1 _ _) (.cons (f := []) (fs := []) (g2 _ _) .nil))
        obtain ⟨f', a2, s2⟩ := w (ws2 ++ [.ref p']) (xs ++ [.tup false [t1, t2]]) (gs2 ++ ([] ++ [])) (n4.append (.cons rt .nil)) fun a => by simp only [List.count_append, List.count_nil]; omega
        exact q .non _ _ [] f' a2 ((stp_new hp').trans s2) .non
      · cases h
    · cases h
  · cases h
/-- x[..][..].clear() -/
def cClrQ (i : Nat) (pth : List Int) : Ev := fun env => match env[i]? with
  | some (some t) => match gtP t pth with
    | some (.lst true _) => some (.t .non, env.set i (some (stP t pth (.lst true []))))
    | _ => none
  | _ => none
end
section
variable {K : PySem.W.Frag} {X : Cx} {a b e e2 : Expr} {ta tb te t2 : TE} {ea eb : Ev} {pos p2 p3 p5 p6 : Pos} {i : Nat} {pth : List Int}
theorem ptV {x : Str} (h : PE X (.Name x pos) (tVar i)) (hk : X.K = K := by rfl) : SPt K X (.Name x pos) (tVar i) i [] := by
  cases hk
  exact ⟨h, fun h1 h2 Q q => ⟨_, h1, by cases (h2 : _ = _); exact q⟩, rfl⟩
theorem icI {j : Int} {k : Nat} (hk : X.K = K := by rfl) : SIxC K X (.Constant (.int j) k pos) (tC (.int j)) j := by
  cases hk
  exact ⟨pe_int, fun Q q => q, rfl⟩
theorem ptIx {j : Int} (h : SPt K X e te i pth) (hj : SIxC K X e2 t2 j) (hp : ∀ c k, subscripted e2 false c k = operate [c, k] (getItem c k) := by intro _ _; rfl) : SPt K X (.Subscript e e2 pos) (tOp (rIx K) te t2) i (pth ++ [j]) := by
  cases h.k
  have h0 : SE X.K X e te (fun env => none) := ⟨h.p, fun env o env' h => (by cases h), rfl⟩
  have h1 : SE X.K X e2 t2 (fun env => none) := ⟨hj.p, fun env o env' h => (by cases h), rfl⟩
  refine ⟨(xIx h0 h1 hp).p, fun {σ H v w} hs hw Q q => ?_, rfl⟩
  obtain ⟨p, vs, k1, k2, k3⟩ := hw.snoc
  refine h.s hs k1 _ (hj.s _ ?_)
  rcases k2 with k2 | k2
  · exact .inl ⟨_, _, _, _, rfl, rfl, .inl (.inl k2), k3, q⟩
  · exact .inr (.inl ⟨_, _, _, _, rfl, rfl, .inl (.inl k2), k3, q⟩)
theorem xAppQ {v1 v2 : V} {t1 t2 : T} {k6 : Nat} (h : SPt K X e te i pth) (ha : SE K X a (tC v1) (cK t1)) (g1 : ∀ F O, Rl K F O v1 t1 []) (hb : SE K X b (tC v2) (cK t2)) (g2 : ∀ F O, Rl K F O v2 t2 [])
    (hs1 : starEach [b] X.env = (false, eval b X.env) :: starEach [] X.env := by rfl) (hs2 : starEach [a, b] X.env = (false, eval a X.env) :: starEach [b] X.env := by rfl)
    (hst : starEach [.Tuple [a, b] k6 p6] X.env = (false, eval (.Tuple [a, b] k6 p6) X.env) :: starEach [] X.env := by rfl)
    (hbase : attributeBase e "append" X.env (eval e X.env) = eval e X.env := by rfl)
    (hfew : ((backTo pos (starEach [.Tuple [a, b] k6 p6] X.env)).all (fun x => !x.1) && (backToKw pos (keywordEach [] X.env)).all (fun x => x.1.isSome) && decide ([Expr.Tuple [a, b] k6 p6].length + ([] : List Keyword).length + (if ([] : List Keyword).isEmpty then 0 else 1) < 30)) = true := by rfl)
    (hline : (p3.endLine == pos.line) = true := by rfl) :
    SE K X (.Call (.Attribute e "append" p3) [.Tuple [a, b] k6 p6] [] pos) (tBM K "list" rAppend te (tCons (tTup (tCons (tC v1) (tCons (tC v2) tNil))) tNil)) (cAppQ i pth (.tup false [t1, t2])) := by
  cases ha.k
  exact ⟨pe_bm PySem.F.plainAttrs_list PySem.F.slot_list_append PySem.F.type_list_append mt_append h.p (pa_cons (pe_tup (pa_cons ha.p (pa_cons hb.p pa_nil hs1) hs2)) pa_nil hst) hbase hfew hline hst (by rfl), eAppQ h g1 g2, rfl⟩
end
def pthL (t : T) (pth : List Int) : Option (List T) := match gtP t pth with
  | some (.lst true xs) => some xs
  | _ => none
def slotT (env : Env) (i : Nat) : Option T := match env[i]? with
  | some (some t) => some t
  | _ => none
@[simp] theorem cAppS_def (i : Nat) (pth : List Int) (a : Ev) (env : Env) : cAppS i pth a env = (slotT env i).bind fun t => (pthL t pth).bind fun xs => (a (erE env)).bind fun p => match p.1 with
    | .t y => if scT y = true ∧ xs.length < sizeLine then some (.t .non, env.set i (some (stP t pth (.lst true (xs ++ [y]))))) else none
    | _ => none := by
  unfold cAppS slotT pthL
  split
  · next t h =>
    simp only [h, Option.bind_some]
    split
    · next xs h2 =>
      simp only [h2, Option.bind_some]
      cases a (erE env) with
      | none => rfl
      | some p => obtain ⟨o, e⟩ := p; cases o <;> rfl
    · next h2 =>
      rfl
  · next h =>
    rfl
@[simp] theorem cAppQ_def (i : Nat) (pth : List Int) (y : T) (env : Env) : cAppQ i pth y env = (slotT env i).bind fun t => (pthL t pth).bind fun xs => if xs.length < sizeLine then some (.t .non, env.set i (some (stP t pth (.lst true (xs ++ [y]))))) else none := by
  unfold cAppQ slotT pthL
  split
  · next t h =>
    simp only [h, Option.bind_some]
    split
    · next xs h2 => simp only [h2, Option.bind_some]
    · next h2 =>
      rfl
  · next h =>
    rfl
@[simp] theorem cClrQ_def (i : Nat) (pth : List Int) (env : Env) : cClrQ i pth env = (slotT env i).bind fun t => (pthL t pth).bind fun xs => some (.t .non, env.set i (some (stP t pth (.lst true [])))) := by
  unfold cClrQ slotT pthL
  split
  · next t h =>
    simp only [h, Option.bind_some]
    split
    · next xs h2 => simp only [h2, Option.bind_some]
    · next h2 =>
      rfl
  · next h =>
    rfl
end LP
set_option maxRecDepth 100000
/-! LP: texts: sep.join, a text times an int, one sign in a text, len(set(texts)), split, int(text). -/
namespace L2
open PySem PySem.Spec PyProof.Rows
/-- a text so many times -/
def repS (a : Str) (k : Int) : Str := ⟨(List.replicate k.toNat a.cps).foldl (· ++ ·) #[]⟩
/-- len(set(xs)), xs a list of texts -/
def rLenSetT (K : PySem.W.Frag) : List V → Hp → VK → Prop := fun vs H Q => ∃ (l : Addr) (xs : List PySem.Str), vs = [.ref l] ∧ SqL K H l (xs.map V.str) ∧ xs.length < 64 ∧
  ∀ n : Nat, (∃ L : List PySem.Str, L.Nodup ∧ (∀ k, k ∈ L ↔ k ∈ xs) ∧ L.length = n) → Q (.int n) H
theorem pe_lenSetT {X : Cx} {a : Expr} {ta : TE} {p p2 q pos : Pos} (hc : X.calm = true) (hg : Gl X "len") (hm : X.mg "len" = none) (hg2 : Gl X "set") (hm2 : X.mg "set" = none) (ha : PE X a ta)
    (na : starEach [a] X.env = (false, eval a X.env) :: starEach [] X.env := by rfl) : PE X (.Call (.Name "len" p) [.Call (.Name "set" p2) [a] [] q] [] pos) (tCB (rLenSetT X.K) (tCons ta tNil)) := by
  refine ⟨fun pins s σ H Q I h => ?_⟩
  refine Call_ (ld_blt I hg hm boot_len ?_)
  refine PyProof.Rows.callWith_builtin1 (PyProof.Rows.args_cons ?_ rfl) rfl rfl
  refine Call_ (ld_blt I hg2 hm2 boot_set ?_)
  refine PyProof.Rows.callWith_type1 (PyProof.Rows.args_cons (thn (ha.run pins s σ H _ I h) fun v s1 ⟨x, H1, I1, r1, q1⟩ => PyProof.Rows.args_nil ?_) na) na rfl
  obtain ⟨l, xs, e, hq, h64, q1⟩ := q1
  cases e
  cases r1
  obtain ⟨its, r, pl, hz⟩ := I1.list hq
  refine STx.call_set_txt xs (I1.ok.hd hc) pl.isList (by simpa using strsAre_of r) (by unfold scanBound; omega) fun h' tk D L hD g hl hx kk => ?_
  refine PyProof.Rows.args_nil ?_
  have I2 : Inv X pins σ H1 { s1 with heap := h', toks := tk } := I1.kept fun b o e => kk b o e
  have hs := g.ok.sz
  refine call_len_set (es := D.1) (ep := D.2.1) (t := D.2.2) hD ⟨rfl, rfl, rfl⟩ rfl g.ok.fit (by rw [hs]; omega) ⟨.int L.length, H1, I2.tok _, ⟨_, by rw [hs]⟩, q1 L.length ⟨L, g.nd, hx, rfl⟩⟩
end L2
namespace LP
open PySem L2
/-! a text times an int -/
noncomputable def repST : T → T → Option T := fun a b => match a, b with
  | .str s, .int k => if okRep s.length k = true ∧ s.length * k.toNat ≤ 1000000 then some (.str (repS s k)) else none
  | _, _ => none
section
variable {K : PySem.W.Frag} {X : Cx} {a b : Expr} {ta tb : TE} {ea eb : Ev} {pos : Pos}
@[simp] theorem repST_def (s : Str) (k : Int) : repST (.str s) (.int k) = if okRep s.length k = true ∧ s.length * k.toNat ≤ 1000000 then some (.str (repS s k)) else none := rfl
/-! one sign in a text -/
def rNotInSg : R2 := fun x y H Q => ∃ (c : Nat) (z : Str), x = .str ⟨#[c]⟩ ∧ y = .str z ∧ Q (.bl (!decide (c ∈ z.cps.toList))) H
def inST (neg : Bool) : T → T → Option T
  | .str s, .str z => match s.cps.toList with
    | [c] => some (.bl (if neg = true then !decide (c ∈ z.cps.toList) else decide (c ∈ z.cps.toList)))
    | _ => none
  | _, _ => none
theorem sNotInS : OSnd2 K rNotInSg (inST true) := by
  intro F O x y a b fa fb t d ha hb e Q q
  unfold inST at e
  split at e
  · next s z =>
    split at e
    · next c hs =>
      cases e
      cases ha
      cases hb
      have es : s = ⟨#[c]⟩ := by
        cases s with
        | mk cps =>
          have : cps = #[c] := Array.toList_inj.mp hs
          rw [this]
      exact ⟨c, z, by rw [es], rfl, q.sc d (.bl _)⟩
    · cases e
  · cases e
theorem yNotInS (ha : SE K X a ta ea) (hb : SE K X b tb eb) (hm : behindInMarks .NotIn b = false) : ST K X (.Compare a [.NotIn] [b] pos) (tTest (tOp rNotInSg ta tb)) (cTest (cO2 (inST true) ea eb)) := by
  cases ha.k
  exact yCmp op_notIn_sign sNotInS ha hb hm
@[simp] theorem inST_one (neg : Bool) (c : Nat) (z : Str) : inST neg (.str ⟨#[c]⟩) (.str z) = some (.bl (if neg = true then !decide (c ∈ z.cps.toList) else decide (c ∈ z.cps.toList))) := rfl
/-! len(set(texts)) -/
def lenSetT : List T → Option T
  | [.lst _ xs] => match strsL xs with
    | some ss => if ss.length < 64 then some (.int ((setS ss).length : Nat)) else none
    | none => none
  | _ => none
theorem setS_nd (l : List Str) : (setS l).Nodup := (setS_pw l).imp fun h e => by rw [e] at h; exact SrtS.sLt_irr _ h
theorem sLenSet : OSndN K (rLenSetT K) lenSetT := by
  intro F O xs as fa t d ha e Q q
  unfold lenSetT at e
  split at e
  · split at e
    · next ss hp =>
      split at e
      · next h64 =>
        cases e
        obtain ⟨v, g, rfl, h⟩ := ha.one
        obtain ⟨p, vs, fs, rfl, h1, r1⟩ := h.lstv d
        rw [strsL_eq hp] at r1
        obtain rfl := rls_strs r1
        refine ⟨p, ss, rfl, .inl (.inl h1), h64, fun n ⟨L, nd, hm, hn⟩ => ?_⟩
        have pm : L.Perm (setS ss) := (List.perm_ext_iff_of_nodup nd (setS_nd ss)).mpr fun k => by rw [hm k, mem_setS]
        rw [← hn, pm.length_eq]
        exact q.sc d (.int _)
      · cases e
    · cases e
  · cases e
@[simp] theorem lenSetT_map (o : Bool) (ss : List Str) (h : ss.length < 64) : lenSetT [.lst o (ss.map T.str)] = some (.int ((setS ss).length : Nat)) := by
  simp [lenSetT, strsL_map, h]
end
section
variable {K : PySem.W.Frag} {X : Cx} {e : Expr} {te : TE} {ev : Ev} {pos p2 p3 p4 : Pos}
theorem xLenSet (hg : Gl X "len") (hm : X.mg "len" = none) (hg2 : Gl X "set") (hm2 : X.mg "set" = none) (ha : SE K X e te ev) (hc : X.calm = true := by rfl) (na : starEach [e] X.env = (false, eval e X.env) :: starEach [] X.env := by rfl) :
    SE K X (.Call (.Name "len" p2) [.Call (.Name "set" p3) [e] [] p4] [] pos) (tCB (rLenSetT K) (tCons te tNil)) (cON lenSetT (aCons ev aNil)) := by
  cases ha.k
  exact ⟨pe_lenSetT hc hg hm hg2 hm2 ha.p na, eON (eaCons ha.s eaNil) sLenSet, rfl⟩
end
/-! sep.join(xs) -/
def joinT (s : Str) : T → Option T
  | .lst _ xs => match strsL xs with
    | some ys => if (ys.map (·.length)).sum + ys.length * s.length ≤ 16777216 then some (.str (Txt.join s ys)) else none
    | none => none
  | _ => none
def cJoin (s : Str) (a : Ev) : Ev := cO1 (joinT s) a
@[simp] theorem joinT_map (s : Str) (o : Bool) (ys : List Str) : joinT s (.lst o (ys.map T.str)) = if (ys.map (·.length)).sum + ys.length * s.length ≤ 16777216 then some (.str (Txt.join s ys)) else none := by
  simp only [joinT, strsL_map]
section
variable {K : PySem.W.Frag} {X : Cx} {o e : Expr} {te : TE} {ev : Ev} {pos apos : Pos} {s : Str}
end
@[simp] theorem cJoin_def (s : Str) (a : Ev) (env : Env) : cJoin s a env = cO1 (joinT s) a env := rfl
/-! str(int) -/
def strI (i : Int) : Str := toString i
def strT : List T → Option T
  | [.int i] => if i.natAbs < 1000000000000 then some (.str (strI i)) else none
  | _ => none
section
variable {K : PySem.W.Frag} {X : Cx} {e : Expr} {tas : TA} {eas : Ea} {pos p2 : Pos}
end
@[simp] theorem strT_int (i : Int) : strT [.int i] = if i.natAbs < 1000000000000 then some (.str (strI i)) else none := rfl
end LP
set_option maxRecDepth 100000
/-! LP: try, except as: own = [.., ..]; own.append(..), and on behind it. -/
namespace LP
open PySem L2
def kTryF (a : SX) (R : Str) (i j : Nat) : S := fun env => match a env with
  | some (.ok o) => some o
  | some (.ex c e) => if c = R ∧ i < e.length ∧ j < e.length then some (.nx ((e.set i none).set j (some (.lst true [.bl true, .bl true, .bl false])))) else none
  | none => none
section
variable {K : PySem.W.Frag} {F O F' O' : Hp}
theorem RlE.wipeX : ∀ {σ : L2.St} {env : Env} {f : List Addr} {i : Nat} {x : Option V}, RlE K F O σ env f → ∃ f', RlE K F O (σ.set i x) (env.set i none) f' ∧ ∀ a, f'.count a ≤ f.count a
  | _, _, _, _, _, .nil => ⟨[], .nil, fun a => Nat.le_refl _⟩
  | _, _, _, 0, v, .non (fs := fs) r => ⟨fs, .non r, fun a => Nat.le_refl _⟩
  | _, _, _, i + 1, v, .non r => by
    obtain ⟨f', r', c⟩ := RlE.wipeX (i := i) (x := v) r
    exact ⟨f', .non r', c⟩
  | _, _, _, 0, v, .som (fs := fs) _ r => ⟨fs, .non r, fun a => by rw [List.count_append]; omega⟩
  | _, _, _, i + 1, v, .som (f := f0) h0 r => by
    obtain ⟨f', r', c⟩ := RlE.wipeX (i := i) (x := v) r
    exact ⟨f0 ++ f', .som h0 r', fun a => by rw [List.count_append, List.count_append]; have := c a; omega⟩
end
section
variable {K : PySem.W.Frag} {X : Cx} {C : Addr} {i j : Nat} {e1 e2 e3 : Expr} {te1 te2 te3 : Addr → TE} {pos p1 p2 p3 p4 p5 q1 q2 np pos' : Pos} {pn : List Nat} {n x mine R : Str} {c : Value} {body : List Stmt} {tb : WX → TS} {bx : SX}
theorem zTryF (hs : X.stack = X.env :: X.outer) (hf : X.env.frame = some X.env.locals) (hN : X.N.Nodup) (hi : X.N[i]? = some n) (hln : X.env.kindOf n = some .local) (hc : Names X x c) (hR : cvl X.mg R = .ref C) (hm : PySem.W.exmOne X.K (.ref C) c = some true) (ij : i ≠ j) (hip : i ∉ pn) (hjp : j ∉ pn)
    (hb : ∀ (pns : List (Addr × Obj)) (xe : Value → Shared → Prop), SYs K (X.tr pns xe) pn body tb bx)
    (g1 : ∀ a oe pns, PG (X.suite a ((a, oe) :: pns)) (.Name mine p1) (gName j)) (g2 : ∀ a oe pns, PE (X.suite a ((a, oe) :: pns)) (.Name mine p2) (tVar j))
    (v1 : VE X.K X C e1 (fun a σ => σ[i]? = some (some (.ref a))) te1 true) (v2 : VE X.K X C e2 (fun a σ => σ[i]? = some (some (.ref a))) te2 true) (v3 : VE X.K X C e3 (fun a σ => σ[i]? = some (some (.ref a))) te3 false)
    (s1 : swapsWithSole [.Name mine p1] (.List [e1, e2] p3) q1.line X.env = pure false := by rfl) (w1 : swappedStores [.Name mine p1] (.List [e1, e2] p3) X.env = pure none := by rfl) (a1 : (assignEach [.Name mine p1] X.env).map (·.2) = [assign (.Name mine p1) X.env] := by rfl)
    (hst1 : ∀ env, starEach [e1, e2] env = (false, eval e1 env) :: starEach [e2] env := by intro _; rfl) (hst2 : ∀ env, starEach [e2] env = (false, eval e2 env) :: starEach [] env := by intro _; rfl)
    (s2 : ∀ env, swapsWith (.Call (.Attribute (.Name mine p2) "append" p4) [e3] [] p5) none q2.line env = pure false := by intro _; rfl)
    (hst : ∀ env, starEach [e3] env = (false, eval e3 env) :: starEach [] env := by intro _; rfl)
    (hbase : ∀ a oe pns, attributeBase (.Name mine p2) "append" (X.suite a ((a, oe) :: pns)).env (eval (.Name mine p2) (X.suite a ((a, oe) :: pns)).env) = eval (.Name mine p2) (X.suite a ((a, oe) :: pns)).env := by intro _ _ _; rfl)
    (hfew : ∀ env, ((backTo p5 (starEach [e3] env)).all (fun x => !x.1) && (backToKw p5 (keywordEach [] env)).all (fun x => x.1.isSome) && decide ([e3].length + ([] : List Keyword).length + (if ([] : List Keyword).isEmpty then 0 else 1) < 30)) = true := by intro _; rfl)
    (hline : (p4.endLine == p5.line) = true := by rfl) :
    SS K X pn (.Try body [.ExceptHandler (some (.Name x np)) (some n) [.Assign [.Name mine p1] (.List [e1, e2] p3) q1, .Expr (.Call (.Attribute (.Name mine p2) "append" p4) [e3] [] p5) q2] pos'] [] [] pos)
      (fun D σ H => tb (wAs X.K c i (fun a cls d D σ H => (cls = .ref C ∧ d = none) ∧ tSeq (tAsg (tLst (tCons (te1 a) (tCons (te2 a) tNil))) (gName j)) (tDrop (tBM X.K "list" rAppend (tVar j) (tCons (te3 a) tNil))) D σ H) (fun _ _ _ _ => False) D) D σ H) (kTryF bx R i j) := by
  refine ⟨ps_try_as hs hf hN hi hln hc takes0 (fun W pns xe tk po => (hb pns xe).p W tk po) (fun a oe cls d pns hz hfl => ?_), ?_, (hb [] (fun _ _ => False)).k⟩
  · refine pss_pre fun ⟨ec, ed⟩ => ?_
    subst ec ed
    have k1 : PE (X.suite a ((a, oe) :: pns)) (.List [e1, e2] p3) (tLst (tCons (te1 a) (tCons (te2 a) tNil))) := pe_lst (pa_cons (v1.p a oe pns hz hfl) (pa_cons (v2.p a oe pns hz hfl) pa_nil (hst2 _)) (hst1 _))
    have k2 : PE (X.suite a ((a, oe) :: pns)) (.Call (.Attribute (.Name mine p2) "append" p4) [e3] [] p5) (tBM X.K "list" rAppend (tVar j) (tCons (te3 a) tNil)) :=
      pe_bm PySem.F.plainAttrs_list PySem.F.slot_list_append PySem.F.type_list_append mt_append (g2 a oe pns) (pa_cons (v3.p a oe pns hz hfl) pa_nil (hst _)) (hbase a oe pns) (hfew _) hline (hst _) (by rfl)
    exact pss_cons (ps_asg k1 (g1 a oe pns) s1 w1 a1) (pss_one (ps_expr k2 (s2 _)))
  · intro env out h σ F O f a0 D q
    refine (hb [] (fun _ _ => False)).s _ env _ (?_ : bx env = some ?o) σ F O f a0 D ?_
    case o => exact (bx env).getD (.ok (.nx env))
    · unfold kTryF at h
      cases hx : bx env with
      | none => rw [hx] at h; cases h
      | some o => rfl
    · unfold kTryF at h
      cases hx : bx env with
      | none => rw [hx] at h; cases h
      | some o =>
        rw [hx] at h
        cases o with
        | ok o =>
          cases h
          exact q
        | ex c' e =>
          simp only at h
          split at h
          · next hcc =>
            obtain ⟨rfl, hie, hje⟩ := hcc
            cases h
            intro σ' F' O' f' at1 st1 sm1
            refine ⟨true, ?_, fun _ a _ => ⟨⟨?_, rfl⟩, ?_⟩, fun z => by cases z⟩
            · show PySem.W.exmOne X.K (cvl X.mg c') c = some true
              rw [hR]; exact hm
            · show cvl X.mg c' = _
              exact hR
            · have hl := at1.e.len
              have i0 : (σ'.set i (some (V.ref a)))[i]? = some (some (.ref a)) := by rw [List.getElem?_set_self (by omega)]
              refine v1.s a _ F' O' at1.d i0 _ fun F2 d2 s2 => ?_
              refine v2.s a _ F2 O' d2 i0 _ fun F3 d3 s3 => ?_
              refine ⟨(show 2 ≤ sizeLine by decide), fun p hp => ?_⟩
              rw [upd_jn]
              have op : O' p = none := (jn_none hp).2
              have d3' : Dis F3 (upd O' p (.lst [.bl true, .bl true])) := d3.updO (jn_none hp).1
              have ip : ((σ'.set i (some (V.ref a))).set j (some (V.ref p)))[j]? = some (some (.ref p)) := by rw [List.getElem?_set_self (by rw [List.length_set]; omega)]
              have ii : ((σ'.set i (some (V.ref a))).set j (some (V.ref p)))[i]? = some (some (.ref a)) := by rw [List.getElem?_set_ne (fun e => ij e.symm)]; exact i0
              have hp3 : jn F3 (upd O' p (.lst [.bl true, .bl true])) p = some (.lst [.bl true, .bl true]) := jn_O upd_same
              refine ⟨.ref p, ip, .inl ⟨rfl, _, .inl (.inl hp3)⟩, ?_⟩
              refine v3.s a _ F3 _ d3' ii _ fun F4 d4 s4 => ?_
              refine ⟨p, _, _, rfl, rfl, jn_O upd_same, (show 2 < sizeLine by decide), ?_⟩
              rw [upd_jn]
              show D.nx ((((σ'.set i (some (V.ref a))).set j (some (V.ref p)))).set i none) _
              have es : (((σ'.set i (some (V.ref a))).set j (some (V.ref p)))).set i none = (σ'.set i none).set j (some (V.ref p)) := by
                rw [List.set_comm _ _ (fun e => ij e.symm), List.set_set]
              rw [es]
              have sF : Same F' F4 := (s2.f.trans s3.f).trans s4.f
              have km : ∀ x o, O' x = some o → upd (upd O' p (.lst [.bl true, .bl true])) p (.lst ([.bl true, .bl true] ++ [.bl false])) x = some o := fun x o e => by
                have : x ≠ p := fun z => by rw [z, op] at e; cases e
                rw [upd_ne this, upd_ne this]
                exact e
              obtain ⟨f1, r1, c1⟩ := at1.e.wipeX (i := i) (x := none)
              have r2 := r1.mono sF (O' := upd (upd O' p (.lst [.bl true, .bl true])) p (.lst ([.bl true, .bl true] ++ [.bl false]))) fun x _ o e => km x o e
              have rl : Rl K F4 (upd (upd O' p (.lst [.bl true, .bl true])) p (.lst ([.bl true, .bl true] ++ [.bl false]))) (.ref p) (.lst true [.bl true, .bl true, .bl false]) [p] :=
                .lstO (fs := []) upd_same (.cons (f := []) (fs := []) (.bl _) (.cons (f := []) (fs := []) (.bl _) (.cons (f := []) (fs := []) (.bl _) .nil)))
              obtain ⟨f2, r3, c3⟩ := r2.set (i := j) rl
              have np : f'.count p = 0 := by
                have : ¬ 0 < f'.count p := fun z => by
                  obtain ⟨u, hu⟩ := at1.e.alloc p (mem_count.mpr z)
                  rw [op] at hu
                  cases hu
                omega
              have jp : jn F' O' p = none := by
                by_cases w : jn F' O' p = none
                · exact w
                · exact absurd hp (s3.g p (s2.g p w))
              have cc : ∀ x, f2.count x ≤ (if p = x then 1 else 0) + f'.count x := fun x => by
                have h1 := c1 x
                have h3 := c3 x
                rw [List.count_cons, List.count_nil] at h3
                by_cases e : p = x
                · rw [if_pos e]; simp [e] at h3; omega
                · rw [if_neg e]; simp [e] at h3; omega
              refine q _ F4 _ f2 ⟨(d4.updO (d4.noF upd_same)), r3, fun x => ?_⟩ (st1.trans ⟨sF, fun x u hx e => km x u e, fun x hx => ?_, fun x hx => ?_⟩) ⟨by rw [List.length_set, List.length_set]; exact sm1.l, fun k hk => ?_⟩
              · rw [List.nil_append]
                have h1 := cc x
                have h2 := at1.nd x
                rw [List.nil_append] at h2
                by_cases e : p = x
                · subst e; rw [if_pos rfl] at h1; omega
                · rw [if_neg e] at h1; omega
              · have h1 := cc x
                by_cases e : p = x
                · subst e; exact .inr jp
                · rw [if_neg e] at h1
                  rw [mem_count] at hx ⊢
                  exact .inl (by omega)
              · rw [← upd_jn]
                by_cases e : x = p
                · subst e; rw [upd_same]; exact fun z => nomatch z
                · rw [upd_ne e]
                  refine s4.g x ?_
                  rw [← upd_jn, upd_ne e]
                  exact s3.g x (s2.g x hx)
              · rw [List.getElem?_set_ne (fun e => hjp (by rw [e]; exact hk)), List.getElem?_set_ne (fun e => hip (by rw [e]; exact hk))]
                exact sm1.s k hk
          · cases h
end
@[simp] theorem kTryF_def (a : SX) (R : Str) (i j : Nat) (env : Env) : kTryF a R i j env = (a env).bind fun o => match o with
    | .ok o => some o
    | .ex c e => if c = R ∧ i < e.length ∧ j < e.length then some (.nx ((e.set i none).set j (some (.lst true [.bl true, .bl true, .bl false])))) else none := by
  unfold kTryF
  cases a env with
  | none => rfl
  | some o => cases o <;> rfl
end LP
namespace Bleafpress_k12_rules_refused
open PySem L2 LP

def k_GREATEST : T := .tup false [.int 99, .int 3, .int 400, .int 400, .int 9, .int 4000, .int 4000, .int 6, .int 6, .int 4, .int 1, .int 4000, .int 1]
def k_KINDS : T := .tup false [.str "body", .str "case", .str "shelf", .str "grid", .str "text", .str "head", .str "picture", .str "aside", .str "note"]
def k_LOWEST : T := .tup false [.int 0, .int 0, .int 0, .int 0, .int 1, .int 0, .int 0, .int 1, .int 1, .int 1, .int 0, .int 1, .int 0]
def k_PROPERTIES : T := .tup false [.str "face", .str "align", .str "above", .str "inset", .str "weight", .str "least", .str "most", .str "columns", .str "span", .str "deep", .str "side", .str "wide", .str "fresh"]
/- _law_stream: 0 _law_script, 1 _law_k -/
noncomputable def b__law_stream : S :=
  (cSeq (cIfS (cTest (cO2 ltT (cV 1) (cON lenT (aCons (cV 0) aNil)))) (cRet (cLst (aCons (cO2 ixT (cV 0) (cV 1)) (aCons (cO2 addT (cO2 addT (cO2 modT (cO2 ixT (cV 0) (cV 1)) (cK (.int 2147483629))) (cO2 mulT (cV 1) (cV 1))) (cK (.int 1))) aNil)))) cSkip)
  (cRet (cLst (aCons (cO2 addT (cO2 mulT (cO2 mulT (cV 1) (cV 1)) (cK (.int 7919))) (cK (.int 5))) (aCons (cO2 addT (cV 1) (cK (.int 7))) aNil)))))
noncomputable def f__law_stream : Fn := runB [false, false] 2 b__law_stream

/- within: 0 number, 1 low, 2 high -/
noncomputable def b_within : S :=
  (cRet (cAndV (cO2 leT (cV 1) (cV 0)) (cO2 leT (cV 0) (cV 2))))
noncomputable def f_within : Fn := runB [false, false, false] 3 b_within

/- ask_set: 0 word, 1 value, 2 at -/
noncomputable def b_ask_set : SX :=
  (kSeq (kIf (cTest (cO2 (inFT true) (cV 0) (cK k_PROPERTIES))) (kRai "NoRule") (lf cSkip))
  (kSeq (lf (cAsg (cFr (cTix k_PROPERTIES (cV 0))) (gN 2)))
  (kIf (cNot (cTest (cCall f_within [false, false, false] (aCons (cV 1) (aCons (cO2 ixT (cK k_LOWEST) (cV 2)) (aCons (cO2 ixT (cK k_GREATEST) (cV 2)) aNil)))))) (kRai "NoRule") (lf cSkip))))
noncomputable def f_ask_set : GX := runX [false, false] 3 b_ask_set

/- made_of: 0 text, 1 signs, 2 sign -/
noncomputable def b_made_of : S :=
  (cSeq (cFor (iSt (cV 0)) (gN 2) (cIfS (cTest (cO2 (inST true) (cV 2) (cV 1))) (cRet (cK (.bl false))) cSkip))
  (cRet (cK (.bl true))))
noncomputable def f_made_of : Fn := runB [false, false] 3 b_made_of

/- is_name: 0 text -/
noncomputable def b_is_name : S :=
  (cRet (cAndV (cO2 leT (cK (.int 1)) (cON lenT (aCons (cV 0) aNil))) (cAndV (cO2 leT (cON lenT (aCons (cV 0) aNil)) (cK (.int 8))) (cCall f_made_of [false, false] (aCons (cV 0) (aCons (cK (.str "abcdefghijklmnopqrstuvwxyz")) aNil))))))
noncomputable def f_is_name : Fn := runB [false] 1 b_is_name

/- ask_rule: 0 rule, 1 rank, 2 kind, 3 around, 4 mark, 5 sets, 6 word, 7 words, 8 value -/
noncomputable def b_ask_rule : SX :=
  (kSeq (lf (cAsg (cV 0) (gUn 5 (gNc (gN 1) (gNc (gN 2) (gNc (gN 3) (gNc (gN 4) (gNc (gN 5) gN0))))))))
  (kSeq (kIf (cNot (cTest (cCall f_within [false, false, false] (aCons (cV 1) (aCons (cK (.int 0)) (aCons (cK (.int 9)) aNil)))))) (kRai "NoRule") (lf cSkip))
  (kSeq (kFor (iTp (cTup (aCons (cV 2) (aCons (cV 3) aNil)))) (gN 6) (kIf (cAnd (cTest (cO2 neT (cV 6) (cK (.str "")))) (cTest (cO2 (inFT true) (cV 6) (cK k_KINDS)))) (kRai "NoRule") (lf cSkip)))
  (kSeq (kIf (cAnd (cTest (cO2 neT (cV 4) (cK (.str "")))) (cNot (cTest (cCall f_is_name [false] (aCons (cV 4) aNil))))) (kRai "NoRule") (lf cSkip))
  (kSeq (lf (cAsg (cFr (cLc 9 [6, 8] (iLs (cV 5)) (gUn 2 (gNc (gN 6) (gNc (gN 8) gN0))) cYes (cV 6))) (gN 7)))
  (kSeq (kIf (cOr (cTest (cO2 eqT (cV 7) (cLst aNil))) (cTest (cO2 neT (cON lenSetT (aCons (cV 7) aNil)) (cON lenT (aCons (cV 7) aNil))))) (kRai "NoRule") (lf cSkip))
  (kFor (iLs (cV 5)) (gUn 2 (gNc (gN 6) (gNc (gN 8) gN0))) (kDrop (cCallX f_ask_set [false, false] (aCons (cV 6) (aCons (cV 8) aNil)))))))))))
noncomputable def f_ask_rule : GX := runX [false] 9 b_ask_rule

/- made_rules: 0 rules, 1 rule, 2 rank, 3 kind, 4 around, 5 mark, 6 sets -/
noncomputable def b_made_rules : SX :=
  (kSeq (kIf (cTest (cO2 gtT (cON lenT (aCons (cV 0) aNil)) (cK (.int 40)))) (kRai "NoRule") (lf cSkip))
  (kSeq (kFor (iLs (cV 0)) (gN 1) (kDrop (cCallX f_ask_rule [false] (aCons (cV 1) aNil))))
  (lf (cRet (cLc 7 [2, 3, 4, 5, 6] (iLs (cV 0)) (gUn 5 (gNc (gN 2) (gNc (gN 3) (gNc (gN 4) (gNc (gN 5) (gNc (gN 6) gN0)))))) cYes (cTup (aCons (cV 2) (aCons (cV 3) (aCons (cV 4) (aCons (cV 5) (aCons (cON listT (aCons (cV 6) aNil)) aNil)))))))))))
noncomputable def f_made_rules : GX := runX [false] 7 b_made_rules

/- _law_take: 0 _law_stream_here, 1 _law_most, 2 _law_digit -/
noncomputable def b__law_take : S :=
  (cSeq (cIfS (cOr (cTest (cO2 eqT (cO2 ixT (cV 0) (cK (.int 0))) (cK (.int 0)))) (cTest (cO2 eqT (cO2 ixT (cV 0) (cK (.int 0))) (cO1 negT (cK (.int 1)))))) (cSeq (cAsg (cO2 modT (cO2 addT (cO2 mulT (cO2 ixT (cV 0) (cK (.int 1))) (cK (.int 48271))) (cK (.int 12345))) (cK (.int 2147483647))) (gIx 0 (cK (.int 1))))
  (cRet (cO2 modT (cO2 modT (cO2 mulT (cO2 ixT (cV 0) (cK (.int 1))) (cO2 ixT (cV 0) (cK (.int 1)))) (cK (.int 2147483629))) (cV 1)))) cSkip)
  (cSeq (cAsg (cO2 modT (cO2 ixT (cV 0) (cK (.int 0))) (cV 1)) (gN 2))
  (cSeq (cAsg (cO2 divT (cO2 ixT (cV 0) (cK (.int 0))) (cV 1)) (gIx 0 (cK (.int 0))))
  (cRet (cV 2)))))
noncomputable def f__law_take : Fn := runB [true, false] 3 b__law_take

/- _law_table: 0 _law_found -/
noncomputable def b__law_table : S :=
  (cSeq (cAsg (cFr (cLst (aCons (cTup (aCons (cK (.str "face")) (aCons (cK (.int 0)) (aCons (cK (.int 99)) (aCons (cK (.int 0)) aNil))))) (aCons (cTup (aCons (cK (.str "align")) (aCons (cK (.int 0)) (aCons (cK (.int 3)) (aCons (cK (.int 0)) aNil))))) (aCons (cTup (aCons (cK (.str "above")) (aCons (cK (.int 0)) (aCons (cK (.int 400)) (aCons (cK (.int 0)) aNil))))) (aCons (cTup (aCons (cK (.str "inset")) (aCons (cK (.int 0)) (aCons (cK (.int 400)) (aCons (cK (.int 0)) aNil))))) (aCons (cTup (aCons (cK (.str "weight")) (aCons (cK (.int 1)) (aCons (cK (.int 9)) (aCons (cK (.int 1)) aNil))))) aNil))))))) (gN 0))
  (cSeq (cAsg (cO2 addT (cV 0) (cLst (aCons (cTup (aCons (cK (.str "least")) (aCons (cK (.int 0)) (aCons (cK (.int 4000)) (aCons (cK (.int 0)) aNil))))) (aCons (cTup (aCons (cK (.str "most")) (aCons (cK (.int 0)) (aCons (cK (.int 4000)) (aCons (cK (.int 4000)) aNil))))) (aCons (cTup (aCons (cK (.str "columns")) (aCons (cK (.int 1)) (aCons (cK (.int 6)) (aCons (cK (.int 2)) aNil))))) (aCons (cTup (aCons (cK (.str "span")) (aCons (cK (.int 1)) (aCons (cK (.int 6)) (aCons (cK (.int 1)) aNil))))) aNil)))))) (gN 0))
  (cRet (cO2 addT (cV 0) (cLst (aCons (cTup (aCons (cK (.str "deep")) (aCons (cK (.int 1)) (aCons (cK (.int 4)) (aCons (cK (.int 1)) aNil))))) (aCons (cTup (aCons (cK (.str "side")) (aCons (cK (.int 0)) (aCons (cK (.int 1)) (aCons (cK (.int 0)) aNil))))) (aCons (cTup (aCons (cK (.str "wide")) (aCons (cK (.int 1)) (aCons (cK (.int 4000)) (aCons (cK (.int 100)) aNil))))) (aCons (cTup (aCons (cK (.str "fresh")) (aCons (cK (.int 0)) (aCons (cK (.int 1)) (aCons (cK (.int 0)) aNil))))) aNil)))))))))
noncomputable def f__law_table : Fn := runB [] 1 b__law_table

/- _law_rule: 0 _law_stream_here, 1 _law_kinds, 2 _law_rank, 3 _law_kind, 4 _law_around, 5 _law_mark, 6 _law_sets, 7 _law_k, 8 _law_word, 9 _law_low, 10 _law_great, 11 _law_plain, 12 _law_own, 13 _law_value -/
noncomputable def b__law_rule : S :=
  (cSeq (cAsg (cFr (cLst (aCons (cK (.str "")) (aCons (cK (.str "")) (aCons (cK (.str "")) (aCons (cK (.str "text")) (aCons (cK (.str "head")) (aCons (cK (.str "case")) (aCons (cK (.str "shelf")) (aCons (cK (.str "grid")) (aCons (cK (.str "picture")) (aCons (cK (.str "aside")) (aCons (cK (.str "note")) (aCons (cK (.str "body")) aNil)))))))))))))) (gN 1))
  (cSeq (cAsg (cFr (cCall f__law_take [true, false] (aCons (cV 0) (aCons (cK (.int 10)) aNil)))) (gN 2))
  (cSeq (cIfS (cTest (cO2 eqT (cCall f__law_take [true, false] (aCons (cV 0) (aCons (cK (.int 2)) aNil))) (cK (.int 1)))) (cAsg (cO2 modT (cV 2) (cK (.int 2))) (gN 2)) cSkip)
  (cSeq (cAsg (cFr (cO2 ixT (cV 1) (cCall f__law_take [true, false] (aCons (cV 0) (aCons (cK (.int 12)) aNil))))) (gN 3))
  (cSeq (cAsg (cFr (cO2 ixT (cV 1) (cCall f__law_take [true, false] (aCons (cV 0) (aCons (cK (.int 12)) aNil))))) (gN 4))
  (cSeq (cAsg (cFr (cO2 ixT (cLst (aCons (cK (.str "")) (aCons (cK (.str "")) (aCons (cK (.str "big")) (aCons (cK (.str "red")) (aCons (cK (.str "far")) (aCons (cK (.str "of")) (aCons (cK (.str "small")) aNil)))))))) (cCall f__law_take [true, false] (aCons (cV 0) (aCons (cK (.int 7)) aNil))))) (gN 5))
  (cSeq (cAsg (cLst aNil) (gN 6))
  (cSeq (cFor (iR1 (aCons (cO2 addT (cK (.int 1)) (cCall f__law_take [true, false] (aCons (cV 0) (aCons (cK (.int 13)) aNil)))) aNil)) (gN 7) (cSeq (cAsg (cFr (cO2 ixT (cCall f__law_table [] aNil) (cCall f__law_take [true, false] (aCons (cV 0) (aCons (cK (.int 13)) aNil))))) (gUn 4 (gNc (gN 8) (gNc (gN 9) (gNc (gN 10) (gNc (gN 11) gN0))))))
  (cIfS (cTest (cO2 (inFT true) (cV 8) (cLend (cLc 14 [12, 13] (iLs (cV 6)) (gUn 2 (gNc (gN 12) (gNc (gN 13) gN0))) cYes (cV 12))))) (cDrop (cApp 6 (cTup (aCons (cV 8) (aCons (cO2 addT (cV 9) (cCall f__law_take [true, false] (aCons (cV 0) (aCons (cO2 addT (cO2 subT (cV 10) (cV 9)) (cK (.int 1))) aNil)))) aNil))))) cSkip)))
  (cRet (cTup (aCons (cV 2) (aCons (cV 3) (aCons (cV 4) (aCons (cV 5) (aCons (cMv 6) aNil)))))))))))))))
noncomputable def f__law_rule : Fn := runB [true] 14 b__law_rule

/- _law_refused: 0 _law_rules, 1 _law_own, 2 error -/
noncomputable def b__law_refused : S :=
  (cSeq (cAsg (cLst aNil) (gN 1))
  (cSeq (kTryF (kDrop (cCallX f_made_rules [false] (aCons (cV 0) aNil))) "NoRule" 2 1)
  (cRet (cO2 eqT (cV 1) (cLst (aCons (cK (.bl true)) (aCons (cK (.bl true)) (aCons (cK (.bl false)) aNil))))))))
noncomputable def f__law_refused : Fn := runB [false] 3 b__law_refused

/- _law_by_name: 0 _law_rules -/
noncomputable def b__law_by_name : S :=
  (cSeq (kTry (kDrop (cCallX f_made_rules [false] (aCons (cV 0) aNil))) (m1 "NoRule") (cRet (cK (.bl true))))
  (cRet (cK (.bl false))))
noncomputable def f__law_by_name : Fn := runB [false] 1 b__law_by_name

/- _law_spoiled: 0 _law_rule_here, 1 _law_stream_here, 2 _law_rank, 3 _law_kind, 4 _law_around, 5 _law_mark, 6 _law_sets, 7 _law_way, 8 _law_far, 9 _law_word, 10 _law_low, 11 _law_great, 12 _law_plain, 13 _law_left, 14 _law_odd, 15 _law_row -/
noncomputable def b__law_spoiled : S :=
  (cSeq (cAsg (cV 0) (gUn 5 (gNc (gN 2) (gNc (gN 3) (gNc (gN 4) (gNc (gN 5) (gNc (gN 6) gN0)))))))
  (cSeq (cAsg (cFr (cCall f__law_take [true, false] (aCons (cV 1) (aCons (cK (.int 15)) aNil)))) (gN 7))
  (cSeq (cAsg (cFr (cCall f__law_take [true, false] (aCons (cV 1) (aCons (cO2 powT (cK (.int 10)) (cK (.int 9))) aNil)))) (gN 8))
  (cSeq (cAsg (cFr (cO2 ixT (cCall f__law_table [] aNil) (cCall f__law_take [true, false] (aCons (cV 1) (aCons (cK (.int 13)) aNil))))) (gUn 4 (gNc (gN 9) (gNc (gN 10) (gNc (gN 11) (gNc (gN 12) gN0))))))
  (cSeq (cAsg (cFr (cLc 16 [15] (iLs (cV 6)) (gN 15) (cTest (cO2 neT (cO2 ixT (cV 15) (cK (.int 0))) (cV 9))) (cV 15))) (gN 13))
  (cSeq (cIfS (cTest (cO2 ltT (cV 7) (cK (.int 2)))) (cRet (cTup (aCons (cO2 ixT (cLst (aCons (cO2 subT (cO1 negT (cK (.int 1))) (cV 8)) (aCons (cO2 addT (cK (.int 10)) (cV 8)) aNil))) (cV 7)) (aCons (cV 3) (aCons (cV 4) (aCons (cV 5) (aCons (cV 6) aNil))))))) cSkip)
  (cSeq (cIfS (cTest (cO2 ltT (cV 7) (cK (.int 6)))) (cSeq (cAsg (cFr (cO2 ixT (cLst (aCons (cK (.str "bodies")) (aCons (cK (.str "Text")) (aCons (cK (.str "none")) (aCons (cK (.str "word")) aNil))))) (cCall f__law_take [true, false] (aCons (cV 1) (aCons (cK (.int 4)) aNil))))) (gN 14))
  (cRet (cO2 ixT (cLst (aCons (cTup (aCons (cV 2) (aCons (cV 14) (aCons (cV 4) (aCons (cV 5) (aCons (cV 6) aNil)))))) (aCons (cTup (aCons (cV 2) (aCons (cV 3) (aCons (cV 14) (aCons (cV 5) (aCons (cV 6) aNil)))))) aNil))) (cO2 modT (cV 7) (cK (.int 2)))))) cSkip)
  (cSeq (cIfS (cTest (cO2 ltT (cV 7) (cK (.int 10)))) (cSeq (cAsg (cFr (cO2 ixT (cLst (aCons (cK (.str "Big")) (aCons (cK (.str "big1")) (aCons (cK (.str "abcdefghi")) (aCons (cK (.str "a b")) (aCons (cK (.str "{")) (aCons (cK (.str "-")) aNil))))))) (cCall f__law_take [true, false] (aCons (cV 1) (aCons (cK (.int 6)) aNil))))) (gN 14))
  (cRet (cTup (aCons (cV 2) (aCons (cV 3) (aCons (cV 4) (aCons (cV 14) (aCons (cV 6) aNil)))))))) cSkip)
  (cSeq (cIfS (cTest (cO2 eqT (cV 7) (cK (.int 10)))) (cRet (cTup (aCons (cV 2) (aCons (cV 3) (aCons (cV 4) (aCons (cV 5) (aCons (cLst aNil) aNil))))))) cSkip)
  (cSeq (cIfS (cTest (cO2 eqT (cV 7) (cK (.int 11)))) (cRet (cTup (aCons (cV 2) (aCons (cV 3) (aCons (cV 4) (aCons (cV 5) (aCons (cO2 addT (cV 13) (cLst (aCons (cTup (aCons (cO2 ixT (cLst (aCons (cK (.str "faces")) (aCons (cK (.str "")) (aCons (cK (.str "Wide")) (aCons (cK (.str "high")) aNil))))) (cCall f__law_take [true, false] (aCons (cV 1) (aCons (cK (.int 4)) aNil)))) (aCons (cV 11) aNil))) aNil))) aNil))))))) cSkip)
  (cSeq (cIfS (cTest (cO2 eqT (cV 7) (cK (.int 12)))) (cRet (cTup (aCons (cV 2) (aCons (cV 3) (aCons (cV 4) (aCons (cV 5) (aCons (cO2 addT (cV 13) (cLst (aCons (cTup (aCons (cV 9) (aCons (cV 10) aNil))) (aCons (cTup (aCons (cV 9) (aCons (cV 11) aNil))) aNil)))) aNil))))))) cSkip)
  (cSeq (cIfS (cTest (cO2 eqT (cV 7) (cK (.int 13)))) (cRet (cTup (aCons (cV 2) (aCons (cV 3) (aCons (cV 4) (aCons (cV 5) (aCons (cO2 addT (cV 13) (cLst (aCons (cTup (aCons (cV 9) (aCons (cO2 subT (cO2 subT (cV 10) (cK (.int 1))) (cV 8)) aNil))) aNil))) aNil))))))) cSkip)
  (cRet (cTup (aCons (cV 2) (aCons (cV 3) (aCons (cV 4) (aCons (cV 5) (aCons (cO2 addT (cV 13) (cLst (aCons (cTup (aCons (cV 9) (aCons (cO2 addT (cO2 addT (cV 11) (cK (.int 1))) (cV 8)) aNil))) aNil))) aNil)))))))))))))))))))
noncomputable def f__law_spoiled : Fn := runB [false, true] 16 b__law_spoiled

/- law: 0 _law_script, 1 _law_stream_here, 2 _law_rules, 3 _law_handed, 4 _law_found, 5 _law_at, 6 _law_bad, 7 _law_word, 8 _law_low, 9 _law_great, 10 _law_plain, 11 _law_edge, 12 _law_k, 13 _law_rank, 14 _law_kind, 15 _law_around, 16 _law_mark, 17 _law_sets -/
noncomputable def b_law : S :=
  (cSeq (cAsg (cCall f__law_stream [false, false] (aCons (cV 0) (aCons (cK (.int 0)) aNil))) (gN 1))
  (cSeq (cAsg (cFr (cLc 18 [12] (iR1 (aCons (cO2 addT (cK (.int 1)) (cCall f__law_take [true, false] (aCons (cV 1) (aCons (cK (.int 8)) aNil)))) aNil)) (gN 12) cYes (cCall f__law_rule [true] (aCons (cV 1) aNil)))) (gN 2))
  (cSeq (cAsg (cFr (cLc 18 [13, 14, 15, 16, 17] (iLs (cV 2)) (gUn 5 (gNc (gN 13) (gNc (gN 14) (gNc (gN 15) (gNc (gN 16) (gNc (gN 17) gN0)))))) cYes (cTup (aCons (cV 13) (aCons (cV 14) (aCons (cV 15) (aCons (cV 16) (aCons (cON listT (aCons (cV 17) aNil)) aNil)))))))) (gN 3))
  (cSeq (cAsg (cCall (gPart f_made_rules []) [false] (aCons (cV 3) aNil)) (gN 4))
  (cSeq (cIfS (cOr (cNot (cTest (cIsi "list" (cV 4)))) (cOr (cTest (cO2 neT (cV 4) (cV 2))) (cTest (cO2 neT (cV 3) (cV 2))))) (cRet (cK (.bl false))) cSkip)
  (cSeq (cDrop (cAppQ 4 [0, 4] (.tup false [.str "face", .int 1])))
  (cSeq (cDrop (cApp 4 (cO2 ixT (cV 2) (cK (.int 0)))))
  (cSeq (cIfS (cOr (cTest (cO2 neT (cV 3) (cV 2))) (cTest (cO2 neT (cCall (gPart f_made_rules []) [false] (aCons (cLst aNil) aNil)) (cLst aNil)))) (cRet (cK (.bl false))) cSkip)
  (cSeq (cAsg (cFr (cCall f__law_take [true, false] (aCons (cV 1) (aCons (cON lenT (aCons (cV 2) aNil)) aNil)))) (gN 5))
  (cSeq (cAsg (cFr (cO2 addT (cO2 addT (cSl (cV 2) p0 (p1 (cV 5))) (cLst (aCons (cFr (cCall f__law_spoiled [false, true] (aCons (cO2 ixT (cV 2) (cV 5)) (aCons (cV 1) aNil)))) aNil))) (cSl (cV 2) (p1 (cO2 addT (cV 5) (cK (.int 1)))) p0))) (gN 6))
  (cSeq (cIfS (cOr (cNot (cTest (cCall f__law_refused [false] (aCons (cV 6) aNil)))) (cOr (cNot (cTest (cCall f__law_by_name [false] (aCons (cV 6) aNil)))) (cTest (cO2 neT (cCall (gPart f_made_rules []) [false] (aCons (cV 3) aNil)) (cV 2))))) (cRet (cK (.bl false))) cSkip)
  (cSeq (cAsg (cFr (cO2 ixT (cCall f__law_table [] aNil) (cCall f__law_take [true, false] (aCons (cV 1) (aCons (cK (.int 13)) aNil))))) (gUn 4 (gNc (gN 7) (gNc (gN 8) (gNc (gN 9) (gNc (gN 10) gN0))))))
  (cSeq (cAsg (cFr (cLst (aCons (cTup (aCons (cK (.int 9)) (aCons (cK (.str "note")) (aCons (cK (.str "body")) (aCons (cK (.str "abcdefgh")) (aCons (cLst (aCons (cTup (aCons (cV 7) (aCons (cV 8) aNil))) aNil)) aNil)))))) (aCons (cTup (aCons (cK (.int 0)) (aCons (cK (.str "")) (aCons (cK (.str "")) (aCons (cK (.str "")) (aCons (cLst (aCons (cTup (aCons (cV 7) (aCons (cV 9) aNil))) aNil)) aNil)))))) aNil)))) (gN 11))
  (cSeq (cIfS (cOr (cTest (cO2 neT (cCall (gPart f_made_rules []) [false] (aCons (cV 11) aNil)) (cV 11))) (cTest (cO2 neT (cCall (gPart f_made_rules []) [false] (aCons (cO2 repT (cV 11) (cK (.int 20))) aNil)) (cO2 repT (cV 11) (cK (.int 20)))))) (cRet (cK (.bl false))) cSkip)
  (cRet (cAndV (cCall f__law_refused [false] (aCons (cO2 addT (cO2 repT (cV 11) (cK (.int 20))) (cSl (cV 11) p0 (p1 (cK (.int 1))))) aNil)) (cO2 eqT (cCall (gPart f_made_rules []) [false] (aCons (cV 2) aNil)) (cV 2))))))))))))))))))
noncomputable def f_law : Fn := runB [false] 18 b_law

end Bleafpress_k12_rules_refused
set_option maxRecDepth 100000
namespace Bleafpress_k12_rules_refused
open PySem L2 LP
theorem take_ok (a b m : Int) (h0 : 0 < m) (h1 : m < 1073741824) : ∃ d a' b', f__law_take [.lst true [.int a, .int b], .int m] = some (.int d, [.lst true [.int a', .int b'], .int m]) ∧ 0 ≤ d ∧ d < m := by
  have k1 : okMul b 48271 = true := okMul_r (by decide) (by decide)
  have k2 : ∀ x : Int, okMul (x % 2147483647) (x % 2147483647) = true := fun x => okMul_l (by omega) (by omega)
  by_cases ha : a = 0 ∨ a = -1
  · refine ⟨_, a, (b * 48271 + 12345) % 2147483647, ?_, Int.emod_nonneg _ (by omega), Int.emod_lt_of_pos (((b * 48271 + 12345) % 2147483647) * ((b * 48271 + 12345) % 2147483647) % 2147483629) h0⟩
    rcases ha with rfl | rfl <;> simp [f__law_take, b__law_take, k1, k2, h0]
  · refine ⟨a % m, a / m, b, ?_, Int.emod_nonneg _ (by omega), Int.emod_lt_of_pos _ h0⟩
    have e1 : ¬ a = 0 := fun z => ha (.inl z)
    have e2 : ¬ a = -1 := fun z => ha (.inr z)
    simp [f__law_take, b__law_take, h0, h1, e1, e2]
theorem stream_ok (ns : List Int) (hn : ns.length ≤ 63) (k : Int) (h0 : 0 ≤ k) (h1 : k ≤ 1000000) : ∃ a b, f__law_stream [.scr ns, .int k] = some (.lst true [.int a, .int b], [.scr ns, .int k]) := by
  have k1 : okMul k k = true := okMul_l (by omega) (by omega)
  have k2 : okMul (k * k) 7919 = true := okMul_r (by decide) (by decide)
  by_cases h : k < ns.length
  · have e : atI ns k = some (ns[k.toNat]'(by omega)) := atI_of h0 (List.getElem?_eq_getElem (by omega))
    exact ⟨ns[k.toNat]'(by omega), (ns[k.toNat]'(by omega)) % 2147483629 + k * k + 1, by simp [f__law_stream, b__law_stream, k1, h, e, sz]⟩
  · exact ⟨k * k * 7919 + 5, k + 7, by simp [f__law_stream, b__law_stream, k1, k2, h, sz]⟩
theorem neT_strs (x y : Str) : neT (.str x) (.str y) = some (.bl (!decide (x = y))) := by
  by_cases h : x = y <;> simp [neT, T.py, PyData.eqv, h]
theorem eqT_nil (o p : Bool) (xs : List T) (h : dleL 15 xs = true) : eqT (.lst o xs) (.lst p []) = some (.bl xs.isEmpty) := by
  have hd : (T.lst o xs).dle 16 = true := by simp [h]
  have hd2 : (T.lst p []).dle 16 = true := by simp
  unfold eqT
  rw [hd, hd2]
  cases xs <;> simp [T.py, pyL, PyData.eqv, PyData.eqvAll]
theorem eqT_py {a b : T} (ha : a.dle 16 = true) (hb : b.dle 16 = true) (h : a.py = b.py) : eqT a b = some (.bl true) := by
  have e := eqT_self ha
  unfold eqT at e ⊢
  rw [hb, ← h]
  rw [ha] at e ⊢
  exact e
theorem neT_py {a b : T} (ha : a.dle 16 = true) (hb : b.dle 16 = true) (h : a.py = b.py) : neT a b = some (.bl false) := by
  have e := neT_self ha
  unfold neT at e ⊢
  rw [hb, ← h]
  rw [ha] at e ⊢
  exact e
theorem erL_fix {α : Type} {f : α → T} (h : ∀ x, (f x).er = f x) : ∀ l : List α, erL (l.map f) = l.map f
  | [] => by simp
  | x :: r => by simp [h x, erL_fix h r]
theorem ntL_all {α : Type} {f : α → T} (h : ∀ x, (f x).nt = true) : ∀ l : List α, ntL (l.map f) = true
  | [] => rfl
  | x :: r => by simp [ntL, h x, ntL_all h r]
theorem str_fz (l : List Str) : fzL (l.map T.str) = true := fzL_map T.str (fun _ => rfl) l
theorem str_er (l : List Str) : erL (l.map T.str) = l.map T.str := erL_fix (fun _ => rfl) l
theorem str_dle (n : Nat) (l : List Str) : dleL (n + 1) (l.map T.str) = true := dleL_map (n + 1) T.str (fun _ => by simp) l
theorem str_nl (l : List Str) : nlL (l.map T.str) = true := by
  induction l with
  | nil => rfl
  | cons x r ih => simp [nlL, T.nl, ih]
theorem str_fl (l : List Str) : (l.map T.str).all flT = true := by
  rw [List.all_eq_true]
  intro x hx
  obtain ⟨s, _, rfl⟩ := List.mem_map.mp hx
  rfl
theorem with_p {α : Type} {p : α → Prop} : ∀ {l : List α}, (∀ x ∈ l, p x) → ∃ xs : List {x : α // p x}, xs.map (fun x => x.1) = l
  | [], _ => ⟨[], rfl⟩
  | n :: r, h => by
    obtain ⟨xs, e⟩ := with_p (l := r) fun m hm => h m (List.mem_cons_of_mem _ hm)
    exact ⟨⟨n, h n (List.mem_cons_self ..)⟩ :: xs, by rw [List.map_cons, e]⟩
theorem any_strs (a : Str) (ks : List Str) : anyF (.str a) (ks.map T.str) = ks.any fun k => decide (k = a) := by
  unfold anyF
  rw [List.any_map]
  refine congrArg (fun f => ks.any f) (funext fun k => ?_)
  show eqV (V.str k) (V.str a) = decide (k = a)
  by_cases h : k = a <;> simp [eqV, h]
theorem in_strs (neg o : Bool) (a : Str) (ks : List Str) : inFT neg (.str a) (.lst o (ks.map T.str)) = some (.bl (if neg = true then !(ks.any fun k => decide (k = a)) else ks.any fun k => decide (k = a))) := by
  rw [inFT_lst, any_strs, str_fl]
  simp [flT]
structure Ru where
  rk : Int
  kd : Str
  ar : Str
  mr : Str
  ss : List SI'
def rF (r : Ru) : T := .tup false [.int r.rk, .str r.kd, .str r.ar, .str r.mr, .lst false (r.ss.map pS)]
theorem pS_fz (l : List SI') : fzL (l.map pS) = true := fzL_map pS (fun p => by simp [pS]) l
theorem pS_er (l : List SI') : erL (l.map pS) = l.map pS := erL_fix (fun p => by simp [pS]) l
theorem pS_nt (l : List SI') : ntL (l.map pS) = true := ntL_all (fun p => by simp [pS, T.nt, ntL]) l
theorem rF_fz (r : Ru) : (rF r).fz = true := by simp [rF, pS_fz]
def rO (r : Ru) : T := .tup true [.int r.rk, .str r.kd, .str r.ar, .str r.mr, .lst true (r.ss.map pS)]
theorem rO_er (r : Ru) : (rO r).er = rF r := by simp [rO, rF, pS_er]
/-! k12: what made_rules takes -/
def tbT (p : Str × Int × Int × Int) : T := .tup false [.str p.1, .int p.2.1, .int p.2.2.1, .int p.2.2.2]
def tab13 : List (Str × Int × Int × Int) := [("face", 0, 99, 0), ("align", 0, 3, 0), ("above", 0, 400, 0), ("inset", 0, 400, 0), ("weight", 1, 9, 1), ("least", 0, 4000, 0), ("most", 0, 4000, 4000), ("columns", 1, 6, 2), ("span", 1, 6, 1), ("deep", 1, 4, 1), ("side", 0, 1, 0), ("wide", 1, 4000, 100), ("fresh", 0, 1, 0)]
theorem e_table : f__law_table [] = some (.lst true (tab13.map tbT), []) := by
  simp [f__law_table, b__law_table, tab13, tbT, sz]
theorem e_within (a l h : Int) : f_within [.int a, .int l, .int h] = some (.bl (decide (l ≤ a) && decide (a ≤ h)), [.int a, .int l, .int h]) := by
  by_cases h1 : l ≤ a <;> by_cases h2 : a ≤ h <;> simp [f_within, b_within, h1, h2]
def okS1 (w : Str) (v : Int) : Bool := match tab13.find? (fun b => decide (b.1 = w)) with
  | some b => decide (b.2.1 ≤ v) && decide (v ≤ b.2.2.1)
  | none => false
theorem tab_at {b : Str × Int × Int × Int} (hb : b ∈ tab13) : ∃ i : Int, tixT k_PROPERTIES (.str b.1) = some (.int i) ∧ ixT k_LOWEST (.int i) = some (.int b.2.1) ∧ ixT k_GREATEST (.int i) = some (.int b.2.2.1) := by
  simp only [tab13, List.mem_cons, List.not_mem_nil, or_false] at hb
  rcases hb with rfl | rfl | rfl | rfl | rfl | rfl | rfl | rfl | rfl | rfl | rfl | rfl | rfl
  · exact ⟨0, rfl, rfl, rfl⟩
  · exact ⟨1, rfl, rfl, rfl⟩
  · exact ⟨2, rfl, rfl, rfl⟩
  · exact ⟨3, rfl, rfl, rfl⟩
  · exact ⟨4, rfl, rfl, rfl⟩
  · exact ⟨5, rfl, rfl, rfl⟩
  · exact ⟨6, rfl, rfl, rfl⟩
  · exact ⟨7, rfl, rfl, rfl⟩
  · exact ⟨8, rfl, rfl, rfl⟩
  · exact ⟨9, rfl, rfl, rfl⟩
  · exact ⟨10, rfl, rfl, rfl⟩
  · exact ⟨11, rfl, rfl, rfl⟩
  · exact ⟨12, rfl, rfl, rfl⟩
theorem in_props (w : Str) : inFT true (.str w) k_PROPERTIES = some (.bl (!(tab13.any fun b => decide (b.1 = w)))) := by
  have e2 : inFT true (.str w) k_PROPERTIES = some (.bl (!anyF (.str w) ((tab13.map fun b => b.1).map T.str))) := rfl
  rw [e2, any_strs, List.any_map]
  rfl
theorem e_aset (w : Str) (v : Int) : f_ask_set [.str w, .int v] = some (if okS1 w v = true then .ok .non [.str w, .int v] else .ex "NoRule" [.str w, .int v]) := by
  have q := in_props w
  unfold okS1
  cases hf : tab13.find? (fun b => decide (b.1 = w)) with
  | none =>
    have : (tab13.any fun b => decide (b.1 = w)) = false := by
      rw [List.any_eq_false]
      intro b hb
      exact List.find?_eq_none.mp hf b hb
    rw [this] at q
    unfold f_ask_set b_ask_set
    generalize k_PROPERTIES = KP at *
    simp [runX, kSeq, kIf, kRai, lf, q, outsOf]
  | some b =>
    have hm := List.mem_of_find?_eq_some hf
    have hw : b.1 = w := by have := List.find?_some hf; simpa using this
    subst hw
    have : (tab13.any fun c => decide (c.1 = b.1)) = true := List.any_eq_true.mpr ⟨b, hm, by simp⟩
    rw [this] at q
    obtain ⟨i, h1, h2, h3⟩ := tab_at hm
    have ew := e_within v b.2.1 b.2.2.1
    have fl : (k_LOWEST).fz = true := rfl
    have fg : (k_GREATEST).fz = true := rfl
    simp only
    by_cases hb : (decide (b.2.1 ≤ v) && decide (v ≤ b.2.2.1)) = true
    · rw [if_pos hb]
      rw [hb] at ew
      clear hb this hf
      unfold f_ask_set b_ask_set
      generalize k_PROPERTIES = KP at *
      generalize k_LOWEST = KL at *
      generalize k_GREATEST = KG at *
      generalize b.1 = W at *
      generalize b.2.1 = LO at *
      generalize b.2.2.1 = HI at *
      simp [runX, kSeq, kIf, kRai, lf, q, h1, h2, h3, ew, fl, fg, outsOf]
    · rw [if_neg hb]
      rw [Bool.not_eq_true] at hb
      rw [hb] at ew
      clear hb this hf
      unfold f_ask_set b_ask_set
      generalize k_PROPERTIES = KP at *
      generalize k_LOWEST = KL at *
      generalize k_GREATEST = KG at *
      generalize b.1 = W at *
      generalize b.2.1 = LO at *
      generalize b.2.2.1 = HI at *
      simp [runX, kSeq, kIf, kRai, lf, q, h1, h2, h3, ew, fl, fg, outsOf]
def kn9 : List Str := ["body", "case", "shelf", "grid", "text", "head", "picture", "aside", "note"]
def kbad (K : Str) : Bool := !decide (K = "") && !(kn9.any fun k => decide (k = K))
theorem in_kinds (w : Str) : inFT true (.str w) k_KINDS = some (.bl (!(kn9.any fun b => decide (b = w)))) := by
  have e2 : inFT true (.str w) k_KINDS = some (.bl (!anyF (.str w) (kn9.map T.str))) := rfl
  rw [e2, any_strs]
noncomputable abbrev xKd : SX := (kIf (cAnd (cTest (cO2 neT (cV 6) (cK (.str "")))) (cTest (cO2 (inFT true) (cV 6) (cK k_KINDS)))) (kRai "NoRule") (lf cSkip))
theorem kd_one (t0 t1 t2 t3 t4 t5 x6 x7 x8 : Option T) (K : Str) : ((gN 6) (.str K) [t0, t1, t2, t3, t4, t5, x6, x7, x8]).bind xKd = some (if kbad K = true then .ex "NoRule" [t0, t1, t2, t3, t4, t5, some (.str K), x7, x8] else .ok (.nx [t0, t1, t2, t3, t4, t5, some (.str K), x7, x8])) := by
  have q1 := neT_strs K ""
  have q2 := in_kinds K
  unfold kbad xKd
  generalize k_KINDS = KK at *
  generalize decide (K = "") = A at *
  generalize (kn9.any fun b => decide (b = K)) = B at *
  cases A <;> cases B <;> simp [kIf, kRai, lf, q1, q2]
def nxX (g : Tg) (b : SX) (r : List T) : OutX → Option OutX
  | .ok (.nx e) => loopX g b r e
  | .ok (.ct e) => loopX g b r e
  | .ok (.bk e) => some (.ok (.nx e))
  | .ok (.rt t e) => some (.ok (.rt t e))
  | .ex c e => some (.ex c e)
theorem loopX_cons {g : Tg} {b : SX} {x : T} {r : List T} {env : LP.Env} {o : OutX} (h : (g x env).bind b = some o) : loopX g b (x :: r) env = nxX g b r o := by
  rw [loopX]
  cases hg : g x env with
  | none => rw [hg] at h; cases h
  | some e =>
    rw [hg] at h
    simp only [Option.bind_some] at h
    simp only [h]
    cases o with
    | ok o => cases o <;> rfl
    | ex c e => rfl
theorem kd_loop (t0 t1 t2 t3 t4 t5 x6 x7 x8 : Option T) (K A : Str) : ∃ y6 : Str, loopX (gN 6) xKd [.str K, .str A] [t0, t1, t2, t3, t4, t5, x6, x7, x8] = some (if (kbad K || kbad A) = true then .ex "NoRule" [t0, t1, t2, t3, t4, t5, some (.str y6), x7, x8] else .ok (.nx [t0, t1, t2, t3, t4, t5, some (.str y6), x7, x8])) := by
  have e1 := kd_one t0 t1 t2 t3 t4 t5 x6 x7 x8 K
  have e2 := kd_one t0 t1 t2 t3 t4 t5 (some (.str K)) x7 x8 A
  rw [loopX_cons e1]
  cases h1 : kbad K with
  | true => exact ⟨K, rfl⟩
  | false =>
    refine ⟨A, ?_⟩
    simp only [Bool.false_eq_true, if_false]
    show loopX (gN 6) xKd [.str A] _ = _
    rw [loopX_cons e2]
    cases h2 : kbad A <;> rfl
noncomputable abbrev xSt : SX := (kDrop (cCallX f_ask_set [false, false] (aCons (cV 6) (aCons (cV 8) aNil))))
theorem st_loop (t0 t1 t2 t3 t4 t5 x7 : Option T) : ∀ (ss : List SI') (x6 x8 : Option T), ∃ y6 y8 : Option T, loopX (gUn 2 (gNc (gN 6) (gNc (gN 8) gN0))) xSt (ss.map pS) [t0, t1, t2, t3, t4, t5, x6, x7, x8] = some (if (ss.all fun p => okS1 p.1 p.2) = true then .ok (.nx [t0, t1, t2, t3, t4, t5, y6, x7, y8]) else .ex "NoRule" [t0, t1, t2, t3, t4, t5, y6, x7, y8])
  | [], x6, x8 => ⟨x6, x8, rfl⟩
  | (w, v) :: r, x6, x8 => by
    have ea := e_aset w v
    have e1 : ((gUn 2 (gNc (gN 6) (gNc (gN 8) gN0))) (pS (w, v)) [t0, t1, t2, t3, t4, t5, x6, x7, x8]).bind xSt = some (if okS1 w v = true then .ok (.nx [t0, t1, t2, t3, t4, t5, some (.str w), x7, some (.int v)]) else .ex "NoRule" [t0, t1, t2, t3, t4, t5, some (.str w), x7, some (.int v)]) := by
      cases hb : okS1 w v <;> (rw [hb] at ea; simp [pS, kDrop, cCallX, ea])
    rw [List.map_cons, loopX_cons e1]
    cases hb : okS1 w v with
    | false => exact ⟨some (.str w), some (.int v), by simp [hb, nxX]⟩
    | true =>
      obtain ⟨y6, y8, ih⟩ := st_loop t0 t1 t2 t3 t4 t5 x7 r (some (.str w)) (some (.int v))
      refine ⟨y6, y8, ?_⟩
      simp only [if_true, List.all_cons, hb, Bool.true_and]
      exact ih
theorem setS_len_le : ∀ l : List Str, (setS l).length ≤ l.length
  | [] => Nat.le_refl _
  | x :: r => by
    have ih := setS_len_le r
    have : ∀ l : List Str, (insU x l).length ≤ l.length + 1 := by
      intro l
      induction l with
      | nil => simp [insU]
      | cons y r ih =>
        unfold insU
        split
        · simp
        · split
          · simp
          · simp; omega
    have := this (setS r)
    rw [setS, List.length_cons]
    omega
theorem insU_len_new (x : Str) : ∀ l : List Str, x ∉ l → (insU x l).length = l.length + 1
  | [], _ => rfl
  | y :: r, h => by
    unfold insU
    split
    · rfl
    · split
      · next e => exact absurd (by rw [e]; exact List.mem_cons_self ..) h
      · rw [List.length_cons, insU_len_new x r (fun z => h (List.mem_cons_of_mem _ z)), List.length_cons]
theorem setS_len_nd : ∀ l : List Str, l.Nodup → (setS l).length = l.length
  | [], _ => rfl
  | x :: r, h => by
    obtain ⟨h1, h2⟩ := List.nodup_cons.mp h
    rw [setS, insU_len_new x _ (fun z => h1 ((mem_setS x r).mp z)), setS_len_nd r h2, List.length_cons]
theorem insU_len_old (x : Str) : ∀ l : List Str, l.Pairwise SrtS.sLt → x ∈ l → (insU x l).length = l.length
  | [], _, h => by cases h
  | y :: r, hp, h => by
    obtain ⟨p1, p2⟩ := List.pairwise_cons.mp hp
    unfold insU
    split
    · next hlt =>
      rcases List.mem_cons.mp h with z | z
      · subst z; exact absurd hlt (SrtS.sLt_irr _)
      · exact absurd (SrtS.sLt_tr hlt (p1 x z)) (SrtS.sLt_irr _)
    · split
      · rfl
      · next hne =>
        rcases List.mem_cons.mp h with z | z
        · exact absurd z hne
        · rw [List.length_cons, insU_len_old x r p2 z, List.length_cons]
theorem setS_len_dup : ∀ l : List Str, ¬ l.Nodup → (setS l).length < l.length
  | [], h => absurd List.nodup_nil h
  | x :: r, h => by
    have le := setS_len_le r
    rw [setS, List.length_cons]
    by_cases hx : x ∈ r
    · rw [insU_len_old x _ (setS_pw r) ((mem_setS x r).mpr hx)]
      omega
    · have hr : ¬ r.Nodup := fun z => h (List.nodup_cons.mpr ⟨hx, z⟩)
      have := setS_len_dup r hr
      rw [insU_len_new x _ (fun z => hx ((mem_setS x r).mp z))]
      omega
/-! k12: one rule, all rules -/
theorem names_lc (ss : List SI') (hl : ss.length ≤ 1000) (t0 t1 t2 t3 t4 t5 t7 : Option T) :
    lcLoop [6, 8] (gUn 2 (gNc (gN 6) (gNc (gN 8) gN0))) cYes (cV 6) (ss.map pS) [] [t0, t1, t2, t3, t4, t5, none, t7, none] = some ((ss.map fun p => p.1).map T.str, [t0, t1, t2, t3, t4, t5, none, t7, none]) := by
  have c1 := lc_pure (vs := [6, 8]) (g := (gUn 2 (gNc (gN 6) (gNc (gN 8) gN0)))) (c := cYes) (a := cV 6) (f := pS) (env := [t0, t1, t2, t3, t4, t5, none, t7, none]) (fun _ => true) (fun p => T.str p.1) (fun p acc hz => by simp [lcTurn, pS, hz]) ss [] (by simpa using sz (by omega))
  rw [List.nil_append, List.filter_eq_self.mpr fun _ _ => rfl] at c1
  rw [c1, List.map_map]
  rfl
def wdB (ss : List SI') : Bool := !ss.isEmpty && decide ((ss.map fun p => p.1).Nodup)
def ckR (mb : Bool) (r : Ru) : Bool := (decide (0 ≤ r.rk) && decide (r.rk ≤ 9)) && (!(kbad r.kd || kbad r.ar) && ((decide (r.mr = "") || mb) && (wdB r.ss && r.ss.all fun p => okS1 p.1 p.2)))
theorem e_arule (r : Ru) (mb : Bool) (hm : f_is_name [.str r.mr] = some (.bl mb, [.str r.mr])) (hl : r.ss.length < 64) : f_ask_rule [rF r] = some (if ckR mb r = true then .ok .non [rF r] else .ex "NoRule" [rF r]) := by
  have fr := rF_fz r
  have er := er_of_fz fr
  have e0 := e_within r.rk 0 9
  have q1 := neT_strs r.mr ""
  have fS := pS_fz r.ss
  have nS := names_lc r.ss (by omega) (some (rF r)) (some (.int r.rk)) (some (.str r.kd)) (some (.str r.ar)) (some (.str r.mr)) (some (.lst false (r.ss.map pS))) none
  obtain ⟨y6, ek⟩ := kd_loop (some (rF r)) (some (.int r.rk)) (some (.str r.kd)) (some (.str r.ar)) (some (.str r.mr)) (some (.lst false (r.ss.map pS))) none none none r.kd r.ar
  obtain ⟨z6, z8, es⟩ := st_loop (some (rF r)) (some (.int r.rk)) (some (.str r.kd)) (some (.str r.ar)) (some (.str r.mr)) (some (.lst false (r.ss.map pS))) (some (.lst false ((r.ss.map fun p => p.1).map T.str))) r.ss (some (.str y6)) none
  have le := eqT_nil false true ((r.ss.map fun p => p.1).map T.str) (str_dle 14 _)
  have ls : lenSetT [.lst false ((r.ss.map fun p => p.1).map T.str)] = some (.int ((setS (r.ss.map fun p => p.1)).length : Nat)) := lenSetT_map false _ (by rw [List.length_map]; exact hl)
  have ll : lenT [.lst false ((r.ss.map fun p => p.1).map T.str)] = some (.int ((r.ss.map fun p => p.1).length : Nat)) := by
    rw [lenT_lst]
    simp
  have fN := str_fz (r.ss.map fun p => p.1)
  have eN := str_er (r.ss.map fun p => p.1)
  have hu : rF r = .tup false [.int r.rk, .str r.kd, .str r.ar, .str r.mr, .lst false (r.ss.map pS)] := rfl
  have g5 : ∀ x6 x7 x8 : Option T, (gUn 5 (gNc (gN 1) (gNc (gN 2) (gNc (gN 3) (gNc (gN 4) (gNc (gN 5) gN0)))))) (rF r) [some (rF r), none, none, none, none, none, x6, x7, x8] = some [some (rF r), some (.int r.rk), some (.str r.kd), some (.str r.ar), some (.str r.mr), some (.lst false (r.ss.map pS)), x6, x7, x8] := fun _ _ _ => rfl
  have we : ((r.ss.map fun p => p.1).map T.str).isEmpty = r.ss.isEmpty := by cases r.ss <;> rfl
  rw [we] at le
  have wd : wdB r.ss = (!r.ss.isEmpty && decide (((setS (r.ss.map fun p => p.1)).length : Int) = ((r.ss.map fun p => p.1).length : Int))) := by
    unfold wdB
    congr 1
    rw [decide_eq_decide]
    constructor
    · intro h; rw [setS_len_nd _ h]
    · intro h
      by_cases hn : (r.ss.map fun p => p.1).Nodup
      · exact hn
      · have := setS_len_dup _ hn
        omega
  unfold ckR
  rw [wd]
  clear wd we hu
  generalize (r.ss.all fun p => okS1 p.1 p.2) = sb at *
  generalize (kbad r.kd || kbad r.ar) = kb at *
  generalize (decide (0 ≤ r.rk) && decide (r.rk ≤ 9)) = rb at *
  generalize decide (r.mr = "") = mz at *
  generalize r.ss.isEmpty = ze at *
  generalize (((setS (r.ss.map fun p => p.1)).length : Nat) : Int) = n1 at *
  generalize (((r.ss.map fun p => p.1).length : Nat) : Int) = n2 at *
  generalize (r.ss.map fun p => p.1).map T.str = NM at *
  generalize r.ss.map pS = SM at *
  generalize rF r = RF at *
  generalize hk : xKd = XK at *
  generalize hs : xSt = XS at *
  unfold xKd at hk
  unfold xSt at hs
  unfold f_ask_rule b_ask_rule
  simp only [hk, hs]
  cases rb
  · simp [runX, kSeq, kIf, kRai, lf, g5, e0, fr, outsOf]
  · cases kb
    · by_cases hmm : (mz || mb) = true
      · by_cases hw : ze = false ∧ n1 = n2
        · obtain ⟨rfl, rfl⟩ := hw
          have mm : mz = true ∨ mb = true := by simpa using hmm
          cases mz <;> cases mb <;> first | (simp at mm; done) | skip
          all_goals cases sb <;> simp [-lenT_lst, -lenSetT_map, runX, kSeq, kIf, kRai, kFor, lf, g5, e0, fr, ek, es, q1, hm, nS, le, ls, ll, fN, eN, fS, outsOf, wipeE, bring, sz]
        · have hw2 : (!ze && decide (n1 = n2)) = false := by
            cases ze
            · simp at hw ⊢; exact hw
            · rfl
          have mm : mz = true ∨ mb = true := by simpa using hmm
          rw [hw2]
          cases mz <;> cases mb <;> first | (simp at mm; done) | skip
          all_goals
            cases ze
            · have hw : ¬ n1 = n2 := fun z => hw ⟨rfl, z⟩
              simp [-lenT_lst, -lenSetT_map, runX, kSeq, kIf, kRai, kFor, lf, g5, e0, fr, ek, q1, hm, nS, le, ls, ll, fN, eN, fS, hw, outsOf, wipeE, bring, sz]
            · simp [-lenT_lst, -lenSetT_map, runX, kSeq, kIf, kRai, kFor, lf, g5, e0, fr, ek, q1, hm, nS, le, ls, ll, fN, eN, fS, outsOf, wipeE, bring, sz]
      · have h1 : mz = false := by cases mz <;> simp_all
        have h2 : mb = false := by cases mb <;> simp_all
        subst h1 h2
        simp [runX, kSeq, kIf, kRai, kFor, lf, g5, e0, fr, ek, q1, hm, outsOf, sz]
    · simp [runX, kSeq, kIf, kRai, kFor, lf, g5, e0, fr, ek, outsOf, sz]
noncomputable abbrev xRu : SX := (kDrop (cCallX f_ask_rule [false] (aCons (cV 1) aNil)))
theorem ru_loop (c : Ru → Bool) (t0 t2 t3 t4 t5 t6 : Option T) : ∀ (rs : List Ru) (x1 : Option T), (∀ r ∈ rs, f_ask_rule [rF r] = some (if c r = true then .ok .non [rF r] else .ex "NoRule" [rF r])) → ∃ y1 : Option T,
    loopX (gN 1) xRu (rs.map rF) [t0, x1, t2, t3, t4, t5, t6] = some (if rs.all c = true then .ok (.nx [t0, y1, t2, t3, t4, t5, t6]) else .ex "NoRule" [t0, y1, t2, t3, t4, t5, t6])
  | [], x1, _ => ⟨x1, rfl⟩
  | r :: rs, x1, h => by
    have ea := h r (List.mem_cons_self ..)
    have fr := rF_fz r
    have er := er_of_fz fr
    have e1 : ((gN 1) (rF r) [t0, x1, t2, t3, t4, t5, t6]).bind xRu = some (if c r = true then .ok (.nx [t0, some (rF r), t2, t3, t4, t5, t6]) else .ex "NoRule" [t0, some (rF r), t2, t3, t4, t5, t6]) := by
      generalize rF r = RF at *
      cases hb : c r <;> (rw [hb] at ea; simp [kDrop, cCallX, ea, fr, er])
    rw [List.map_cons, loopX_cons e1]
    cases hb : c r with
    | false => exact ⟨some (rF r), by simp [hb, nxX]⟩
    | true =>
      obtain ⟨y1, ih⟩ := ru_loop c t0 t2 t3 t4 t5 t6 rs (some (rF r)) fun q hq => h q (List.mem_cons_of_mem _ hq)
      refine ⟨y1, ?_⟩
      simp only [if_true, List.all_cons, hb, Bool.true_and]
      exact ih
theorem rO_lc (rs : List Ru) (hl : rs.length ≤ 1000) (hs : ∀ r ∈ rs, r.ss.length < 64) (t0 t1 : Option T) :
    lcLoop [2, 3, 4, 5, 6] (gUn 5 (gNc (gN 2) (gNc (gN 3) (gNc (gN 4) (gNc (gN 5) (gNc (gN 6) gN0)))))) cYes (cTup (aCons (cV 2) (aCons (cV 3) (aCons (cV 4) (aCons (cV 5) (aCons (cON listT (aCons (cV 6) aNil)) aNil)))))) (rs.map rF) [] [t0, t1, none, none, none, none, none] = some (rs.map rO, [t0, t1, none, none, none, none, none]) := by
  obtain ⟨qs, rfl⟩ := with_p hs
  have c1 := lc_pure (vs := [2, 3, 4, 5, 6]) (g := (gUn 5 (gNc (gN 2) (gNc (gN 3) (gNc (gN 4) (gNc (gN 5) (gNc (gN 6) gN0))))))) (c := cYes) (a := (cTup (aCons (cV 2) (aCons (cV 3) (aCons (cV 4) (aCons (cV 5) (aCons (cON listT (aCons (cV 6) aNil)) aNil))))))) (f := fun x : {r : Ru // r.ss.length < 64} => rF x.1) (env := [t0, t1, none, none, none, none, none]) (fun _ => true) (fun x => rO x.1) (fun x acc hz => by
    obtain ⟨r, h⟩ := x
    have f1 := pS_fz r.ss
    have l1 : (r.ss.map pS).length ≤ sizeLine := sz (by rw [List.length_map]; omega)
    simp only
    unfold rF rO
    generalize r.ss.map pS = SM at *
    simp [lcTurn, hz, f1, l1, sz]) qs [] (by
      rw [List.length_map] at hl
      simpa using sz (by omega))
  rw [List.nil_append, List.filter_eq_self.mpr fun _ _ => rfl] at c1
  rw [List.map_map, List.map_map]
  exact c1
theorem rFs_fz (rs : List Ru) : fzL (rs.map rF) = true := fzL_map rF rF_fz rs
theorem e_mrules (c : Ru → Bool) (rs : List Ru) (hl : rs.length ≤ 1000) (hs : ∀ r ∈ rs, r.ss.length < 64) (h : ∀ r ∈ rs, f_ask_rule [rF r] = some (if c r = true then .ok .non [rF r] else .ex "NoRule" [rF r])) :
    f_made_rules [.lst false (rs.map rF)] = some (if rs.length ≤ 40 ∧ rs.all c = true then .ok (.lst true (rs.map rO)) [.lst false (rs.map rF)] else .ex "NoRule" [.lst false (rs.map rF)]) := by
  obtain ⟨y1, e1⟩ := ru_loop c (some (.lst false (rs.map rF))) none none none none none rs none h
  have c1 := rO_lc rs hl hs (some (.lst false (rs.map rF))) y1
  have fR := rFs_fz rs
  have ll : lenT [.lst false (rs.map rF)] = some (.int (rs.length : Int)) := by simp
  generalize rs.all c = ab at *
  generalize rs.map rO = OM at *
  generalize rs.map rF = FM at *
  generalize hx : xRu = XR at *
  unfold xRu at hx
  unfold f_made_rules b_made_rules
  simp only [hx]
  by_cases hz : (rs.length : Int) > 40
  · have hz2 : ¬ (rs.length ≤ 40 ∧ ab = true) := by omega
    rw [if_neg hz2]
    clear hz2 hl
    generalize (rs.length : Int) = N at *
    simp [-lenT_lst, runX, kSeq, kIf, kRai, lf, ll, hz, fR, outsOf]
  · cases ab
    · rw [if_neg (by simp)]
      clear hl
      generalize (rs.length : Int) = N at *
      simp [-lenT_lst, runX, kSeq, kIf, kRai, kFor, lf, ll, hz, e1, fR, outsOf]
    · rw [if_pos ⟨by omega, rfl⟩]
      clear hl
      generalize (rs.length : Int) = N at *
      simp [-lenT_lst, runX, kSeq, kIf, kRai, kFor, lf, ll, hz, e1, c1, fR, outsOf, wipeE, bring]
/-! k12: marks; a drawn rule -/
theorem nm_0 : f_is_name [.str ""] = some (.bl false, [.str ""]) := by rfl
theorem nm_big : f_is_name [.str "big"] = some (.bl true, [.str "big"]) := by rfl
theorem nm_red : f_is_name [.str "red"] = some (.bl true, [.str "red"]) := by rfl
theorem nm_far : f_is_name [.str "far"] = some (.bl true, [.str "far"]) := by rfl
theorem nm_of : f_is_name [.str "of"] = some (.bl true, [.str "of"]) := by rfl
theorem nm_small : f_is_name [.str "small"] = some (.bl true, [.str "small"]) := by rfl
theorem nm_ah : f_is_name [.str "abcdefgh"] = some (.bl true, [.str "abcdefgh"]) := by rfl
theorem nb_1 : f_is_name [.str "Big"] = some (.bl false, [.str "Big"]) := by rfl
theorem nb_2 : f_is_name [.str "big1"] = some (.bl false, [.str "big1"]) := by rfl
theorem nb_3 : f_is_name [.str "abcdefghi"] = some (.bl false, [.str "abcdefghi"]) := by rfl
theorem nb_4 : f_is_name [.str "a b"] = some (.bl false, [.str "a b"]) := by rfl
theorem nb_5 : f_is_name [.str "{"] = some (.bl false, [.str "{"]) := by rfl
theorem nb_6 : f_is_name [.str "-"] = some (.bl false, [.str "-"]) := by rfl
/-- a rule whose mark's name is reckoned -/
structure Rm (r : Ru) (ok : Bool) : Prop where
  l : r.ss.length < 64
  e : ∃ mb : Bool, f_is_name [.str r.mr] = some (.bl mb, [.str r.mr]) ∧ ckR mb r = ok
open Classical in
noncomputable def ckB (r : Ru) : Bool := if Rm r true then true else false
theorem Rm.ask {r : Ru} {ok : Bool} (h : Rm r ok) : f_ask_rule [rF r] = some (if ok = true then .ok .non [rF r] else .ex "NoRule" [rF r]) := by
  obtain ⟨mb, h1, h2⟩ := h.e
  have := e_arule r mb h1 h.l
  rw [h2] at this
  exact this
theorem Rm.uniq {r : Ru} {a b : Bool} (h : Rm r a) (g : Rm r b) : a = b := by
  obtain ⟨m1, h1, h2⟩ := h.e
  obtain ⟨m2, g1, g2⟩ := g.e
  rw [h1] at g1
  cases g1
  exact h2.symm.trans g2
theorem Rm.ck {r : Ru} {ok : Bool} (h : Rm r ok) : ckB r = ok := by
  unfold ckB
  cases ok with
  | true => rw [if_pos h]
  | false => rw [if_neg fun g => by have := h.uniq g; cases this]
theorem Rm.askB {r : Ru} (h : ∃ ok, Rm r ok) : f_ask_rule [rF r] = some (if ckB r = true then .ok .non [rF r] else .ex "NoRule" [rF r]) := by
  obtain ⟨ok, h⟩ := h
  rw [h.ck]
  exact h.ask
theorem e_mB (rs : List Ru) (hl : rs.length ≤ 1000) (h : ∀ r ∈ rs, ∃ ok, Rm r ok) : f_made_rules [.lst false (rs.map rF)] = some (if rs.length ≤ 40 ∧ rs.all ckB = true then .ok (.lst true (rs.map rO)) [.lst false (rs.map rF)] else .ex "NoRule" [.lst false (rs.map rF)]) :=
  e_mrules ckB rs hl (fun r hr => by obtain ⟨ok, g⟩ := h r hr; exact g.l) fun r hr => Rm.askB (h r hr)
def kinds12 : List T := [.str "", .str "", .str "", .str "text", .str "head", .str "case", .str "shelf", .str "grid", .str "picture", .str "aside", .str "note", .str "body"]
theorem pick12 (i : Int) (h0 : 0 ≤ i) (h1 : i < 12) : ∃ K : Str, atI kinds12 i = some (.str K) ∧ kbad K = false := by
  have : i = 0 ∨ i = 1 ∨ i = 2 ∨ i = 3 ∨ i = 4 ∨ i = 5 ∨ i = 6 ∨ i = 7 ∨ i = 8 ∨ i = 9 ∨ i = 10 ∨ i = 11 := by omega
  rcases this with rfl | rfl | rfl | rfl | rfl | rfl | rfl | rfl | rfl | rfl | rfl | rfl <;> exact ⟨_, rfl, by decide +kernel⟩
def okM (m : Str) : Prop := m = "" ∨ f_is_name [.str m] = some (.bl true, [.str m])
theorem pick7 (i : Int) (h0 : 0 ≤ i) (h1 : i < 7) : ∃ K : Str, atI [T.str "", T.str "", T.str "big", T.str "red", T.str "far", T.str "of", T.str "small"] i = some (.str K) ∧ okM K := by
  have : i = 0 ∨ i = 1 ∨ i = 2 ∨ i = 3 ∨ i = 4 ∨ i = 5 ∨ i = 6 := by omega
  rcases this with rfl | rfl | rfl | rfl | rfl | rfl | rfl
  · exact ⟨_, rfl, .inl rfl⟩
  · exact ⟨_, rfl, .inl rfl⟩
  · exact ⟨_, rfl, .inr nm_big⟩
  · exact ⟨_, rfl, .inr nm_red⟩
  · exact ⟨_, rfl, .inr nm_far⟩
  · exact ⟨_, rfl, .inr nm_of⟩
  · exact ⟨_, rfl, .inr nm_small⟩
theorem okM.mb {m : Str} (h : okM m) : ∃ mb : Bool, f_is_name [.str m] = some (.bl mb, [.str m]) ∧ (decide (m = "") || mb) = true := by
  rcases h with rfl | h
  · exact ⟨false, nm_0, rfl⟩
  · exact ⟨true, h, by simp⟩
theorem pick13 (i : Int) (h0 : 0 ≤ i) (h1 : i < 13) : ∃ b ∈ tab13, atI (tab13.map tbT) i = some (tbT b) ∧ b.2.1 ≤ b.2.2.1 ∧ 0 ≤ b.2.1 ∧ b.2.2.1 ≤ 4000 ∧ tab13.find? (fun c => decide (c.1 = b.1)) = some b := by
  have hl : i.toNat < tab13.length := by show i.toNat < 13; omega
  have e := List.getElem?_eq_getElem hl
  have : ∀ p ∈ tab13, p.2.1 ≤ p.2.2.1 ∧ 0 ≤ p.2.1 ∧ p.2.2.1 ≤ 4000 ∧ tab13.find? (fun c => decide (c.1 = p.1)) = some p := by decide +kernel
  have q : atI (tab13.map tbT) i = some (tbT tab13[i.toNat]) := atI_of h0 (by rw [List.getElem?_map, e]; rfl)
  exact ⟨tab13[i.toNat], List.getElem_mem hl, q, this _ (List.getElem_mem hl)⟩
theorem okS1_at {b : Str × Int × Int × Int} (h : tab13.find? (fun c => decide (c.1 = b.1)) = some b) (v : Int) : okS1 b.1 v = (decide (b.2.1 ≤ v) && decide (v ≤ b.2.2.1)) := by
  unfold okS1
  rw [h]
theorem e_snames (ss : List SI') (hl : ss.length ≤ 1000) (t0 t1 t2 t3 t4 t5 t6 t7 t8 t9 t10 t11 : Option T) :
    lcLoop [12, 13] (gUn 2 (gNc (gN 12) (gNc (gN 13) gN0))) cYes (cV 12) (ss.map pS) [] [t0, t1, t2, t3, t4, t5, t6, t7, t8, t9, t10, t11, none, none] = some ((ss.map fun p => p.1).map T.str, [t0, t1, t2, t3, t4, t5, t6, t7, t8, t9, t10, t11, none, none]) := by
  have c1 := lc_pure (vs := [12, 13]) (g := (gUn 2 (gNc (gN 12) (gNc (gN 13) gN0)))) (c := cYes) (a := cV 12) (f := pS) (env := [t0, t1, t2, t3, t4, t5, t6, t7, t8, t9, t10, t11, none, none]) (fun _ => true) (fun p => T.str p.1) (fun p acc hz => by simp [lcTurn, pS, hz]) ss [] (by simpa using sz (by omega))
  rw [List.nil_append, List.filter_eq_self.mpr fun _ _ => rfl] at c1
  rw [c1, List.map_map]
  rfl
/-- the sets of a drawn rule -/
structure SsOk (ss : List SI') : Prop where
  l : ss.length ≤ 20
  n : (ss.map fun p => p.1).Nodup
  o : ∀ p ∈ ss, okS1 p.1 p.2 = true
theorem e_rule (a b : Int) : ∃ (r : Ru) (a' b' : Int), f__law_rule [.lst true [.int a, .int b]] = some (rO r, [.lst true [.int a', .int b']]) ∧ 0 ≤ r.rk ∧ r.rk ≤ 9 ∧ kbad r.kd = false ∧ kbad r.ar = false ∧ okM r.mr ∧ SsOk r.ss ∧ r.ss ≠ [] := by
  obtain ⟨d1, a1, b1, t1, p1', q1⟩ := take_ok a b 10 (by decide) (by decide)
  obtain ⟨d2, a2, b2, t2, p2, q2⟩ := take_ok a1 b1 2 (by decide) (by decide)
  obtain ⟨d3, a3, b3, t3, p3, q3⟩ := take_ok a2 b2 12 (by decide) (by decide)
  obtain ⟨d4, a4, b4, t4, p4, q4⟩ := take_ok a3 b3 12 (by decide) (by decide)
  obtain ⟨d5, a5, b5, t5, p5, q5⟩ := take_ok a4 b4 7 (by decide) (by decide)
  obtain ⟨d6, a6, b6, t6, p6, q6⟩ := take_ok a5 b5 13 (by decide) (by decide)
  obtain ⟨K1, k1, kb1⟩ := pick12 d3 p3 q3
  obtain ⟨K2, k2, kb2⟩ := pick12 d4 p4 q4
  obtain ⟨K3, k3, kb3⟩ := pick7 d5 p5 q5
  have go : ∀ rk : Int, ∃ (ss : List SI') (x y : Int) (u7 u8 u9 u10 u11 : Option T), loop (gN 7) (cSeq (cAsg (cFr (cO2 ixT (cCall f__law_table [] aNil) (cCall f__law_take [true, false] (aCons (cV 0) (aCons (cK (.int 13)) aNil))))) (gUn 4 (gNc (gN 8) (gNc (gN 9) (gNc (gN 10) (gNc (gN 11) gN0))))))
  (cIfS (cTest (cO2 (inFT true) (cV 8) (cLend (cLc 14 [12, 13] (iLs (cV 6)) (gUn 2 (gNc (gN 12) (gNc (gN 13) gN0))) cYes (cV 12))))) (cDrop (cApp 6 (cTup (aCons (cV 8) (aCons (cO2 addT (cV 9) (cCall f__law_take [true, false] (aCons (cV 0) (aCons (cO2 addT (cO2 subT (cV 10) (cV 9)) (cK (.int 1))) aNil)))) aNil))))) cSkip)) (rngI 0 (1 + d6).toNat)
      [some (.lst true [.int a6, .int b6]), some (.lst false kinds12), some (.int rk), some (.str K1), some (.str K2), some (.str K3), some (.lst true []), none, none, none, none, none, none, none] =
      some (.nx [some (.lst true [.int x, .int y]), some (.lst false kinds12), some (.int rk), some (.str K1), some (.str K2), some (.str K3), some (.lst true (ss.map pS)), u7, u8, u9, u10, u11, none, none]) ∧ SsOk ss ∧ ss ≠ [] := fun rk => by
    obtain ⟨e', l1, ss, x, y, u7, u8, u9, u10, u11, re, hl, hno, ho, hn0⟩ := loop_rng (g := gN 7) (b := (cSeq (cAsg (cFr (cO2 ixT (cCall f__law_table [] aNil) (cCall f__law_take [true, false] (aCons (cV 0) (aCons (cK (.int 13)) aNil))))) (gUn 4 (gNc (gN 8) (gNc (gN 9) (gNc (gN 10) (gNc (gN 11) gN0))))))
  (cIfS (cTest (cO2 (inFT true) (cV 8) (cLend (cLc 14 [12, 13] (iLs (cV 6)) (gUn 2 (gNc (gN 12) (gNc (gN 13) gN0))) cYes (cV 12))))) (cDrop (cApp 6 (cTup (aCons (cV 8) (aCons (cO2 addT (cV 9) (cCall f__law_take [true, false] (aCons (cV 0) (aCons (cO2 addT (cO2 subT (cV 10) (cV 9)) (cK (.int 1))) aNil)))) aNil))))) cSkip))) (lo := 0) (n := (1 + d6).toNat)
      (env := [some (.lst true [.int a6, .int b6]), some (.lst false kinds12), some (.int rk), some (.str K1), some (.str K2), some (.str K3), some (.lst true []), none, none, none, none, none, none, none])
      (fun i e => ∃ (ss : List SI') (x y : Int) (u7 u8 u9 u10 u11 : Option T), e = [some (.lst true [.int x, .int y]), some (.lst false kinds12), some (.int rk), some (.str K1), some (.str K2), some (.str K3), some (.lst true (ss.map pS)), u7, u8, u9, u10, u11, none, none] ∧ ss.length ≤ i ∧ (ss.map fun p => p.1).Nodup ∧ (∀ p ∈ ss, okS1 p.1 p.2 = true) ∧ (0 < i → ss ≠ []))
      ⟨[], a6, b6, none, none, none, none, none, rfl, by simp, by simp, (fun p hp => by cases hp), fun z => absurd z (by decide)⟩ (by
      rintro i e hi ⟨ss, x, y, u7, u8, u9, u10, u11, rfl, hl, hno, ho, hn0⟩
      obtain ⟨d, x1, y1, t7, p7, q7⟩ := take_ok x y 13 (by decide) (by decide)
      obtain ⟨⟨w, lo, hi', pl⟩, hbm, ew, w1, w2, w3, wf⟩ := pick13 d p7 q7
      simp only at w1 w2 w3
      obtain ⟨v, x2, y2, t8, p8, q8⟩ := take_ok x1 y1 (hi' - lo + 1) (by omega) (by omega)
      have hov : okS1 w (lo + v) = true := by
        have := okS1_at wf (lo + v)
        simp only at this
        rw [this]
        simp
        omega
      have nm := e_snames ss (by omega) (some (.lst false [.int x1, .int y1])) (some (.lst false kinds12)) (some (.int rk)) (some (.str K1)) (some (.str K2)) (some (.str K3)) (some (.lst false (ss.map pS))) (some (.int (0 + (i : Int)))) (some (.str w)) (some (.int lo)) (some (.int hi')) (some (.int pl))
      have ins := in_strs true true w (ss.map fun p => p.1)
      have f1 := pS_fz ss
      have f2 := pS_er ss
      have f3 := pS_nt ss
      have n1 := str_nl (ss.map fun p => p.1)
      have kz : erL kinds12 = kinds12 := by simp [kinds12]
      have kn : ntL kinds12 = true := by simp [kinds12, ntL, T.nt]
      have l4 : (ss.map pS).length < sizeLine := szl (by rw [List.length_map]; omega)
      have sn : (ss ++ [((w, lo + v) : SI')]).map pS = ss.map pS ++ [.tup false [.str w, .int (lo + v)]] := by simp [pS]
      generalize (0 + (i : Int)) = j at *
      have ew : atI (tab13.map tbT) d = some (.tup false [.str w, .int lo, .int hi', .int pl]) := ew
      have et := e_table
      generalize tab13.map tbT = TB at *
      cases hb : (ss.map fun p => p.1).any fun k => decide (k = w) with
      | true =>
        have ne : ss ≠ [] := fun z => by rw [z] at hb; cases hb
        rw [hb] at ins
        refine ⟨_, ?_, ss, x1, y1, some (.int j), some (.str w), some (.int lo), some (.int hi'), some (.int pl), rfl, by omega, hno, ho, fun _ => ne⟩
        clear hno ho hb hn0
        generalize (ss.map fun p => p.1).map T.str = NM at *
        generalize ss.map pS = L at *
        generalize kinds12 = K12 at *
        simp [-inFT_lst, et, t7, ew, ntE, erE, T.nt, ntL, T.nl, f1, f2, f3, kz, kn, wipeE, bring, nm, n1, ins]
      | false =>
        have nw : w ∉ ss.map fun p => p.1 := fun z => by
          rw [List.any_eq_false] at hb
          exact hb w z (by simp)
        rw [hb] at ins
        refine ⟨_, ?_, ss ++ [(w, lo + v)], x2, y2, some (.int j), some (.str w), some (.int lo), some (.int hi'), some (.int pl), rfl, by simp; omega, ?_, fun p hp => ?_, fun _ => by simp⟩
        · rw [sn]
          clear hno ho hb hn0 nw
          generalize (ss.map fun p => p.1).map T.str = NM at *
          generalize ss.map pS = L at *
          generalize kinds12 = K12 at *
          simp [-inFT_lst, et, t7, ew, ntE, erE, T.nt, ntL, T.nl, f1, f2, f3, kz, kn, wipeE, bring, nm, n1, ins, t8, l4, sz]
        · rw [List.map_append, List.nodup_append]
          refine ⟨hno, by simp, fun x hx y hy => ?_⟩
          have hy : y = w := by simpa using hy
          rw [hy]
          exact fun z => nw (z ▸ hx)
        · rcases List.mem_append.mp hp with hp | hp
          · exact ho p hp
          · rw [List.mem_singleton.mp hp]; exact hov)
    subst re
    exact ⟨ss, x, y, u7, u8, u9, u10, u11, l1, ⟨by omega, hno, ho⟩, hn0 (by omega)⟩
  have e2 : eqT (.int d2) (.int 1) = some (.bl (decide (d2 = 1))) := by simp
  have r6 : inR (1 + d6) = true := inR_of (by omega) (by omega)
  have l12 : kinds12 = [.str "", .str "", .str "", .str "text", .str "head", .str "case", .str "shelf", .str "grid", .str "picture", .str "aside", .str "note", .str "body"] := rfl
  by_cases hd : d2 = 1
  · obtain ⟨ss, x, y, u7, u8, u9, u10, u11, lp, hl, hn⟩ := go (d1 % 2)
    refine ⟨⟨d1 % 2, K1, K2, K3, ss⟩, x, y, ?_, by show 0 ≤ d1 % 2; omega, by show d1 % 2 ≤ 9; omega, kb1, kb2, kb3, hl, hn⟩
    unfold rO
    have f1 := pS_fz ss
    clear hl hn
    generalize ss.map pS = L at *
    rw [l12] at lp k1 k2
    simp [f__law_rule, b__law_rule, t1, t2, hd, t3, t4, t5, t6, k1, k2, k3, r6, lp, sz]
  · obtain ⟨ss, x, y, u7, u8, u9, u10, u11, lp, hl, hn⟩ := go d1
    refine ⟨⟨d1, K1, K2, K3, ss⟩, x, y, ?_, p1', by show d1 ≤ 9; omega, kb1, kb2, kb3, hl, hn⟩
    unfold rO
    have f1 := pS_fz ss
    clear hl hn
    generalize ss.map pS = L at *
    rw [l12] at lp k1 k2
    simp [f__law_rule, b__law_rule, t1, t2, hd, t3, t4, t5, t6, k1, k2, k3, r6, lp, sz]
/-! k12: a rule spoiled -/
structure Good (r : Ru) : Prop where
  r0 : 0 ≤ r.rk
  r1 : r.rk ≤ 9
  k : kbad r.kd = false
  a : kbad r.ar = false
  m : okM r.mr
  s : SsOk r.ss
  n : r.ss ≠ []
theorem Good.ok {r : Ru} (h : Good r) : Rm r true := by
  obtain ⟨mb, h1, h2⟩ := h.m.mb
  refine ⟨by have := h.s.l; omega, mb, h1, ?_⟩
  have a1 : (r.ss.all fun p => okS1 p.1 p.2) = true := List.all_eq_true.mpr h.s.o
  have a2 : wdB r.ss = true := by
    unfold wdB
    rw [decide_eq_true h.s.n]
    have := h.n
    cases hs : r.ss with
    | nil => exact absurd hs this
    | cons x l => rfl
  unfold ckR
  rw [a1, a2, h2, h.k, h.a, decide_eq_true h.r0, decide_eq_true h.r1]
  rfl
theorem bad_rank {r : Ru} (h : ¬ (0 ≤ r.rk ∧ r.rk ≤ 9)) (hm : ∃ mb, f_is_name [.str r.mr] = some (.bl mb, [.str r.mr])) (hl : r.ss.length < 64) : Rm r false := by
  obtain ⟨mb, h1⟩ := hm
  refine ⟨hl, mb, h1, ?_⟩
  have : (decide (0 ≤ r.rk) && decide (r.rk ≤ 9)) = false := by
    rw [Bool.eq_false_iff]; simpa using h
  unfold ckR
  rw [this, Bool.false_and]
theorem bad_kind {r : Ru} (h : (kbad r.kd || kbad r.ar) = true) (hm : ∃ mb, f_is_name [.str r.mr] = some (.bl mb, [.str r.mr])) (hl : r.ss.length < 64) : Rm r false := by
  obtain ⟨mb, h1⟩ := hm
  refine ⟨hl, mb, h1, ?_⟩
  unfold ckR
  rw [h]
  simp
theorem bad_mark {r : Ru} (h0 : r.mr ≠ "") (h1 : f_is_name [.str r.mr] = some (.bl false, [.str r.mr])) (hl : r.ss.length < 64) : Rm r false := by
  refine ⟨hl, false, h1, ?_⟩
  unfold ckR
  rw [decide_eq_false h0]
  simp
theorem bad_sets {r : Ru} (h : wdB r.ss = false ∨ ∃ p ∈ r.ss, okS1 p.1 p.2 = false) (hm : ∃ mb, f_is_name [.str r.mr] = some (.bl mb, [.str r.mr])) (hl : r.ss.length < 64) : Rm r false := by
  obtain ⟨mb, h1⟩ := hm
  refine ⟨hl, mb, h1, ?_⟩
  have : (wdB r.ss && r.ss.all fun p => okS1 p.1 p.2) = false := by
    rcases h with h | ⟨p, hp, h⟩
    · rw [h, Bool.false_and]
    · have : (r.ss.all fun p => okS1 p.1 p.2) = false := by
        rw [List.all_eq_false]
        exact ⟨p, hp, by rw [h]; decide⟩
      rw [this, Bool.and_false]
  unfold ckR
  rw [this]
  simp
theorem pick4 (i : Int) (h0 : 0 ≤ i) (h1 : i < 4) : ∃ K : Str, atI [T.str "bodies", T.str "Text", T.str "none", T.str "word"] i = some (.str K) ∧ kbad K = true := by
  have : i = 0 ∨ i = 1 ∨ i = 2 ∨ i = 3 := by omega
  rcases this with rfl | rfl | rfl | rfl <;> exact ⟨_, rfl, by decide +kernel⟩
theorem pick6 (i : Int) (h0 : 0 ≤ i) (h1 : i < 6) : ∃ K : Str, atI [T.str "Big", T.str "big1", T.str "abcdefghi", T.str "a b", T.str "{", T.str "-"] i = some (.str K) ∧ K ≠ "" ∧ f_is_name [.str K] = some (.bl false, [.str K]) := by
  have : i = 0 ∨ i = 1 ∨ i = 2 ∨ i = 3 ∨ i = 4 ∨ i = 5 := by omega
  rcases this with rfl | rfl | rfl | rfl | rfl | rfl
  · exact ⟨_, rfl, by decide +kernel, nb_1⟩
  · exact ⟨_, rfl, by decide +kernel, nb_2⟩
  · exact ⟨_, rfl, by decide +kernel, nb_3⟩
  · exact ⟨_, rfl, by decide +kernel, nb_4⟩
  · exact ⟨_, rfl, by decide +kernel, nb_5⟩
  · exact ⟨_, rfl, by decide +kernel, nb_6⟩
theorem pick4w (i : Int) (h0 : 0 ≤ i) (h1 : i < 4) : ∃ K : Str, atI [T.str "faces", T.str "", T.str "Wide", T.str "high"] i = some (.str K) ∧ ∀ v, okS1 K v = false := by
  have : i = 0 ∨ i = 1 ∨ i = 2 ∨ i = 3 := by omega
  rcases this with rfl | rfl | rfl | rfl <;> exact ⟨_, rfl, fun v => rfl⟩
def lft (w : Str) (ss : List SI') : List SI' := ss.filter fun p => !decide (p.1 = w)
theorem lft_lc (w : Str) (ss : List SI') (hl : ss.length ≤ 1000) (t0 t1 t2 t3 t4 t5 t6 t7 t8 t10 t11 t12 t13 t14 : Option T) :
    lcLoop [15] (gN 15) (cTest (cO2 neT (cO2 ixT (cV 15) (cK (.int 0))) (cV 9))) (cV 15) (ss.map pS) [] [t0, t1, t2, t3, t4, t5, t6, t7, t8, some (.str w), t10, t11, t12, t13, t14, none] = some ((lft w ss).map pS, [t0, t1, t2, t3, t4, t5, t6, t7, t8, some (.str w), t10, t11, t12, t13, t14, none]) := by
  have c1 := lc_pure (vs := [15]) (g := gN 15) (c := (cTest (cO2 neT (cO2 ixT (cV 15) (cK (.int 0))) (cV 9)))) (a := cV 15) (f := pS) (env := [t0, t1, t2, t3, t4, t5, t6, t7, t8, some (.str w), t10, t11, t12, t13, t14, none]) (fun p => !decide (p.1 = w)) pS (fun p acc hz => by
    obtain ⟨k, v⟩ := p
    have q := neT_strs k w
    simp only [pS]
    generalize decide (k = w) = D at *
    cases D <;> simp [lcTurn, hz, q]) ss [] (by simpa using sz (by omega))
  rw [List.nil_append] at c1
  exact c1
theorem lft_len (w : Str) (ss : List SI') : (lft w ss).length ≤ ss.length := List.length_filter_le _ _
theorem wd_dup (L : List SI') (w : Str) (v u : Int) : wdB (L ++ [(w, v), (w, u)]) = false := by
  unfold wdB
  have : ¬ ((L ++ [(w, v), (w, u)]).map fun p => p.1).Nodup := by
    rw [List.map_append, List.nodup_append]
    rintro ⟨_, h, _⟩
    simp at h
  rw [decide_eq_false this, Bool.and_false]
theorem e_spoil {r : Ru} (h : Good r) (a b : Int) : ∃ (q : Ru) (R : T) (a' b' : Int), f__law_spoiled [rF r, .lst true [.int a, .int b]] = some (R, [rF r, .lst true [.int a', .int b']]) ∧ R.er = rF q ∧ Rm q false := by
  obtain ⟨d, a1, b1, t1, p1', q1⟩ := take_ok a b 15 (by decide) (by decide)
  obtain ⟨far, a2, b2, t2, p2, q2⟩ := take_ok a1 b1 1000000000 (by decide) (by decide)
  obtain ⟨e, a3, b3, t3, p3, q3⟩ := take_ok a2 b2 13 (by decide) (by decide)
  obtain ⟨⟨w, lo, hi, pl⟩, hbm, ew, w1, w2, w3, wf⟩ := pick13 e p3 q3
  simp only at w1 w2 w3
  have ew : atI (tab13.map tbT) e = some (.tup false [.str w, .int lo, .int hi, .int pl]) := ew
  have et := e_table
  have pw : powT (.int 10) (.int 9) = some (.int 1000000000) := by rfl
  have sl := h.s.l
  have ll := lft_len w r.ss
  have hm : ∃ mb, f_is_name [.str r.mr] = some (.bl mb, [.str r.mr]) := by obtain ⟨mb, h1, _⟩ := h.m.mb; exact ⟨mb, h1⟩
  have lc := lft_lc w r.ss (by omega) (some (rF r)) (some (.lst true [.int a3, .int b3])) (some (.int r.rk)) (some (.str r.kd)) (some (.str r.ar)) (some (.str r.mr)) (some (.lst false (r.ss.map pS))) (some (.int d)) (some (.int far)) (some (.int lo)) (some (.int hi)) (some (.int pl)) none none
  have fS := pS_fz r.ss
  have eS := pS_er r.ss
  have fL := pS_fz (lft w r.ss)
  have eL := pS_er (lft w r.ss)
  have l1 : ((lft w r.ss).map pS).length + 1 ≤ sizeLine := sz (by rw [List.length_map]; omega)
  have l2 : ((lft w r.ss).map pS).length + 2 ≤ sizeLine := sz (by rw [List.length_map]; omega)
  have fR := rF_fz r
  have hu : rF r = .tup false [.int r.rk, .str r.kd, .str r.ar, .str r.mr, .lst false (r.ss.map pS)] := rfl
  have okv := okS1_at wf
  simp only at okv
  rw [hu] at lc fR ⊢
  have fin : ∀ q : Ru, rF q = .tup false [.int q.rk, .str q.kd, .str q.ar, .str q.mr, .lst false (q.ss.map pS)] := fun _ => rfl
  generalize hS : r.ss.map pS = SM at *
  generalize hL : (lft w r.ss).map pS = LM at *
  generalize tab13.map tbT = TB at *
  by_cases c1 : d < 2
  · have dd : d = 0 ∨ d = 1 := by omega
    rcases dd with rfl | rfl
    · refine ⟨⟨-1 - far, r.kd, r.ar, r.mr, r.ss⟩, .tup false [.int (-1 - far), .str r.kd, .str r.ar, .str r.mr, .lst false SM], a3, b3, ?_, ?_, bad_rank (by show ¬ (0 ≤ -1 - far ∧ -1 - far ≤ 9); omega) hm (by show r.ss.length < 64; omega)⟩
      · simp [f__law_spoiled, b__law_spoiled, t1, t2, t3, pw, et, ew, lc, fS, eS, fL, eL, fR, sz, wipeE, bring]
      · rw [fin]; simp [hS, eS]
    · refine ⟨⟨10 + far, r.kd, r.ar, r.mr, r.ss⟩, .tup false [.int (10 + far), .str r.kd, .str r.ar, .str r.mr, .lst false SM], a3, b3, ?_, ?_, bad_rank (by show ¬ (0 ≤ 10 + far ∧ 10 + far ≤ 9); omega) hm (by show r.ss.length < 64; omega)⟩
      · simp [f__law_spoiled, b__law_spoiled, t1, t2, t3, pw, et, ew, lc, fS, eS, fL, eL, fR, sz, wipeE, bring]
      · rw [fin]; simp [hS, eS]
  · by_cases c2 : d < 6
    · obtain ⟨g, a4, b4, t4, p4, q4⟩ := take_ok a3 b3 4 (by decide) (by decide)
      obtain ⟨K, ek, kb⟩ := pick4 g p4 q4
      have dm : d % 2 = 0 ∨ d % 2 = 1 := by omega
      rcases dm with dm | dm
      · refine ⟨⟨r.rk, K, r.ar, r.mr, r.ss⟩, .tup false [.int (r.rk), .str K, .str r.ar, .str r.mr, .lst false SM], a4, b4, ?_, ?_, bad_kind (by show (kbad K || kbad r.ar) = true; rw [kb]; rfl) hm (by show r.ss.length < 64; omega)⟩
        · simp [f__law_spoiled, b__law_spoiled, t1, t2, t3, t4, ek, pw, et, ew, lc, fS, eS, fL, eL, fR, c1, c2, dm, sz, wipeE, bring]
        · rw [fin]; simp [hS, eS]
      · refine ⟨⟨r.rk, r.kd, K, r.mr, r.ss⟩, .tup false [.int (r.rk), .str r.kd, .str K, .str r.mr, .lst false SM], a4, b4, ?_, ?_, bad_kind (by show (kbad r.kd || kbad K) = true; rw [kb]; simp) hm (by show r.ss.length < 64; omega)⟩
        · simp [f__law_spoiled, b__law_spoiled, t1, t2, t3, t4, ek, pw, et, ew, lc, fS, eS, fL, eL, fR, c1, c2, dm, sz, wipeE, bring]
        · rw [fin]; simp [hS, eS]
    · by_cases c3 : d < 10
      · obtain ⟨g, a4, b4, t4, p4, q4⟩ := take_ok a3 b3 6 (by decide) (by decide)
        obtain ⟨K, ek, kn, kb⟩ := pick6 g p4 q4
        refine ⟨⟨r.rk, r.kd, r.ar, K, r.ss⟩, .tup false [.int (r.rk), .str r.kd, .str r.ar, .str K, .lst false SM], a4, b4, ?_, ?_, bad_mark kn kb (by show r.ss.length < 64; omega)⟩
        · simp [f__law_spoiled, b__law_spoiled, t1, t2, t3, t4, ek, pw, et, ew, lc, fS, eS, fL, eL, fR, c1, c2, c3, sz, wipeE, bring]
        · rw [fin]; simp [hS, eS]
      · have dd : d = 10 ∨ d = 11 ∨ d = 12 ∨ d = 13 ∨ d = 14 := by omega
        clear c1 c2 c3
        rcases dd with rfl | rfl | rfl | rfl | rfl
        · refine ⟨⟨r.rk, r.kd, r.ar, r.mr, []⟩, .tup true [.int (r.rk), .str r.kd, .str r.ar, .str r.mr, .lst true []], a3, b3, ?_, ?_, bad_sets (.inl rfl) hm (by show 0 < 64; omega)⟩
          · simp [f__law_spoiled, b__law_spoiled, t1, t2, t3, pw, et, ew, lc, fS, eS, fL, eL, fR, sz, wipeE, bring]
          · rw [fin]; simp
        · obtain ⟨g, a4, b4, t4, p4, q4⟩ := take_ok a3 b3 4 (by decide) (by decide)
          obtain ⟨K, ek, kb⟩ := pick4w g p4 q4
          refine ⟨⟨r.rk, r.kd, r.ar, r.mr, lft w r.ss ++ [(K, hi)]⟩, .tup true [.int (r.rk), .str r.kd, .str r.ar, .str r.mr, .lst true (LM ++ [.tup false [.str K, .int (hi)]])], a4, b4, ?_, ?_, bad_sets (.inr ⟨(K, hi), by simp, kb hi⟩) hm (by show (lft w r.ss ++ [(K, hi)]).length < 64; rw [List.length_append]; simp; omega)⟩
          · simp [f__law_spoiled, b__law_spoiled, t1, t2, t3, t4, ek, pw, et, ew, lc, fS, eS, fL, eL, fR, l1, sz, wipeE, bring]
          · rw [fin]; simp [hL, eL, pS]
        · refine ⟨⟨r.rk, r.kd, r.ar, r.mr, lft w r.ss ++ [(w, lo), (w, hi)]⟩, .tup true [.int (r.rk), .str r.kd, .str r.ar, .str r.mr, .lst true (LM ++ [.tup false [.str w, .int (lo)], .tup false [.str w, .int (hi)]])], a3, b3, ?_, ?_, bad_sets (.inl (wd_dup _ _ _ _)) hm (by show (lft w r.ss ++ [(w, lo), (w, hi)]).length < 64; rw [List.length_append]; simp; omega)⟩
          · simp [f__law_spoiled, b__law_spoiled, t1, t2, t3, pw, et, ew, lc, fS, eS, fL, eL, fR, l2, sz, wipeE, bring]
          · rw [fin]; simp [hL, eL, pS]
        · refine ⟨⟨r.rk, r.kd, r.ar, r.mr, lft w r.ss ++ [(w, lo - 1 - far)]⟩, .tup true [.int (r.rk), .str r.kd, .str r.ar, .str r.mr, .lst true (LM ++ [.tup false [.str w, .int (lo - 1 - far)]])], a3, b3, ?_, ?_, bad_sets (.inr ⟨(w, lo - 1 - far), by simp, by show okS1 w (lo - 1 - far) = false; rw [okv, decide_eq_false (by omega)]; rfl⟩) hm (by show (lft w r.ss ++ [(w, lo - 1 - far)]).length < 64; rw [List.length_append]; simp; omega)⟩
          · simp [f__law_spoiled, b__law_spoiled, t1, t2, t3, pw, et, ew, lc, fS, eS, fL, eL, fR, l1, sz, wipeE, bring]
          · rw [fin]; simp [hL, eL, pS]
        · refine ⟨⟨r.rk, r.kd, r.ar, r.mr, lft w r.ss ++ [(w, hi + 1 + far)]⟩, .tup true [.int (r.rk), .str r.kd, .str r.ar, .str r.mr, .lst true (LM ++ [.tup false [.str w, .int (hi + 1 + far)]])], a3, b3, ?_, ?_, bad_sets (.inr ⟨(w, hi + 1 + far), by simp, by show okS1 w (hi + 1 + far) = false; rw [okv, decide_eq_false (show ¬ hi + 1 + far ≤ hi by omega), Bool.and_false]⟩) hm (by show (lft w r.ss ++ [(w, hi + 1 + far)]).length < 64; rw [List.length_append]; simp; omega)⟩
          · simp [f__law_spoiled, b__law_spoiled, t1, t2, t3, pw, et, ew, lc, fS, eS, fL, eL, fR, l1, sz, wipeE, bring]
          · rw [fin]; simp [hL, eL, pS]
/-! k12: the law -/
theorem rules_ok (t0 : Option T) (a b n : Int) (n0 : 0 ≤ n) (n1 : n ≤ 8) : ∃ (rs : List Ru) (a' b' : Int),
    lcLoop [12] (gN 12) cYes (cCall f__law_rule [true] (aCons (cV 1) aNil)) (rngI 0 n.toNat) [] [t0, some (.lst true [.int a, .int b]), none, none, none, none, none, none, none, none, none, none, none, none, none, none, none, none] = some (rs.map rO, [t0, some (.lst true [.int a', .int b']), none, none, none, none, none, none, none, none, none, none, none, none, none, none, none, none]) ∧ (rs.length : Int) = n ∧ ∀ r ∈ rs, Good r := by
  obtain ⟨acc, e', l1, rs, a', b', rfl, rfl, hl, hr⟩ := lc_rng (vs := [12]) (g := gN 12) (c := cYes) (a := (cCall f__law_rule [true] (aCons (cV 1) aNil))) (lo := 0) (n := n.toNat) (env := [t0, some (.lst true [.int a, .int b]), none, none, none, none, none, none, none, none, none, none, none, none, none, none, none, none])
    (fun i acc e => ∃ (rs : List Ru) (a' b' : Int), acc = rs.map rO ∧ e = [t0, some (.lst true [.int a', .int b']), none, none, none, none, none, none, none, none, none, none, none, none, none, none, none, none] ∧ rs.length = i ∧ ∀ r ∈ rs, Good r) ⟨[], a, b, rfl, rfl, rfl, fun r h => by cases h⟩ (by
    rintro i acc e hi ⟨rs, a, b, rfl, rfl, hl, hr⟩
    obtain ⟨r, a', b', e1, g0, g1, g2, g3, g4, g5, g6⟩ := e_rule a b
    have l4 : (rs.map rO).length < sizeLine := szl (by rw [List.length_map]; omega)
    refine ⟨_, _, ?_, rs ++ [r], a', b', rfl, rfl, by simp [hl], fun q hq => ?_⟩
    · rw [List.map_append, List.map_cons, List.map_nil]
      generalize rO r = R at *
      generalize rs.map rO = L at *
      simp [lcTurn, e1, l4]
    · rcases List.mem_append.mp hq with hq | hq
      · exact hr q hq
      · rw [List.mem_singleton.mp hq]; exact ⟨g0, g1, g2, g3, g4, g5, g6⟩)
  exact ⟨rs, a', b', l1, by omega, hr⟩
theorem rO_erL : ∀ rs : List Ru, erL (rs.map rO) = rs.map rF
  | [] => by simp
  | r :: l => by simp [rO_erL l, rO_er]
theorem rF_dle (r : Ru) : (rF r).dle 15 = true := by
  have : dleL 13 (r.ss.map pS) = true := LP.dleL_map 13 pS (fun p => by simp [pS]) _
  simp [rF, this]
theorem rO_dle (r : Ru) : (rO r).dle 15 = true := by
  have : dleL 13 (r.ss.map pS) = true := LP.dleL_map 13 pS (fun p => by simp [pS]) _
  simp [rO, this]
theorem rO_py (r : Ru) : (rO r).py = (rF r).py := by simp [rO, rF, T.py, pyL]
theorem rO_pyL : ∀ rs : List Ru, pyL (rs.map rO) = pyL (rs.map rF)
  | [] => rfl
  | r :: l => by rw [List.map_cons, List.map_cons, pyL, pyL, rO_py, rO_pyL l]
theorem ne_OF (rs : List Ru) (o p : Bool) : neT (.lst o (rs.map rO)) (.lst p (rs.map rF)) = some (.bl false) := by
  have d1 : dleL 15 (rs.map rO) = true := LP.dleL_map 15 rO rO_dle rs
  have d2 : dleL 15 (rs.map rF) = true := LP.dleL_map 15 rF rF_dle rs
  have e := rO_pyL rs
  generalize rs.map rO = A at *
  generalize rs.map rF = B at *
  exact neT_py (by simp [d1]) (by simp [d2]) (by simp [T.py, e])
theorem eq_OF (rs : List Ru) (o p : Bool) : eqT (.lst o (rs.map rO)) (.lst p (rs.map rF)) = some (.bl true) := by
  have d1 : dleL 15 (rs.map rO) = true := LP.dleL_map 15 rO rO_dle rs
  have d2 : dleL 15 (rs.map rF) = true := LP.dleL_map 15 rF rF_dle rs
  have e := rO_pyL rs
  generalize rs.map rO = A at *
  generalize rs.map rF = B at *
  exact eqT_py (by simp [d1]) (by simp [d2]) (by simp [T.py, e])
theorem ne_FF (rs : List Ru) (o p : Bool) : neT (.lst o (rs.map rF)) (.lst p (rs.map rF)) = some (.bl false) := by
  have d2 : dleL 15 (rs.map rF) = true := LP.dleL_map 15 rF rF_dle rs
  generalize rs.map rF = B at *
  exact neT_py (by simp [d2]) (by simp [d2]) rfl
/-- what is refused and what is taken, as the law asks -/
theorem ref_yes {B : T} (fB : B.fz = true) (h : f_made_rules [B] = some (.ex "NoRule" [B])) : f__law_refused [B] = some (.bl true, [B]) := by
  have eB := er_of_fz fB
  have q : eqT (.lst true [.bl true, .bl true, .bl false]) (.lst true [.bl true, .bl true, .bl false]) = some (.bl true) := eqT_py (by simp) (by simp) rfl
  simp [f__law_refused, b__law_refused, kDrop, cCallX, h, fB, eB, q, sz]
theorem name_yes {B : T} (fB : B.fz = true) (h : f_made_rules [B] = some (.ex "NoRule" [B])) : f__law_by_name [B] = some (.bl true, [B]) := by
  have eB := er_of_fz fB
  simp [f__law_by_name, b__law_by_name, kTry, kDrop, cCallX, h, fB, eB, m1]
theorem part_ok {B R : T} (h : f_made_rules [B] = some (.ok R [B])) : gPart f_made_rules [] [B] = some (R, [B]) := by
  simp [gPart, gOk, h]
theorem ck_all {rs : List Ru} (h : ∀ r ∈ rs, Rm r true) : rs.all ckB = true := List.all_eq_true.mpr fun r hr => (h r hr).ck
theorem mk_ok {rs : List Ru} (hl : rs.length ≤ 40) (h : ∀ r ∈ rs, Rm r true) : f_made_rules [.lst false (rs.map rF)] = some (.ok (.lst true (rs.map rO)) [.lst false (rs.map rF)]) := by
  rw [e_mB rs (by omega) fun r hr => ⟨true, h r hr⟩, if_pos ⟨hl, ck_all h⟩]
theorem mk_no {rs : List Ru} (hl : rs.length ≤ 1000) (h : ∀ r ∈ rs, ∃ ok, Rm r ok) (hb : 40 < rs.length ∨ ∃ r ∈ rs, Rm r false) : f_made_rules [.lst false (rs.map rF)] = some (.ex "NoRule" [.lst false (rs.map rF)]) := by
  rw [e_mB rs hl h, if_neg]
  rintro ⟨h1, h2⟩
  rcases hb with hb | ⟨r, hr, hb⟩
  · omega
  · have := List.all_eq_true.mp h2 r hr
    rw [hb.ck] at this
    cases this
theorem hand_lc (rs : List Ru) (hl : rs.length ≤ 1000) (hs : ∀ r ∈ rs, r.ss.length < 64) (t0 t1 t2 t3 t4 t5 t6 t7 t8 t9 t10 t11 t12 : Option T) :
    lcLoop [13, 14, 15, 16, 17] (gUn 5 (gNc (gN 13) (gNc (gN 14) (gNc (gN 15) (gNc (gN 16) (gNc (gN 17) gN0)))))) cYes (cTup (aCons (cV 13) (aCons (cV 14) (aCons (cV 15) (aCons (cV 16) (aCons (cON listT (aCons (cV 17) aNil)) aNil)))))) (rs.map rF) [] [t0, t1, t2, t3, t4, t5, t6, t7, t8, t9, t10, t11, t12, none, none, none, none, none] = some (rs.map rO, [t0, t1, t2, t3, t4, t5, t6, t7, t8, t9, t10, t11, t12, none, none, none, none, none]) := by
  obtain ⟨qs, rfl⟩ := with_p hs
  have c1 := lc_pure (vs := [13, 14, 15, 16, 17]) (g := (gUn 5 (gNc (gN 13) (gNc (gN 14) (gNc (gN 15) (gNc (gN 16) (gNc (gN 17) gN0))))))) (c := cYes) (a := (cTup (aCons (cV 13) (aCons (cV 14) (aCons (cV 15) (aCons (cV 16) (aCons (cON listT (aCons (cV 17) aNil)) aNil))))))) (f := fun x : {r : Ru // r.ss.length < 64} => rF x.1) (env := [t0, t1, t2, t3, t4, t5, t6, t7, t8, t9, t10, t11, t12, none, none, none, none, none]) (fun _ => true) (fun x => rO x.1) (fun x acc hz => by
    obtain ⟨r, h⟩ := x
    have f1 := pS_fz r.ss
    have l1 : (r.ss.map pS).length ≤ sizeLine := sz (by rw [List.length_map]; omega)
    simp only
    unfold rF rO
    generalize r.ss.map pS = SM at *
    simp [lcTurn, hz, f1, l1, sz]) qs [] (by
      rw [List.length_map] at hl
      simpa using sz (by omega))
  rw [List.nil_append, List.filter_eq_self.mpr fun _ _ => rfl] at c1
  rw [List.map_map, List.map_map]
  exact c1
theorem cutL_map {α β : Type} (f : α → β) (xs : List α) (lo hi : Option Int) : cutL (xs.map f) lo hi = (cutL xs lo hi).map f := by
  unfold cutL
  simp [List.map_drop, List.map_take]
theorem cutL_sub {α : Type} (xs : List α) (lo hi : Option Int) : ∀ x ∈ cutL xs lo hi, x ∈ xs := fun x hx => List.mem_of_mem_drop (List.mem_of_mem_take hx)
theorem cutL_le {α : Type} (xs : List α) (lo hi : Option Int) : (cutL xs lo hi).length ≤ xs.length := by
  unfold cutL
  rw [List.length_take, List.length_drop]
  omega
def ed1 (w : Str) (lo : Int) : Ru := ⟨9, "note", "body", "abcdefgh", [(w, lo)]⟩
def ed2 (w : Str) (hi : Int) : Ru := ⟨0, "", "", "", [(w, hi)]⟩
theorem ed1_ok {w : Str} {lo : Int} (h : okS1 w lo = true) : Rm (ed1 w lo) true := ⟨by show 1 < 64; omega, true, nm_ah, by
  have k : (kbad ("note" : Str) || kbad ("body" : Str)) = false := by decide +kernel
  unfold ckR ed1
  simp only [k]
  simp [h, wdB]⟩
theorem ed2_ok {w : Str} {hi : Int} (h : okS1 w hi = true) : Rm (ed2 w hi) true := ⟨by show 1 < 64; omega, false, nm_0, by
  have k : (kbad ("" : Str) || kbad ("" : Str)) = false := by decide +kernel
  unfold ckR ed2
  simp only [k]
  simp [h, wdB]⟩
theorem rep_E (E : List Ru) : (List.replicate ((20 : Int)).toNat (E.map rF)).flatten = ((List.replicate 20 E).flatten).map rF := by
  rw [show ((20 : Int)).toNat = 20 from rfl, List.map_flatten, List.map_replicate]
theorem law_true (xs : List Int) (hx : xs.length ≤ 63) : f_law [.scr xs] = some (.bl true, [.scr xs]) := by
  obtain ⟨a, b, s0⟩ := stream_ok xs hx 0 (by decide) (by decide)
  obtain ⟨d, a1, b1, t1, p1', q1⟩ := take_ok a b 8 (by decide) (by decide)
  obtain ⟨rs, a2, b2, lr, hn, hg⟩ := rules_ok (some (.scr xs)) a1 b1 (1 + d) (by omega) (by omega)
  have hl : rs.length ≤ 8 := by omega
  have hp : 0 < rs.length := by omega
  have hs : ∀ r ∈ rs, r.ss.length < 64 := fun r hr => (hg r hr).ok.l
  have hok : ∀ r ∈ rs, Rm r true := fun r hr => (hg r hr).ok
  have m0 := mk_ok (by omega) hok
  have g0 := part_ok m0
  have mE := part_ok (mk_ok (rs := []) (by decide) (fun r hr => by cases hr))
  rw [List.map_nil, List.map_nil] at mE
  have hd := hand_lc rs (by omega) hs (some (.scr xs)) (some (.lst true [.int a2, .int b2])) (some (.lst false (rs.map rF))) none none none none none none none none none none
  obtain ⟨at', a3, b3, t2, p2, q2⟩ := take_ok a2 b2 (rs.length : Int) (by omega) (by omega)
  have hat : at'.toNat < rs.length := by omega
  obtain ⟨q, R, a4, b4, es, eR, hq⟩ := e_spoil (hg _ (List.getElem_mem hat)) a3 b3
  have fq := rF_fz q
  have fRQ := rF_fz rs[at'.toNat]
  have eRQ := er_of_fz fRQ
  obtain ⟨e, a5, b5, t3, p3, q3⟩ := take_ok a4 b4 13 (by decide) (by decide)
  obtain ⟨⟨w, lo, hi, pl⟩, hbm, ew, w1, w2, w3, wf⟩ := pick13 e p3 q3
  simp only at w1 w2 w3
  have ew : atI (tab13.map tbT) e = some (.tup false [.str w, .int lo, .int hi, .int pl]) := ew
  have et := e_table
  have okv := okS1_at wf
  simp only at okv
  have k1 := ed1_ok (w := w) (lo := lo) (by rw [okv]; simp; exact w1)
  have k2 := ed2_ok (w := w) (hi := hi) (by rw [okv]; simp; exact w1)
  -- the spoiled list
  have ixr : ixT (.lst false (rs.map rF)) (.int at') = some (rF rs[at'.toNat]) := by
    have ea : atI (rs.map rF) at' = some (rF rs[at'.toNat]) := atI_of p2 (by rw [List.getElem?_map, List.getElem?_eq_getElem hat]; rfl)
    rw [ixT_lst, ea]
    have := rF_fz rs[at'.toNat]
    generalize rF rs[at'.toNat] = t at *
    simp [this]
  have ix0 : ixT (.lst false (rs.map rF)) (.int 0) = some (rF rs[0]) := by
    have ea : atI (rs.map rF) 0 = some (rF rs[0]) := atI_of (by decide) (by rw [List.getElem?_map, show (0 : Int).toNat = 0 from rfl, List.getElem?_eq_getElem hp]; rfl)
    rw [ixT_lst, ea]
    have := rF_fz rs[0]
    generalize rF rs[0] = t at *
    simp [this]
  have sl1 : slT (.lst false (rs.map rF)) none (some at') = some (.lst true ((cutL rs none (some at')).map rF)) := by
    rw [slT_lst, cutL_map, rFs_fz]
    rfl
  have sl2 : slT (.lst false (rs.map rF)) (some (at' + 1)) none = some (.lst true ((cutL rs (some (at' + 1)) none).map rF)) := by
    rw [slT_lst, cutL_map, rFs_fz]
    rfl
  have lA := cutL_le rs none (some at')
  have lB := cutL_le rs (some (at' + 1)) none
  have bad := mk_no (rs := cutL rs none (some at') ++ [q] ++ cutL rs (some (at' + 1)) none) (by simp only [List.length_append, List.length_singleton]; omega) (fun r hr => by
    rcases List.mem_append.mp hr with hr | hr
    · rcases List.mem_append.mp hr with hr | hr
      · exact ⟨true, hok r (cutL_sub _ _ _ r hr)⟩
      · rw [List.mem_singleton.mp hr]; exact ⟨false, hq⟩
    · exact ⟨true, hok r (cutL_sub _ _ _ r hr)⟩) (.inr ⟨q, by simp, hq⟩)
  have fBad : (T.lst false ((cutL rs none (some at') ++ [q] ++ cutL rs (some (at' + 1)) none).map rF)).fz = true := by simp [rF_fz, rFs_fz]
  have rB := ref_yes fBad bad
  have nB := name_yes fBad bad
  have ad1 : addT (.lst true ((cutL rs none (some at')).map rF)) (.lst true [rF q]) = some (.lst true ((cutL rs none (some at') ++ [q]).map rF)) := by
    have f1 := rFs_fz (cutL rs none (some at'))
    have l1 : ((cutL rs none (some at')).map rF).length + 1 ≤ sizeLine := sz (by rw [List.length_map]; omega)
    rw [List.map_append, List.map_singleton]
    generalize (cutL rs none (some at')).map rF = A at *
    generalize rF q = Q at *
    simp [addT, f1, fq, fzL, l1]
  have ad2 : addT (.lst true ((cutL rs none (some at') ++ [q]).map rF)) (.lst true ((cutL rs (some (at' + 1)) none).map rF)) = some (.lst true ((cutL rs none (some at') ++ [q] ++ cutL rs (some (at' + 1)) none).map rF)) := by
    have f1 := rFs_fz (cutL rs none (some at') ++ [q])
    have f2 := rFs_fz (cutL rs (some (at' + 1)) none)
    have l1 : ((cutL rs none (some at') ++ [q]).map rF).length + ((cutL rs (some (at' + 1)) none).map rF).length ≤ sizeLine := sz (by rw [List.length_map, List.length_map, List.length_append, List.length_singleton]; omega)
    conv => rhs; rw [List.map_append]
    generalize (cutL rs none (some at') ++ [q]).map rF = A at *
    generalize (cutL rs (some (at' + 1)) none).map rF = B at *
    simp [addT, f1, f2, l1]
  have fBm := rFs_fz (cutL rs none (some at') ++ [q] ++ cutL rs (some (at' + 1)) none)
  have eBad := erL_of_fz fBm
  -- the edges
  have hE : ∀ r ∈ [ed1 w lo, ed2 w hi], Rm r true := fun r hr => by
    rcases List.mem_cons.mp hr with rfl | hr
    · exact k1
    · rw [List.mem_singleton.mp hr]; exact k2
  have gE := part_ok (mk_ok (rs := [ed1 w lo, ed2 w hi]) (by show 2 ≤ 40; omega) hE)
  have hE20 : ∀ r ∈ (List.replicate 20 [ed1 w lo, ed2 w hi]).flatten, Rm r true := fun r hr => by
    obtain ⟨l, h1, h2⟩ := List.mem_flatten.mp hr
    rw [List.eq_of_mem_replicate h1] at h2
    exact hE r h2
  have lE20 : ((List.replicate 20 [ed1 w lo, ed2 w hi]).flatten).length = 40 := rfl
  have gE20 := part_ok (mk_ok (rs := (List.replicate 20 [ed1 w lo, ed2 w hi]).flatten) (by rw [lE20]; omega) hE20)
  have bad2 := mk_no (rs := (List.replicate 20 [ed1 w lo, ed2 w hi]).flatten ++ [ed1 w lo]) (by rw [List.length_append, lE20]; simp) (fun r hr => by
    rcases List.mem_append.mp hr with hr | hr
    · exact ⟨true, hE20 r hr⟩
    · rw [List.mem_singleton.mp hr]; exact ⟨true, k1⟩) (.inl (by rw [List.length_append, lE20]; simp))
  have fBad2 : (T.lst false (((List.replicate 20 [ed1 w lo, ed2 w hi]).flatten ++ [ed1 w lo]).map rF)).fz = true := by simp only [fz_lst]; rw [rFs_fz]; rfl
  have rB2 := ref_yes fBad2 bad2
  have eE1 : rF (ed1 w lo) = .tup false [.int 9, .str "note", .str "body", .str "abcdefgh", .lst false [.tup false [.str w, .int lo]]] := rfl
  have eE2 : rF (ed2 w hi) = .tup false [.int 0, .str "", .str "", .str "", .lst false [.tup false [.str w, .int hi]]] := rfl
  have okr : okRep ([ed1 w lo, ed2 w hi].map rF).length 20 = true := okRep_of (by simp) (by omega) (by omega)
  have rep : repT (.lst false ([ed1 w lo, ed2 w hi].map rF)) (.int 20) = some (.lst true (((List.replicate 20 [ed1 w lo, ed2 w hi]).flatten).map rF)) := by
    have fE := rFs_fz [ed1 w lo, ed2 w hi]
    have := rep_E [ed1 w lo, ed2 w hi]
    generalize ((List.replicate 20 [ed1 w lo, ed2 w hi]).flatten).map rF = B at *
    generalize [ed1 w lo, ed2 w hi].map rF = A at *
    rw [repT_def, okr, fE, this]
    rfl
  have nE := ne_OF [ed1 w lo, ed2 w hi] true false
  have nE20 := ne_OF (List.replicate 20 [ed1 w lo, ed2 w hi]).flatten true true
  have sl3 : slT (.lst false ([ed1 w lo, ed2 w hi].map rF)) none (some 1) = some (.lst true [rF (ed1 w lo)]) := by
    have f := rF_fz (ed1 w lo)
    rw [slT_lst, cutL_map]
    show (if fzL [rF (ed1 w lo)] = true then some (T.lst true [rF (ed1 w lo)]) else none) = _
    simp [f, fzL]
  have ad3 : addT (.lst true (((List.replicate 20 [ed1 w lo, ed2 w hi]).flatten).map rF)) (.lst true [rF (ed1 w lo)]) = some (.lst true (((List.replicate 20 [ed1 w lo, ed2 w hi]).flatten ++ [ed1 w lo]).map rF)) := by
    have f1 := rFs_fz (List.replicate 20 [ed1 w lo, ed2 w hi]).flatten
    have f2 := rF_fz (ed1 w lo)
    have l1 : (((List.replicate 20 [ed1 w lo, ed2 w hi]).flatten).map rF).length + 1 ≤ sizeLine := sz (by rw [List.length_map, lE20]; omega)
    rw [List.map_append, List.map_singleton]
    generalize ((List.replicate 20 [ed1 w lo, ed2 w hi]).flatten).map rF = A at *
    generalize rF (ed1 w lo) = Q at *
    simp [addT, f1, f2, fzL, l1]
  have eE := erL_of_fz (rFs_fz [ed1 w lo, ed2 w hi])
  have fE := rFs_fz [ed1 w lo, ed2 w hi]
  have eE20 := erL_of_fz (rFs_fz (List.replicate 20 [ed1 w lo, ed2 w hi]).flatten)
  have fE20 := rFs_fz (List.replicate 20 [ed1 w lo, ed2 w hi]).flatten
  have fEb := rFs_fz ((List.replicate 20 [ed1 w lo, ed2 w hi]).flatten ++ [ed1 w lo])
  have eBad2 := erL_of_fz fEb
  -- what was told is changed
  obtain ⟨r0, rl, rfl⟩ : ∃ r0 rl, rs = r0 :: rl := List.exists_cons_of_ne_nil (fun z => by rw [z] at hp; cases hp)
  have fO := rO_erL (r0 :: rl)
  have fR := rFs_fz (r0 :: rl)
  have eR' := erL_of_fz fR
  have nOF := ne_OF (r0 :: rl) true false
  have nFF := ne_FF (r0 :: rl) false false
  have qOF := eq_OF (r0 :: rl) true false
  have ap : ∀ t0 t1 t2 t3, cAppQ 4 [0, 4] (.tup false [.str "face", .int 1]) [t0, t1, t2, t3, some (.lst true ((r0 :: rl).map rO)), none, none, none, none, none, none, none, none, none, none, none, none, none] = some (.t .non, [t0, t1, t2, t3, some (.lst true (.tup true [.int r0.rk, .str r0.kd, .str r0.ar, .str r0.mr, .lst true (r0.ss.map pS ++ [.tup false [.str "face", .int 1]])] :: rl.map rO)), none, none, none, none, none, none, none, none, none, none, none, none, none]) := fun t0 t1 t2 t3 => by
    have l1 : (r0.ss.map pS).length < sizeLine := szl (by rw [List.length_map]; have := hs r0 (List.mem_cons_self ..); omega)
    have xn : ∀ X : T, ixN (X :: rl.map rO).length 0 = some 0 := fun X => by unfold ixN; rw [List.length_cons, if_pos (by omega), if_pos (by omega)]; rfl
    have x4 : ixN 5 4 = some 4 := rfl
    rw [List.map_cons]
    unfold rO at *
    generalize r0.ss.map pS = SM at *
    generalize (rl.map fun r => T.tup true [.int r.rk, .str r.kd, .str r.ar, .str r.mr, .lst true (r.ss.map pS)]) = LM at *
    have x4' : ∀ a b c d e : T, ixN [a, b, c, d, e].length 4 = some 4 := fun _ _ _ _ _ => rfl
    simp only [cAppQ, gtP, stP, LP.kids, LP.rekid, List.getElem?_cons_succ, List.getElem?_cons_zero, xn, x4', List.set_cons_succ, List.set_cons_zero]
    rw [if_pos l1]
  have lO : (rl.map rO).length + 1 < sizeLine := szl (by rw [List.length_map]; rw [List.length_cons] at hl; omega)
  have f0 := rF_fz r0
  have ll : lenT [.lst false ((r0 :: rl).map rF)] = some (.int ((r0 :: rl).length : Int)) := by simp
  have r8 : inR (1 + d) = true := inR_of (by omega) (by omega)
  have nn : neT (.lst true []) (.lst true []) = some (.bl false) := neT_py (by simp) (by simp) rfl
  have it : ∀ X, isiT "list" (.lst true X) = some (.bl true) := fun _ => rfl
  have lE : [ed1 w lo, ed2 w hi].map rF = [.tup false [.int 9, .str "note", .str "body", .str "abcdefgh", .lst false [.tup false [.str w, .int lo]]], .tup false [.int 0, .str "", .str "", .str "", .lst false [.tup false [.str w, .int hi]]]] := rfl
  rw [lE] at gE nE sl3 rep eE fE
  have g00 : (r0 :: rl)[0] = r0 := rfl
  rw [g00] at ix0
  clear hE hE20 k1 k2 okv wf bad bad2 lA lB hok hg hs m0 eE1 eE2 okr lE20 lE fBad fBad2 hbm
  generalize ((List.replicate 20 [ed1 w lo, ed2 w hi]).flatten ++ [ed1 w lo]).map rF = EB at *
  generalize ((List.replicate 20 [ed1 w lo, ed2 w hi]).flatten).map rF = E20 at *
  generalize ((List.replicate 20 [ed1 w lo, ed2 w hi]).flatten).map rO = O20 at *
  generalize [ed1 w lo, ed2 w hi].map rO = OE at *
  generalize rF (ed1 w lo) = E1 at *
  generalize (cutL (r0 :: rl) none (some at') ++ [q] ++ cutL (r0 :: rl) (some (at' + 1)) none).map rF = BM at *
  generalize (cutL (r0 :: rl) none (some at') ++ [q]).map rF = BA at *
  generalize (cutL (r0 :: rl) none (some at')).map rF = AM at *
  generalize (cutL (r0 :: rl) (some (at' + 1)) none).map rF = CM at *
  generalize rF q = QT at *
  generalize rF (r0 :: rl)[at'.toNat] = RQ at *
  generalize rF r0 = R0 at *
  generalize (((r0 :: rl).length : Nat) : Int) = N at *
  generalize (r0 :: rl).map rF = FM at *
  generalize (r0 :: rl).map rO = OM at *
  generalize rl.map rO = OL at *
  generalize tab13.map tbT = TB at *
  unfold f_law b_law
  simp [-lenT_lst, -cAppQ_def, -slT_lst, s0, t1, t2, t3, lr, r8, hd, g0, mE, ap, it, nOF, nFF, qOF, nn, ix0, ixr, ll, es, eR, fq, fRQ, eRQ, sl1, sl2, ad1, ad2, rB, nB, eBad, fBm, fEb, et, ew, gE, nE, rep, gE20, nE20, sl3, ad3, rB2, eBad2, eE, fE, eE20, fE20, fO, fR, eR', f0, lO, sz, wipeE, bring]
end Bleafpress_k12_rules_refused
namespace Bleafpress_k12_rules_refused
open PySem L2 LP
def topS (i : Nat) : Stmt := PySem.Challenge.pw_leafpress_k12_rules_refused.main.body.getD i (.Pass ⟨0, 0, 0, 0⟩)
structure Gs (K : PySem.W.Frag) (mg : Str → Option Value) (w : World) : Prop where
  z_ValueError : mg "ValueError" = none
  z_isinstance : mg "isinstance" = none
  z_len : mg "len" = none
  z_list : mg "list" = none
  z_range : mg "range" = none
  z_set : mg "set" = none
  kk_MOST_LETTERS : ∃ t, mg "MOST_LETTERS" = some (.int 8 t)
  kk_MOST_RANK : ∃ t, mg "MOST_RANK" = some (.int 9 t)
  kk_MOST_RULES : ∃ t, mg "MOST_RULES" = some (.int 40 t)
  kk_SMALL : ∃ t, mg "SMALL" = some (.str "abcdefghijklmnopqrstuvwxyz" t)
  t_GREATEST : ∃ a, mg "GREATEST" = some (.ref a) ∧ KTp K a [.int 99, .int 3, .int 400, .int 400, .int 9, .int 4000, .int 4000, .int 6, .int 6, .int 4, .int 1, .int 4000, .int 1]
  t_KINDS : ∃ a, mg "KINDS" = some (.ref a) ∧ KTp K a [.str "body", .str "case", .str "shelf", .str "grid", .str "text", .str "head", .str "picture", .str "aside", .str "note"]
  t_LOWEST : ∃ a, mg "LOWEST" = some (.ref a) ∧ KTp K a [.int 0, .int 0, .int 0, .int 0, .int 1, .int 0, .int 0, .int 1, .int 1, .int 1, .int 0, .int 1, .int 0]
  t_PROPERTIES : ∃ a, mg "PROPERTIES" = some (.ref a) ∧ KTp K a [.str "face", .str "align", .str "above", .str "inset", .str "weight", .str "least", .str "most", .str "columns", .str "span", .str "deep", .str "side", .str "wide", .str "fresh"]
  y_NoBook : mg "NoBook" = some (.ref (adr mg "NoBook"))
  y_NoDrawing : mg "NoDrawing" = some (.ref (adr mg "NoDrawing"))
  y_NoFace : mg "NoFace" = some (.ref (adr mg "NoFace"))
  y_NoLeaf : mg "NoLeaf" = some (.ref (adr mg "NoLeaf"))
  y_NoNode : mg "NoNode" = some (.ref (adr mg "NoNode"))
  y_NoPart : mg "NoPart" = some (.ref (adr mg "NoPart"))
  y_NoRule : mg "NoRule" = some (.ref (adr mg "NoRule"))
  y_NoSheet : mg "NoSheet" = some (.ref (adr mg "NoSheet"))
  y_PressError : mg "PressError" = some (.ref (adr mg "PressError"))
  x_NoRule : ExO K (adr mg "NoRule")
  w_NoRule : ExcC K (adr mg "NoRule")
  h_NoRule_NoRule : PySem.W.exmOne K (.ref (adr mg "NoRule")) (.ref (adr mg "NoRule")) = some true
  h_NoRule_PressError : PySem.W.exmOne K (.ref (adr mg "NoRule")) (.ref (adr mg "PressError")) = some true
  i_NoRule_NoBook : PySem.W.kitOne K (.ref (adr mg "NoRule")) (.ref (adr mg "NoBook")) = some false
  i_NoRule_NoDrawing : PySem.W.kitOne K (.ref (adr mg "NoRule")) (.ref (adr mg "NoDrawing")) = some false
  i_NoRule_NoFace : PySem.W.kitOne K (.ref (adr mg "NoRule")) (.ref (adr mg "NoFace")) = some false
  i_NoRule_NoLeaf : PySem.W.kitOne K (.ref (adr mg "NoRule")) (.ref (adr mg "NoLeaf")) = some false
  i_NoRule_NoNode : PySem.W.kitOne K (.ref (adr mg "NoRule")) (.ref (adr mg "NoNode")) = some false
  i_NoRule_NoPart : PySem.W.kitOne K (.ref (adr mg "NoRule")) (.ref (adr mg "NoPart")) = some false
  i_NoRule_NoRule : PySem.W.kitOne K (.ref (adr mg "NoRule")) (.ref (adr mg "NoRule")) = some true
  i_NoRule_NoSheet : PySem.W.kitOne K (.ref (adr mg "NoRule")) (.ref (adr mg "NoSheet")) = some false
  i_NoRule_ValueError : PySem.W.kitOne K (.ref (adr mg "NoRule")) (.type "ValueError") = some true
theorem Gs.k_MOST_LETTERS {K : PySem.W.Frag} {mg : Str → Option Value} {w : World} (G : Gs K mg w) : mg "MOST_LETTERS" = some (.int 8 G.kk_MOST_LETTERS.choose) := G.kk_MOST_LETTERS.choose_spec
theorem Gs.k_MOST_RANK {K : PySem.W.Frag} {mg : Str → Option Value} {w : World} (G : Gs K mg w) : mg "MOST_RANK" = some (.int 9 G.kk_MOST_RANK.choose) := G.kk_MOST_RANK.choose_spec
theorem Gs.k_MOST_RULES {K : PySem.W.Frag} {mg : Str → Option Value} {w : World} (G : Gs K mg w) : mg "MOST_RULES" = some (.int 40 G.kk_MOST_RULES.choose) := G.kk_MOST_RULES.choose_spec
theorem Gs.k_SMALL {K : PySem.W.Frag} {mg : Str → Option Value} {w : World} (G : Gs K mg w) : mg "SMALL" = some (.str "abcdefghijklmnopqrstuvwxyz" G.kk_SMALL.choose) := G.kk_SMALL.choose_spec
theorem Gs.r_GREATEST {K : PySem.W.Frag} {F O : Hp} : Rls K F O [.int 99, .int 3, .int 400, .int 400, .int 9, .int 4000, .int 4000, .int 6, .int 6, .int 4, .int 1, .int 4000, .int 1] [.int 99, .int 3, .int 400, .int 400, .int 9, .int 4000, .int 4000, .int 6, .int 6, .int 4, .int 1, .int 4000, .int 1] [] := (.cons (f := []) (fs := []) (.int _) (.cons (f := []) (fs := []) (.int _) (.cons (f := []) (fs := []) (.int _) (.cons (f := []) (fs := []) (.int _) (.cons (f := []) (fs := []) (.int _) (.cons (f := []) (fs := []) (.int _) (.cons (f := []) (fs := []) (.int _) (.cons (f := []) (fs := []) (.int _) (.cons (f := []) (fs := []) (.int _) (.cons (f := []) (fs := []) (.int _) (.cons (f := []) (fs := []) (.int _) (.cons (f := []) (fs := []) (.int _) (.cons (f := []) (fs := []) (.int _) .nil)))))))))))))
theorem Gs.r_KINDS {K : PySem.W.Frag} {F O : Hp} : Rls K F O [.str "body", .str "case", .str "shelf", .str "grid", .str "text", .str "head", .str "picture", .str "aside", .str "note"] [.str "body", .str "case", .str "shelf", .str "grid", .str "text", .str "head", .str "picture", .str "aside", .str "note"] [] := (.cons (f := []) (fs := []) (.str _) (.cons (f := []) (fs := []) (.str _) (.cons (f := []) (fs := []) (.str _) (.cons (f := []) (fs := []) (.str _) (.cons (f := []) (fs := []) (.str _) (.cons (f := []) (fs := []) (.str _) (.cons (f := []) (fs := []) (.str _) (.cons (f := []) (fs := []) (.str _) (.cons (f := []) (fs := []) (.str _) .nil)))))))))
theorem Gs.r_LOWEST {K : PySem.W.Frag} {F O : Hp} : Rls K F O [.int 0, .int 0, .int 0, .int 0, .int 1, .int 0, .int 0, .int 1, .int 1, .int 1, .int 0, .int 1, .int 0] [.int 0, .int 0, .int 0, .int 0, .int 1, .int 0, .int 0, .int 1, .int 1, .int 1, .int 0, .int 1, .int 0] [] := (.cons (f := []) (fs := []) (.int _) (.cons (f := []) (fs := []) (.int _) (.cons (f := []) (fs := []) (.int _) (.cons (f := []) (fs := []) (.int _) (.cons (f := []) (fs := []) (.int _) (.cons (f := []) (fs := []) (.int _) (.cons (f := []) (fs := []) (.int _) (.cons (f := []) (fs := []) (.int _) (.cons (f := []) (fs := []) (.int _) (.cons (f := []) (fs := []) (.int _) (.cons (f := []) (fs := []) (.int _) (.cons (f := []) (fs := []) (.int _) (.cons (f := []) (fs := []) (.int _) .nil)))))))))))))
theorem Gs.r_PROPERTIES {K : PySem.W.Frag} {F O : Hp} : Rls K F O [.str "face", .str "align", .str "above", .str "inset", .str "weight", .str "least", .str "most", .str "columns", .str "span", .str "deep", .str "side", .str "wide", .str "fresh"] [.str "face", .str "align", .str "above", .str "inset", .str "weight", .str "least", .str "most", .str "columns", .str "span", .str "deep", .str "side", .str "wide", .str "fresh"] [] := (.cons (f := []) (fs := []) (.str _) (.cons (f := []) (fs := []) (.str _) (.cons (f := []) (fs := []) (.str _) (.cons (f := []) (fs := []) (.str _) (.cons (f := []) (fs := []) (.str _) (.cons (f := []) (fs := []) (.str _) (.cons (f := []) (fs := []) (.str _) (.cons (f := []) (fs := []) (.str _) (.cons (f := []) (fs := []) (.str _) (.cons (f := []) (fs := []) (.str _) (.cons (f := []) (fs := []) (.str _) (.cons (f := []) (fs := []) (.str _) (.cons (f := []) (fs := []) (.str _) .nil)))))))))))))
section
variable {P : Program} {w : World} {K : PySem.W.Frag} {mg : Str → Option Value} {base : Heap}
theorem sc__law_stream : FnScope ["_law_script", "_law_k"] ["_law_script", "_law_k"] (defScope (topS 28)) := ⟨rfl, rfl, rfl, by decide +kernel, rfl, by decide +kernel, by decide +kernel⟩
theorem c__law_stream (G : Gs K mg w) (D : DefOk K mg "_law_stream" (topS 28))   : Cal P w K mg base 1 "_law_stream" ["_law_script", "_law_k"] [false, false] f__law_stream := by
  obtain ⟨fa, fd, Fu, hm⟩ := D
  refine ⟨fa, fd, ?_, hm, Fu.kp, Fu.binds (ps := ["_law_script", "_law_k"]) (fun _ _ _ _ _ _ us hl => match us, hl with | [_, _], _ => rfl), fun_lk Fu⟩
  exact fn_ok Fu sc__law_stream [false, false] rfl (b := b__law_stream) (fun cdv A outer s H E hr => ⟨_, (zCons (zIf (yLt (xV (pv 1)) (xLen (by rfl) G.z_len (xA (xV (pv 0)) xA0))) (zOne (zRet (xLst (xA (xIx (xV (pv 0)) (xV (pv 1))) (xA (xAdd (xAdd (xMod (xIx (xV (pv 0)) (xV (pv 1))) xInt) (xMul (xV (pv 1)) (xV (pv 1)))) xInt) xA0))))) zNil)
  (zOne (zRet (xLst (xA (xAdd (xMul (xMul (xV (pv 1)) (xV (pv 1))) xInt) xInt) (xA (xAdd (xV (pv 1)) xInt) xA0))))))⟩)

theorem sc_within : FnScope ["number", "low", "high"] ["number", "low", "high"] (defScope (topS 16)) := ⟨rfl, rfl, rfl, by decide +kernel, rfl, by decide +kernel, by decide +kernel⟩
theorem c_within (G : Gs K mg w) (D : DefOk K mg "within" (topS 16))   : Cal P w K mg base 1 "within" ["number", "low", "high"] [false, false, false] f_within := by
  obtain ⟨fa, fd, Fu, hm⟩ := D
  refine ⟨fa, fd, ?_, hm, Fu.kp, Fu.binds (ps := ["number", "low", "high"]) (fun _ _ _ _ _ _ us hl => match us, hl with | [_, _, _], _ => rfl), fun_lk Fu⟩
  exact fn_ok Fu sc_within [false, false, false] rfl (b := b_within) (fun cdv A outer s H E hr => ⟨_, (zOne (zRet (xAndV (xLe (xV (pv 1)) (xV (pv 0))) (xOne (xLe (xV (pv 0)) (xV (pv 2)))))))⟩)

theorem sc_ask_set : FnScope ["word", "value", "at"] ["word", "value"] (defScope (topS 24)) := ⟨rfl, rfl, rfl, by decide +kernel, rfl, by decide +kernel, by decide +kernel⟩
theorem c_ask_set (G : Gs K mg w) (D : DefOk K mg "ask_set" (topS 24)) (C_within : Cal P w K mg base 1 "within" ["number", "low", "high"] [false, false, false] f_within)  : CalX P w K mg base 2 "ask_set" ["word", "value"] [false, false] f_ask_set := by
  obtain ⟨fa, fd, Fu, hm⟩ := D
  refine ⟨fa, fd, ?_, hm, Fu.kp, Fu.binds (ps := ["word", "value"]) (fun _ _ _ _ _ _ us hl => match us, hl with | [_, _], _ => rfl)⟩
  exact fn_okX Fu sc_ask_set [false, false] rfl (b := b_ask_set) (fun cdv A outer s H E hr => ⟨_, (yCons (yIf (yNotInF (xV (pv 0)) (xGT (by rfl) G.t_PROPERTIES (fun _ _ => Gs.r_PROPERTIES)) (by first | exact nobehind _ (by decide) (by decide) | rfl)) (yOne (yRaise ⟨_, G.y_NoRule, G.x_NoRule⟩)) yNil)
  (yCons (yLf (zAsg (xFr (xTix (ys := ["face", "align", "above", "inset", "weight", "least", "most", "columns", "span", "deep", "side", "wide", "fresh"]) (by rfl) G.t_PROPERTIES (xV (pv 0)))) (gName_ (i := 2) (pg_name sc_ask_set.nd rfl (.inl rfl)))))
  (yOne (yIf (yNot (yVal (xCall C_within hr (xA (xV (pv 1)) (xA (xIx (xGT (by rfl) G.t_LOWEST (fun _ _ => Gs.r_LOWEST)) (xV (pv 2))) (xA (xIx (xGT (by rfl) G.t_GREATEST (fun _ _ => Gs.r_GREATEST)) (xV (pv 2))) xA0)))))) (yOne (yRaise ⟨_, G.y_NoRule, G.x_NoRule⟩)) yNil))))⟩)

theorem sc_made_of : FnScope ["text", "signs", "sign"] ["text", "signs"] (defScope (topS 13)) := ⟨rfl, rfl, rfl, by decide +kernel, rfl, by decide +kernel, by decide +kernel⟩
theorem c_made_of (G : Gs K mg w) (D : DefOk K mg "made_of" (topS 13))   : Cal P w K mg base 1 "made_of" ["text", "signs"] [false, false] f_made_of := by
  obtain ⟨fa, fd, Fu, hm⟩ := D
  refine ⟨fa, fd, ?_, hm, Fu.kp, Fu.binds (ps := ["text", "signs"]) (fun _ _ _ _ _ _ us hl => match us, hl with | [_, _], _ => rfl), fun_lk Fu⟩
  exact fn_ok Fu sc_made_of [false, false] rfl (b := b_made_of) (fun cdv A outer s H E hr => ⟨_, (zCons (zFor PassesOwn.never rfl (iStr_ (xV (pv 0))) (gName_ (i := 2) (pg_name sc_made_of.nd rfl (.inl rfl))) (zOne (zIf (yNotInS (xV (pv 2)) (xV (pv 1)) (by first | exact nobehind _ (by decide) (by decide) | rfl)) (zOne (zRet xBl)) zNil)))
  (zOne (zRet xBl)))⟩)

theorem sc_is_name : FnScope ["text"] ["text"] (defScope (topS 14)) := ⟨rfl, rfl, rfl, by decide +kernel, rfl, by decide +kernel, by decide +kernel⟩
theorem c_is_name (G : Gs K mg w) (D : DefOk K mg "is_name" (topS 14)) (C_made_of : Cal P w K mg base 1 "made_of" ["text", "signs"] [false, false] f_made_of)  : Cal P w K mg base 2 "is_name" ["text"] [false] f_is_name := by
  obtain ⟨fa, fd, Fu, hm⟩ := D
  refine ⟨fa, fd, ?_, hm, Fu.kp, Fu.binds (ps := ["text"]) (fun _ _ _ _ _ _ us hl => match us, hl with | [_], _ => rfl), fun_lk Fu⟩
  exact fn_ok Fu sc_is_name [false] rfl (b := b_is_name) (fun cdv A outer s H E hr => ⟨_, (zOne (zRet (xAndV (xLe xInt (xLen (by rfl) G.z_len (xA (xV (pv 0)) xA0))) (xAndV (xLe (xLen (by rfl) G.z_len (xA (xV (pv 0)) xA0)) (xGI (by rfl) G.k_MOST_LETTERS)) (xOne (xCall C_made_of hr (xA (xV (pv 0)) (xA (xGS (by rfl) G.k_SMALL) xA0))))))))⟩)

theorem sc_ask_rule : FnScope ["rule", "rank", "kind", "around", "mark", "sets", "word", "words", "value"] ["rule"] (defScope (topS 25)) := ⟨rfl, rfl, rfl, by decide +kernel, rfl, by decide +kernel, by decide +kernel⟩
theorem c_ask_rule (G : Gs K mg w) (D : DefOk K mg "ask_rule" (topS 25)) (C_ask_set : CalX P w K mg base 2 "ask_set" ["word", "value"] [false, false] f_ask_set) (C_is_name : Cal P w K mg base 2 "is_name" ["text"] [false] f_is_name) (C_within : Cal P w K mg base 1 "within" ["number", "low", "high"] [false, false, false] f_within)  : CalX P w K mg base 3 "ask_rule" ["rule"] [false] f_ask_rule := by
  obtain ⟨fa, fd, Fu, hm⟩ := D
  refine ⟨fa, fd, ?_, hm, Fu.kp, Fu.binds (ps := ["rule"]) (fun _ _ _ _ _ _ us hl => match us, hl with | [_], _ => rfl)⟩
  exact fn_okX Fu sc_ask_rule [false] rfl (b := b_ask_rule) (fun cdv A outer s H E hr => ⟨_, (yCons (yLf (zAsg (xV (pv 0)) (gTup_ (n := 5) rfl (gCons_ (gName_ (i := 1) (pg_name sc_ask_rule.nd rfl (.inl rfl))) (gCons_ (gName_ (i := 2) (pg_name sc_ask_rule.nd rfl (.inl rfl))) (gCons_ (gName_ (i := 3) (pg_name sc_ask_rule.nd rfl (.inl rfl))) (gCons_ (gName_ (i := 4) (pg_name sc_ask_rule.nd rfl (.inl rfl))) (gCons_ (gName_ (i := 5) (pg_name sc_ask_rule.nd rfl (.inl rfl))) gNil_))))))))
  (yCons (yIf (yNot (yVal (xCall C_within hr (xA (xV (pv 1)) (xA xInt (xA (xGI (by rfl) G.k_MOST_RANK) xA0)))))) (yOne (yRaise ⟨_, G.y_NoRule, G.x_NoRule⟩)) yNil)
  (yCons (yFor (iTup_ (xTup (xA (xV (pv 2)) (xA (xV (pv 3)) xA0)))) (gName_ (i := 6) (pg_name sc_ask_rule.nd rfl (.inl rfl))) (yOne (yIf (wAnd (yNe hr.units (xV (pv 6)) xStr) (wAnd1 (yNotInF (xV (pv 6)) (xGT (by rfl) G.t_KINDS (fun _ _ => Gs.r_KINDS)) (by first | exact nobehind _ (by decide) (by decide) | rfl)))).t (yOne (yRaise ⟨_, G.y_NoRule, G.x_NoRule⟩)) yNil)))
  (yCons (yIf (wAnd (yNe hr.units (xV (pv 4)) xStr) (wAnd1 (yNot (yVal (xCall C_is_name hr (xA (xV (pv 4)) xA0)))))).t (yOne (yRaise ⟨_, G.y_NoRule, G.x_NoRule⟩)) yNil)
  (yCons (yLf (zSetLcF (i := 7) (own := [("word", 6), ("value", 8)]) (n := 9) (pm := [0, 1, 2, 3, 4, 5, 7]) rfl sc_ask_rule.nd rfl rfl (sw_true rfl rfl rfl (by decide +kernel)) (iList_ (xV (pv 5))) (blkOk_by (N := ["rule", "rank", "kind", "around", "mark", "sets", "word", "words", "value"]) (sc := defScope (topS 25)) (by decide +kernel)) (fun _ _ _ _ _ => (gTup_ (n := 2) rfl (gCons_ (gName_ (i := 6) (pg_name sc_ask_rule.nd rfl (.inl rfl))) (gCons_ (gName_ (i := 8) (pg_name sc_ask_rule.nd rfl (.inl rfl))) gNil_)))) (fun _ _ _ _ _ => cNoIf) (fun _ _ _ _ _ => (xV (pv 6)))))
  (yCons (yIf (wOr (yEq hr.units (xV (pv 7)) (xLst xA0)) (wOr1 (yNe hr.units (xLenSet (by rfl) G.z_len (by rfl) G.z_set (xV (pv 7))) (xLen (by rfl) G.z_len (xA (xV (pv 7)) xA0))))).t (yOne (yRaise ⟨_, G.y_NoRule, G.x_NoRule⟩)) yNil)
  (yOne (yFor (iList_ (xV (pv 5))) (gTup_ (n := 2) rfl (gCons_ (gName_ (i := 6) (pg_name sc_ask_rule.nd rfl (.inl rfl))) (gCons_ (gName_ (i := 8) (pg_name sc_ask_rule.nd rfl (.inl rfl))) gNil_))) (yOne (yExpr (yCallX C_ask_set hr (xA (xV (pv 6)) (xA (xV (pv 8)) xA0)))))))))))))⟩)

theorem sc_made_rules : FnScope ["rules", "rule", "rank", "kind", "around", "mark", "sets"] ["rules"] (defScope (topS 26)) := ⟨rfl, rfl, rfl, by decide +kernel, rfl, by decide +kernel, by decide +kernel⟩
theorem c_made_rules (G : Gs K mg w) (D : DefOk K mg "made_rules" (topS 26)) (C_ask_rule : CalX P w K mg base 3 "ask_rule" ["rule"] [false] f_ask_rule)  : CalX P w K mg base 4 "made_rules" ["rules"] [false] f_made_rules := by
  obtain ⟨fa, fd, Fu, hm⟩ := D
  refine ⟨fa, fd, ?_, hm, Fu.kp, Fu.binds (ps := ["rules"]) (fun _ _ _ _ _ _ us hl => match us, hl with | [_], _ => rfl)⟩
  exact fn_okX Fu sc_made_rules [false] rfl (b := b_made_rules) (fun cdv A outer s H E hr => ⟨_, (yCons (yIf (yGt (xLen (by rfl) G.z_len (xA (xV (pv 0)) xA0)) (xGI (by rfl) G.k_MOST_RULES)) (yOne (yRaise ⟨_, G.y_NoRule, G.x_NoRule⟩)) yNil)
  (yCons (yFor (iList_ (xV (pv 0))) (gName_ (i := 1) (pg_name sc_made_rules.nd rfl (.inl rfl))) (yOne (yExpr (yCallX C_ask_rule hr (xA (xV (pv 1)) xA0)))))
  (yOne (yLf (zRet (xLc (own := [("rank", 2), ("kind", 3), ("around", 4), ("mark", 5), ("sets", 6)]) (n := 7) (pn := [0, 1]) rfl sc_made_rules.nd (iList_ (xV (pv 0))) (blkOk_by (N := ["rules", "rule", "rank", "kind", "around", "mark", "sets"]) (sc := defScope (topS 26)) (by decide +kernel)) (fun _ _ _ _ _ => (gTup_ (n := 5) rfl (gCons_ (gName_ (i := 2) (pg_name sc_made_rules.nd rfl (.inl rfl))) (gCons_ (gName_ (i := 3) (pg_name sc_made_rules.nd rfl (.inl rfl))) (gCons_ (gName_ (i := 4) (pg_name sc_made_rules.nd rfl (.inl rfl))) (gCons_ (gName_ (i := 5) (pg_name sc_made_rules.nd rfl (.inl rfl))) (gCons_ (gName_ (i := 6) (pg_name sc_made_rules.nd rfl (.inl rfl))) gNil_))))))) (fun _ _ _ _ _ => cNoIf) (fun _ _ _ _ _ => (xTup (xA (xV (pv 2)) (xA (xV (pv 3)) (xA (xV (pv 4)) (xA (xV (pv 5)) (xA (xList (by rfl) G.z_list (xA (xV (pv 6)) xA0)) xA0)))))))))))))⟩)

theorem sc__law_take : FnScope ["_law_stream_here", "_law_most", "_law_digit"] ["_law_stream_here", "_law_most"] (defScope (topS 29)) := ⟨rfl, rfl, rfl, by decide +kernel, rfl, by decide +kernel, by decide +kernel⟩
theorem c__law_take (G : Gs K mg w) (D : DefOk K mg "_law_take" (topS 29))   : Cal P w K mg base 1 "_law_take" ["_law_stream_here", "_law_most"] [true, false] f__law_take := by
  obtain ⟨fa, fd, Fu, hm⟩ := D
  refine ⟨fa, fd, ?_, hm, Fu.kp, Fu.binds (ps := ["_law_stream_here", "_law_most"]) (fun _ _ _ _ _ _ us hl => match us, hl with | [_, _], _ => rfl), fun_lk Fu⟩
  exact fn_ok Fu sc__law_take [true, false] rfl (b := b__law_take) (fun cdv A outer s H E hr => ⟨_, (zCons (zIf (wOr (yEq hr.units (xIx (xV (pv 0)) xInt) xInt) (wOr1 (yEq hr.units (xIx (xV (pv 0)) xInt) (xNeg xInt)))).t (zCons (zAsg (xMod (xAdd (xMul (xIx (xV (pv 0)) xInt) xInt) xInt) xInt) (gIx_ (pv 0) xInt))
  (zOne (zRet (xMod (xMod (xMul (xIx (xV (pv 0)) xInt) (xIx (xV (pv 0)) xInt)) xInt) (xV (pv 1)))))) zNil)
  (zCons (zAsg (xMod (xIx (xV (pv 0)) xInt) (xV (pv 1))) (gName_ (i := 2) (pg_name sc__law_take.nd rfl (.inl rfl))))
  (zCons (zAsg (xDiv (xIx (xV (pv 0)) xInt) (xV (pv 1))) (gIx_ (pv 0) xInt))
  (zOne (zRet (xV (pv 2)))))))⟩)

theorem sc__law_table : FnScope ["_law_found"] [] (defScope (topS 30)) := ⟨rfl, rfl, rfl, by decide +kernel, rfl, by decide +kernel, by decide +kernel⟩
theorem c__law_table (G : Gs K mg w) (D : DefOk K mg "_law_table" (topS 30))   : Cal P w K mg base 1 "_law_table" [] [] f__law_table := by
  obtain ⟨fa, fd, Fu, hm⟩ := D
  refine ⟨fa, fd, ?_, hm, Fu.kp, Fu.binds (ps := []) (fun _ _ _ _ _ _ us hl => match us, hl with | [], _ => rfl), fun_lk Fu⟩
  exact fn_ok Fu sc__law_table [] rfl (b := b__law_table) (fun cdv A outer s H E hr => ⟨_, (zCons (zAsg (xFr (xLst (xA (xTup (xA xStr (xA xInt (xA xInt (xA xInt xA0))))) (xA (xTup (xA xStr (xA xInt (xA xInt (xA xInt xA0))))) (xA (xTup (xA xStr (xA xInt (xA xInt (xA xInt xA0))))) (xA (xTup (xA xStr (xA xInt (xA xInt (xA xInt xA0))))) (xA (xTup (xA xStr (xA xInt (xA xInt (xA xInt xA0))))) xA0))))))) (gName_ (i := 0) (pg_name sc__law_table.nd rfl (.inl rfl))))
  (zCons (zAsg (xAdd (xV (pv 0)) (xLst (xA (xTup (xA xStr (xA xInt (xA xInt (xA xInt xA0))))) (xA (xTup (xA xStr (xA xInt (xA xInt (xA xInt xA0))))) (xA (xTup (xA xStr (xA xInt (xA xInt (xA xInt xA0))))) (xA (xTup (xA xStr (xA xInt (xA xInt (xA xInt xA0))))) xA0)))))) (gName_ (i := 0) (pg_name sc__law_table.nd rfl (.inl rfl))))
  (zOne (zRet (xAdd (xV (pv 0)) (xLst (xA (xTup (xA xStr (xA xInt (xA xInt (xA xInt xA0))))) (xA (xTup (xA xStr (xA xInt (xA xInt (xA xInt xA0))))) (xA (xTup (xA xStr (xA xInt (xA xInt (xA xInt xA0))))) (xA (xTup (xA xStr (xA xInt (xA xInt (xA xInt xA0))))) xA0))))))))))⟩)

theorem sc__law_rule : FnScope ["_law_stream_here", "_law_kinds", "_law_rank", "_law_kind", "_law_around", "_law_mark", "_law_sets", "_law_k", "_law_word", "_law_low", "_law_great", "_law_plain", "_law_own", "_law_value"] ["_law_stream_here"] (defScope (topS 31)) := ⟨rfl, rfl, rfl, by decide +kernel, rfl, by decide +kernel, by decide +kernel⟩
theorem c__law_rule (G : Gs K mg w) (D : DefOk K mg "_law_rule" (topS 31)) (C__law_take : Cal P w K mg base 1 "_law_take" ["_law_stream_here", "_law_most"] [true, false] f__law_take) (C__law_table : Cal P w K mg base 1 "_law_table" [] [] f__law_table)  : Cal P w K mg base 2 "_law_rule" ["_law_stream_here"] [true] f__law_rule := by
  obtain ⟨fa, fd, Fu, hm⟩ := D
  refine ⟨fa, fd, ?_, hm, Fu.kp, Fu.binds (ps := ["_law_stream_here"]) (fun _ _ _ _ _ _ us hl => match us, hl with | [_], _ => rfl), fun_lk Fu⟩
  exact fn_ok Fu sc__law_rule [true] rfl (b := b__law_rule) (fun cdv A outer s H E hr => ⟨_, (zCons (zAsg (xFr (xLst (xA xStr (xA xStr (xA xStr (xA xStr (xA xStr (xA xStr (xA xStr (xA xStr (xA xStr (xA xStr (xA xStr (xA xStr xA0)))))))))))))) (gName_ (i := 1) (pg_name sc__law_rule.nd rfl (.inl rfl))))
  (zCons (zAsg (xFr (xCall C__law_take hr (xA (xV (pv 0)) (xA xInt xA0)))) (gName_ (i := 2) (pg_name sc__law_rule.nd rfl (.inl rfl))))
  (zCons (zIf (yEq hr.units (xCall C__law_take hr (xA (xV (pv 0)) (xA xInt xA0))) xInt) (zOne (zAsg (xMod (xV (pv 2)) xInt) (gName_ (i := 2) (pg_name sc__law_rule.nd rfl (.inl rfl))))) zNil)
  (zCons (zAsg (xFr (xIx (xV (pv 1)) (xCall C__law_take hr (xA (xV (pv 0)) (xA xInt xA0))))) (gName_ (i := 3) (pg_name sc__law_rule.nd rfl (.inl rfl))))
  (zCons (zAsg (xFr (xIx (xV (pv 1)) (xCall C__law_take hr (xA (xV (pv 0)) (xA xInt xA0))))) (gName_ (i := 4) (pg_name sc__law_rule.nd rfl (.inl rfl))))
  (zCons (zAsg (xFr (xIx (xLst (xA xStr (xA xStr (xA xStr (xA xStr (xA xStr (xA xStr (xA xStr xA0)))))))) (xCall C__law_take hr (xA (xV (pv 0)) (xA xInt xA0))))) (gName_ (i := 5) (pg_name sc__law_rule.nd rfl (.inl rfl))))
  (zCons (zAsg (xLst xA0) (gName_ (i := 6) (pg_name sc__law_rule.nd rfl (.inl rfl))))
  (zCons (zFor PassesOwn.never rfl (iR1_ (by rfl) G.z_range (xA (xAdd xInt (xCall C__law_take hr (xA (xV (pv 0)) (xA xInt xA0)))) xA0)) (gName_ (i := 7) (pg_name sc__law_rule.nd rfl (.inl rfl))) (zCons (zAsg (xFr (xIx (xCall0 C__law_table hr) (xCall C__law_take hr (xA (xV (pv 0)) (xA xInt xA0))))) (gTup_ (n := 4) rfl (gCons_ (gName_ (i := 8) (pg_name sc__law_rule.nd rfl (.inl rfl))) (gCons_ (gName_ (i := 9) (pg_name sc__law_rule.nd rfl (.inl rfl))) (gCons_ (gName_ (i := 10) (pg_name sc__law_rule.nd rfl (.inl rfl))) (gCons_ (gName_ (i := 11) (pg_name sc__law_rule.nd rfl (.inl rfl))) gNil_))))))
  (zOne (zIf (yNotInF (xV (pv 8)) (xLend (xLc (own := [("_law_own", 12), ("_law_value", 13)]) (n := 14) (pn := [0, 1, 2, 3, 4, 5, 6, 7, 8, 9, 10, 11]) rfl sc__law_rule.nd (iList_ (xV (pv 6))) (blkOk_by (N := ["_law_stream_here", "_law_kinds", "_law_rank", "_law_kind", "_law_around", "_law_mark", "_law_sets", "_law_k", "_law_word", "_law_low", "_law_great", "_law_plain", "_law_own", "_law_value"]) (sc := defScope (topS 31)) (by decide +kernel)) (fun _ _ _ _ _ => (gTup_ (n := 2) rfl (gCons_ (gName_ (i := 12) (pg_name sc__law_rule.nd rfl (.inl rfl))) (gCons_ (gName_ (i := 13) (pg_name sc__law_rule.nd rfl (.inl rfl))) gNil_)))) (fun _ _ _ _ _ => cNoIf) (fun _ _ _ _ _ => (xV (pv 12))))) (by first | exact nobehind _ (by decide) (by decide) | rfl)) (zOne (zExpr (xApp (pv 6) (xTup (xA (xV (pv 8)) (xA (xAdd (xV (pv 9)) (xCall C__law_take hr (xA (xV (pv 0)) (xA (xAdd (xSub (xV (pv 10)) (xV (pv 9))) xInt) xA0)))) xA0)))))) zNil))))
  (zOne (zRet (xTup (xA (xV (pv 2)) (xA (xV (pv 3)) (xA (xV (pv 4)) (xA (xV (pv 5)) (xA (xMv (pv 6)) xA0))))))))))))))))⟩)

theorem sc__law_refused : FnScope ["_law_rules", "_law_own", "error"] ["_law_rules"] (defScope (topS 33)) := ⟨rfl, rfl, rfl, by decide +kernel, rfl, by decide +kernel, by decide +kernel⟩
theorem c__law_refused (G : Gs K mg w) (D : DefOk K mg "_law_refused" (topS 33)) (C_made_rules : CalX P w K mg base 4 "made_rules" ["rules"] [false] f_made_rules)  : Cal P w K mg base 5 "_law_refused" ["_law_rules"] [false] f__law_refused := by
  obtain ⟨fa, fd, Fu, hm⟩ := D
  refine ⟨fa, fd, ?_, hm, Fu.kp, Fu.binds (ps := ["_law_rules"]) (fun _ _ _ _ _ _ us hl => match us, hl with | [_], _ => rfl), fun_lk Fu⟩
  exact fn_ok Fu sc__law_refused [false] rfl (b := b__law_refused) (fun cdv A outer s H E hr => ⟨_, (zCons (zAsg (xLst xA0) (gName_ (i := 1) (pg_name sc__law_refused.nd rfl (.inl rfl))))
  (zCons (zTryF (X := (cxOf CX0 P w K mg base ["_law_rules", "_law_own", "error"] "_law_refused" (defScope (topS 33)) fa cdv A outer s H E).nox) rfl rfl sc__law_refused.nd rfl rfl ⟨by rfl, by decide, .inl G.y_PressError⟩ (cvl_of G.y_NoRule) G.h_NoRule_PressError (by decide) (by decide) (by decide) (fun pns xe => (yOne (yExpr (yCallX (X := ((cxOf CX0 P w K mg base ["_law_rules", "_law_own", "error"] "_law_refused" (defScope (topS 33)) fa cdv A outer s H E).nox).tr pns xe) C_made_rules hr (xA (xV (pv 0)) xA0))))) (fun _ _ _ => pg_name (i := 1) sc__law_refused.nd rfl (.inl rfl)) (fun _ _ _ => pv 1) (vIs (X := (cxOf CX0 P w K mg base ["_law_rules", "_law_own", "error"] "_law_refused" (defScope (topS 33)) fa cdv A outer s H E).nox) G.w_NoRule (fun _ _ _ => pv 2) (by rfl) G.z_isinstance (by rfl) G.y_NoRule G.i_NoRule_NoRule) (vIsB (X := (cxOf CX0 P w K mg base ["_law_rules", "_law_own", "error"] "_law_refused" (defScope (topS 33)) fa cdv A outer s H E).nox) G.w_NoRule (fun _ _ _ => pv 2) (by rfl) G.z_isinstance (by rfl) G.z_ValueError (by decide +kernel) G.i_NoRule_ValueError) (vIsT (X := (cxOf CX0 P w K mg base ["_law_rules", "_law_own", "error"] "_law_refused" (defScope (topS 33)) fa cdv A outer s H E).nox) G.w_NoRule (fun _ _ _ => pv 2) (by rfl) G.z_isinstance (vcC (X := (cxOf CX0 P w K mg base ["_law_rules", "_law_own", "error"] "_law_refused" (defScope (topS 33)) fa cdv A outer s H E).nox) (by rfl) G.y_NoBook (vcC (X := (cxOf CX0 P w K mg base ["_law_rules", "_law_own", "error"] "_law_refused" (defScope (topS 33)) fa cdv A outer s H E).nox) (by rfl) G.y_NoDrawing (vcC (X := (cxOf CX0 P w K mg base ["_law_rules", "_law_own", "error"] "_law_refused" (defScope (topS 33)) fa cdv A outer s H E).nox) (by rfl) G.y_NoFace (vcC (X := (cxOf CX0 P w K mg base ["_law_rules", "_law_own", "error"] "_law_refused" (defScope (topS 33)) fa cdv A outer s H E).nox) (by rfl) G.y_NoLeaf (vcC (X := (cxOf CX0 P w K mg base ["_law_rules", "_law_own", "error"] "_law_refused" (defScope (topS 33)) fa cdv A outer s H E).nox) (by rfl) G.y_NoNode (vcC (X := (cxOf CX0 P w K mg base ["_law_rules", "_law_own", "error"] "_law_refused" (defScope (topS 33)) fa cdv A outer s H E).nox) (by rfl) G.y_NoPart (vcC (X := (cxOf CX0 P w K mg base ["_law_rules", "_law_own", "error"] "_law_refused" (defScope (topS 33)) fa cdv A outer s H E).nox) (by rfl) G.y_NoSheet (vc0 (X := (cxOf CX0 P w K mg base ["_law_rules", "_law_own", "error"] "_law_refused" (defScope (topS 33)) fa cdv A outer s H E).nox))))))))) (by simp) (kitAny_no G.i_NoRule_NoBook (kitAny_no G.i_NoRule_NoDrawing (kitAny_no G.i_NoRule_NoFace (kitAny_no G.i_NoRule_NoLeaf (kitAny_no G.i_NoRule_NoNode (kitAny_no G.i_NoRule_NoPart (kitAny_no G.i_NoRule_NoSheet LP.kitAny_nil)))))))))
  (zOne (zRet (xEq hr.units (xV (pv 1)) (xLst (xA xBl (xA xBl (xA xBl xA0)))))))))⟩)

theorem sc__law_by_name : FnScope ["_law_rules"] ["_law_rules"] (defScope (topS 34)) := ⟨rfl, rfl, rfl, by decide +kernel, rfl, by decide +kernel, by decide +kernel⟩
theorem c__law_by_name (G : Gs K mg w) (D : DefOk K mg "_law_by_name" (topS 34)) (C_made_rules : CalX P w K mg base 4 "made_rules" ["rules"] [false] f_made_rules)  : Cal P w K mg base 5 "_law_by_name" ["_law_rules"] [false] f__law_by_name := by
  obtain ⟨fa, fd, Fu, hm⟩ := D
  refine ⟨fa, fd, ?_, hm, Fu.kp, Fu.binds (ps := ["_law_rules"]) (fun _ _ _ _ _ _ us hl => match us, hl with | [_], _ => rfl), fun_lk Fu⟩
  exact fn_ok Fu sc__law_by_name [false] rfl (b := b__law_by_name) (fun cdv A outer s H E hr => ⟨_, (zCons (zTryO (X := (cxOf CX0 P w K mg base ["_law_rules"] "_law_by_name" (defScope (topS 34)) fa cdv A outer s H E).nox) rfl rfl ⟨by rfl, by decide, .inl G.y_NoRule⟩ (m1_ok G.y_NoRule G.h_NoRule_NoRule) (fun pns xe => (yOne (yExpr (yCallX (X := ((cxOf CX0 P w K mg base ["_law_rules"] "_law_by_name" (defScope (topS 34)) fa cdv A outer s H E).nox).tr pns xe) C_made_rules hr (xA (xV (pv 0)) xA0))))) (fun a oe pns => (zOne (zRet xBl))))
  (zOne (zRet xBl)))⟩)

theorem sc__law_spoiled : FnScope ["_law_rule_here", "_law_stream_here", "_law_rank", "_law_kind", "_law_around", "_law_mark", "_law_sets", "_law_way", "_law_far", "_law_word", "_law_low", "_law_great", "_law_plain", "_law_left", "_law_odd", "_law_row"] ["_law_rule_here", "_law_stream_here"] (defScope (topS 32)) := ⟨rfl, rfl, rfl, by decide +kernel, rfl, by decide +kernel, by decide +kernel⟩
theorem c__law_spoiled (G : Gs K mg w) (D : DefOk K mg "_law_spoiled" (topS 32)) (C__law_take : Cal P w K mg base 1 "_law_take" ["_law_stream_here", "_law_most"] [true, false] f__law_take) (C__law_table : Cal P w K mg base 1 "_law_table" [] [] f__law_table)  : Cal P w K mg base 2 "_law_spoiled" ["_law_rule_here", "_law_stream_here"] [false, true] f__law_spoiled := by
  obtain ⟨fa, fd, Fu, hm⟩ := D
  refine ⟨fa, fd, ?_, hm, Fu.kp, Fu.binds (ps := ["_law_rule_here", "_law_stream_here"]) (fun _ _ _ _ _ _ us hl => match us, hl with | [_, _], _ => rfl), fun_lk Fu⟩
  exact fn_ok Fu sc__law_spoiled [false, true] rfl (b := b__law_spoiled) (fun cdv A outer s H E hr => ⟨_, (zCons (zAsg (xV (pv 0)) (gTup_ (n := 5) rfl (gCons_ (gName_ (i := 2) (pg_name sc__law_spoiled.nd rfl (.inl rfl))) (gCons_ (gName_ (i := 3) (pg_name sc__law_spoiled.nd rfl (.inl rfl))) (gCons_ (gName_ (i := 4) (pg_name sc__law_spoiled.nd rfl (.inl rfl))) (gCons_ (gName_ (i := 5) (pg_name sc__law_spoiled.nd rfl (.inl rfl))) (gCons_ (gName_ (i := 6) (pg_name sc__law_spoiled.nd rfl (.inl rfl))) gNil_)))))))
  (zCons (zAsg (xFr (xCall C__law_take hr (xA (xV (pv 1)) (xA xInt xA0)))) (gName_ (i := 7) (pg_name sc__law_spoiled.nd rfl (.inl rfl))))
  (zCons (zAsg (xFr (xCall C__law_take hr (xA (xV (pv 1)) (xA (xPow xInt xInt) xA0)))) (gName_ (i := 8) (pg_name sc__law_spoiled.nd rfl (.inl rfl))))
  (zCons (zAsg (xFr (xIx (xCall0 C__law_table hr) (xCall C__law_take hr (xA (xV (pv 1)) (xA xInt xA0))))) (gTup_ (n := 4) rfl (gCons_ (gName_ (i := 9) (pg_name sc__law_spoiled.nd rfl (.inr rfl))) (gCons_ (gName_ (i := 10) (pg_name sc__law_spoiled.nd rfl (.inl rfl))) (gCons_ (gName_ (i := 11) (pg_name sc__law_spoiled.nd rfl (.inl rfl))) (gCons_ (gName_ (i := 12) (pg_name sc__law_spoiled.nd rfl (.inl rfl))) gNil_))))))
  (zCons (zSetLcF (i := 13) (own := [("_law_row", 15)]) (n := 16) (pm := [0, 1, 2, 3, 4, 5, 6, 7, 8, 9, 10, 11, 12, 13, 14]) rfl sc__law_spoiled.nd rfl rfl (sw_true rfl rfl rfl (by decide +kernel)) (iList_ (xV (pv 6))) (blkOk_by (N := ["_law_rule_here", "_law_stream_here", "_law_rank", "_law_kind", "_law_around", "_law_mark", "_law_sets", "_law_way", "_law_far", "_law_word", "_law_low", "_law_great", "_law_plain", "_law_left", "_law_odd", "_law_row"]) (sc := defScope (topS 32)) (by decide +kernel)) (fun _ _ _ _ _ => (gName_ (i := 15) (pg_name sc__law_spoiled.nd rfl (.inl rfl)))) (fun _ _ _ _ _ => (cIf1 (yNe hr.units (xIx (xV (pv 15)) xInt) (xV (pv 9))))) (fun _ _ _ _ _ => (xV (pv 15))))
  (zCons (zIf (yLt (xV (pv 7)) xInt) (zOne (zRet (xTup (xA (xIx (xLst (xA (xSub (xNeg xInt) (xV (pv 8))) (xA (xAdd xInt (xV (pv 8))) xA0))) (xV (pv 7))) (xA (xV (pv 3)) (xA (xV (pv 4)) (xA (xV (pv 5)) (xA (xV (pv 6)) xA0)))))))) zNil)
  (zCons (zIf (yLt (xV (pv 7)) xInt) (zCons (zAsg (xFr (xIx (xLst (xA xStr (xA xStr (xA xStr (xA xStr xA0))))) (xCall C__law_take hr (xA (xV (pv 1)) (xA xInt xA0))))) (gName_ (i := 14) (pg_name sc__law_spoiled.nd rfl (.inl rfl))))
  (zOne (zRet (xIx (xLst (xA (xTup (xA (xV (pv 2)) (xA (xV (pv 14)) (xA (xV (pv 4)) (xA (xV (pv 5)) (xA (xV (pv 6)) xA0)))))) (xA (xTup (xA (xV (pv 2)) (xA (xV (pv 3)) (xA (xV (pv 14)) (xA (xV (pv 5)) (xA (xV (pv 6)) xA0)))))) xA0))) (xMod (xV (pv 7)) xInt))))) zNil)
  (zCons (zIf (yLt (xV (pv 7)) xInt) (zCons (zAsg (xFr (xIx (xLst (xA xStr (xA xStr (xA xStr (xA xStr (xA xStr (xA xStr xA0))))))) (xCall C__law_take hr (xA (xV (pv 1)) (xA xInt xA0))))) (gName_ (i := 14) (pg_name sc__law_spoiled.nd rfl (.inl rfl))))
  (zOne (zRet (xTup (xA (xV (pv 2)) (xA (xV (pv 3)) (xA (xV (pv 4)) (xA (xV (pv 14)) (xA (xV (pv 6)) xA0))))))))) zNil)
  (zCons (zIf (yEq hr.units (xV (pv 7)) xInt) (zOne (zRet (xTup (xA (xV (pv 2)) (xA (xV (pv 3)) (xA (xV (pv 4)) (xA (xV (pv 5)) (xA (xLst xA0) xA0)))))))) zNil)
  (zCons (zIf (yEq hr.units (xV (pv 7)) xInt) (zOne (zRet (xTup (xA (xV (pv 2)) (xA (xV (pv 3)) (xA (xV (pv 4)) (xA (xV (pv 5)) (xA (xAdd (xV (pv 13)) (xLst (xA (xTup (xA (xIx (xLst (xA xStr (xA xStr (xA xStr (xA xStr xA0))))) (xCall C__law_take hr (xA (xV (pv 1)) (xA xInt xA0)))) (xA (xV (pv 11)) xA0))) xA0))) xA0)))))))) zNil)
  (zCons (zIf (yEq hr.units (xV (pv 7)) xInt) (zOne (zRet (xTup (xA (xV (pv 2)) (xA (xV (pv 3)) (xA (xV (pv 4)) (xA (xV (pv 5)) (xA (xAdd (xV (pv 13)) (xLst (xA (xTup (xA (xV (pv 9)) (xA (xV (pv 10)) xA0))) (xA (xTup (xA (xV (pv 9)) (xA (xV (pv 11)) xA0))) xA0)))) xA0)))))))) zNil)
  (zCons (zIf (yEq hr.units (xV (pv 7)) xInt) (zOne (zRet (xTup (xA (xV (pv 2)) (xA (xV (pv 3)) (xA (xV (pv 4)) (xA (xV (pv 5)) (xA (xAdd (xV (pv 13)) (xLst (xA (xTup (xA (xV (pv 9)) (xA (xSub (xSub (xV (pv 10)) xInt) (xV (pv 8))) xA0))) xA0))) xA0)))))))) zNil)
  (zOne (zRet (xTup (xA (xV (pv 2)) (xA (xV (pv 3)) (xA (xV (pv 4)) (xA (xV (pv 5)) (xA (xAdd (xV (pv 13)) (xLst (xA (xTup (xA (xV (pv 9)) (xA (xAdd (xAdd (xV (pv 11)) xInt) (xV (pv 8))) xA0))) xA0))) xA0))))))))))))))))))))⟩)

theorem sc_law : FnScope ["_law_script", "_law_stream_here", "_law_rules", "_law_handed", "_law_found", "_law_at", "_law_bad", "_law_word", "_law_low", "_law_great", "_law_plain", "_law_edge", "_law_k", "_law_rank", "_law_kind", "_law_around", "_law_mark", "_law_sets"] ["_law_script"] (defScope (topS 35)) := ⟨rfl, rfl, rfl, by decide +kernel, rfl, by decide +kernel, by decide +kernel⟩
theorem c_law (G : Gs K mg w) (D : DefOk K mg "law" (topS 35)) (C_made_rules : CalX P w K mg base 4 "made_rules" ["rules"] [false] f_made_rules) (C__law_refused : Cal P w K mg base 5 "_law_refused" ["_law_rules"] [false] f__law_refused) (C__law_table : Cal P w K mg base 1 "_law_table" [] [] f__law_table) (C__law_take : Cal P w K mg base 1 "_law_take" ["_law_stream_here", "_law_most"] [true, false] f__law_take) (C__law_by_name : Cal P w K mg base 5 "_law_by_name" ["_law_rules"] [false] f__law_by_name) (C__law_spoiled : Cal P w K mg base 2 "_law_spoiled" ["_law_rule_here", "_law_stream_here"] [false, true] f__law_spoiled) (C__law_rule : Cal P w K mg base 2 "_law_rule" ["_law_stream_here"] [true] f__law_rule) (C__law_stream : Cal P w K mg base 1 "_law_stream" ["_law_script", "_law_k"] [false, false] f__law_stream)  : Cal P w K mg base 6 "law" ["_law_script"] [false] f_law := by
  obtain ⟨fa, fd, Fu, hm⟩ := D
  refine ⟨fa, fd, ?_, hm, Fu.kp, Fu.binds (ps := ["_law_script"]) (fun _ _ _ _ _ _ us hl => match us, hl with | [_], _ => rfl), fun_lk Fu⟩
  exact fn_ok Fu sc_law [false] rfl (b := b_law) (fun cdv A outer s H E hr => ⟨_, (zCons (zAsg (xCall C__law_stream hr (xA (xV (pv 0)) (xA xInt xA0))) (gName_ (i := 1) (pg_name sc_law.nd rfl (.inr rfl))))
  (zCons (zSetLcF (i := 2) (own := [("_law_k", 12)]) (n := 18) (pm := [0, 1, 2, 3, 4, 5, 6, 7, 8, 9, 10, 11, 13, 14, 15, 16, 17]) rfl sc_law.nd rfl rfl (sw_true rfl rfl rfl (by decide +kernel)) (iR1_ (by rfl) G.z_range (xA (xAdd xInt (xCall C__law_take hr (xA (xV (pv 1)) (xA xInt xA0)))) xA0)) (blkOk_by (N := ["_law_script", "_law_stream_here", "_law_rules", "_law_handed", "_law_found", "_law_at", "_law_bad", "_law_word", "_law_low", "_law_great", "_law_plain", "_law_edge", "_law_k", "_law_rank", "_law_kind", "_law_around", "_law_mark", "_law_sets"]) (sc := defScope (topS 35)) (by decide +kernel)) (fun _ _ _ _ _ => (gName_ (i := 12) (pg_name sc_law.nd rfl (.inl rfl)))) (fun _ _ _ _ _ => cNoIf) (fun _ _ _ _ _ => (xCall C__law_rule hr (xA (xV (pv 1)) xA0))))
  (zCons (zSetLcF (i := 3) (own := [("_law_rank", 13), ("_law_kind", 14), ("_law_around", 15), ("_law_mark", 16), ("_law_sets", 17)]) (n := 18) (pm := [0, 1, 2, 3, 4, 5, 6, 7, 8, 9, 10, 11, 12]) rfl sc_law.nd rfl rfl (sw_true rfl rfl rfl (by decide +kernel)) (iList_ (xV (pv 2))) (blkOk_by (N := ["_law_script", "_law_stream_here", "_law_rules", "_law_handed", "_law_found", "_law_at", "_law_bad", "_law_word", "_law_low", "_law_great", "_law_plain", "_law_edge", "_law_k", "_law_rank", "_law_kind", "_law_around", "_law_mark", "_law_sets"]) (sc := defScope (topS 35)) (by decide +kernel)) (fun _ _ _ _ _ => (gTup_ (n := 5) rfl (gCons_ (gName_ (i := 13) (pg_name sc_law.nd rfl (.inl rfl))) (gCons_ (gName_ (i := 14) (pg_name sc_law.nd rfl (.inl rfl))) (gCons_ (gName_ (i := 15) (pg_name sc_law.nd rfl (.inl rfl))) (gCons_ (gName_ (i := 16) (pg_name sc_law.nd rfl (.inl rfl))) (gCons_ (gName_ (i := 17) (pg_name sc_law.nd rfl (.inl rfl))) gNil_))))))) (fun _ _ _ _ _ => cNoIf) (fun _ _ _ _ _ => (xTup (xA (xV (pv 13)) (xA (xV (pv 14)) (xA (xV (pv 15)) (xA (xV (pv 16)) (xA (xList (by rfl) G.z_list (xA (xV (pv 17)) xA0)) xA0))))))))
  (zCons (zAsg (xCallK C_made_rules hr (xA (xV (pv 3)) xA0)) (gName_ (i := 4) (pg_name sc_law.nd rfl (.inl rfl))))
  (zCons (zIf (wOr (yNot (yVal (xIsi (by rfl) G.z_isinstance (by rfl) G.z_list b_list (xV (pv 4))))) (wOr (yNe hr.units (xV (pv 4)) (xV (pv 2))) (wOr1 (yNe hr.units (xV (pv 3)) (xV (pv 2)))))).t (zOne (zRet xBl)) zNil)
  (zCons (zExpr (xAppQ (pth := [0, 4]) (ptIx (ptIx (ptV (pv 4)) icI) icI) xStr (fun _ _ => .str _) xInt (fun _ _ => .int _)))
  (zCons (zExpr (xApp (pv 4) (xIx (xV (pv 2)) xInt)))
  (zCons (zIf (wOr (yNe hr.units (xV (pv 3)) (xV (pv 2))) (wOr1 (yNe hr.units (xCallK C_made_rules hr (xA (xLst xA0) xA0)) (xLst xA0)))).t (zOne (zRet xBl)) zNil)
  (zCons (zAsg (xFr (xCall C__law_take hr (xA (xV (pv 1)) (xA (xLen (by rfl) G.z_len (xA (xV (pv 2)) xA0)) xA0)))) (gName_ (i := 5) (pg_name sc_law.nd rfl (.inl rfl))))
  (zCons (zAsg (xFr (xAdd (xAdd (xSl (xV (pv 2)) xP0 (xP1 (xV (pv 5)))) (xLst (xA (xFr (xCall C__law_spoiled hr (xA (xIx (xV (pv 2)) (xV (pv 5))) (xA (xV (pv 1)) xA0)))) xA0))) (xSl (xV (pv 2)) (xP1 (xAdd (xV (pv 5)) xInt)) xP0))) (gName_ (i := 6) (pg_name sc_law.nd rfl (.inl rfl))))
  (zCons (zIf (wOr (yNot (yVal (xCall C__law_refused hr (xA (xV (pv 6)) xA0)))) (wOr (yNot (yVal (xCall C__law_by_name hr (xA (xV (pv 6)) xA0)))) (wOr1 (yNe hr.units (xCallK C_made_rules hr (xA (xV (pv 3)) xA0)) (xV (pv 2)))))).t (zOne (zRet xBl)) zNil)
  (zCons (zAsg (xFr (xIx (xCall0 C__law_table hr) (xCall C__law_take hr (xA (xV (pv 1)) (xA xInt xA0))))) (gTup_ (n := 4) rfl (gCons_ (gName_ (i := 7) (pg_name sc_law.nd rfl (.inl rfl))) (gCons_ (gName_ (i := 8) (pg_name sc_law.nd rfl (.inl rfl))) (gCons_ (gName_ (i := 9) (pg_name sc_law.nd rfl (.inl rfl))) (gCons_ (gName_ (i := 10) (pg_name sc_law.nd rfl (.inl rfl))) gNil_))))))
  (zCons (zAsg (xFr (xLst (xA (xTup (xA xInt (xA xStr (xA xStr (xA xStr (xA (xLst (xA (xTup (xA (xV (pv 7)) (xA (xV (pv 8)) xA0))) xA0)) xA0)))))) (xA (xTup (xA xInt (xA xStr (xA xStr (xA xStr (xA (xLst (xA (xTup (xA (xV (pv 7)) (xA (xV (pv 9)) xA0))) xA0)) xA0)))))) xA0)))) (gName_ (i := 11) (pg_name sc_law.nd rfl (.inl rfl))))
  (zCons (zIf (wOr (yNe hr.units (xCallK C_made_rules hr (xA (xV (pv 11)) xA0)) (xV (pv 11))) (wOr1 (yNe hr.units (xCallK C_made_rules hr (xA (xRep (xV (pv 11)) xInt) xA0)) (xRep (xV (pv 11)) xInt)))).t (zOne (zRet xBl)) zNil)
  (zOne (zRet (xAndV (xCall C__law_refused hr (xA (xAdd (xRep (xV (pv 11)) xInt) (xSl (xV (pv 11)) xP0 (xP1 xInt))) xA0)) (xOne (xEq hr.units (xCallK C_made_rules hr (xA (xV (pv 2)) xA0)) (xV (pv 2)))))))))))))))))))))⟩)

end
theorem all_ok {P : Program} {w : World} {K : PySem.W.Frag} {mg : Str → Option Value} {base : Heap} (G : Gs K mg w) (D0 : DefOk K mg "_law_stream" (topS 28)) (D1 : DefOk K mg "within" (topS 16)) (D2 : DefOk K mg "ask_set" (topS 24)) (D3 : DefOk K mg "made_of" (topS 13)) (D4 : DefOk K mg "is_name" (topS 14)) (D5 : DefOk K mg "ask_rule" (topS 25)) (D6 : DefOk K mg "made_rules" (topS 26)) (D7 : DefOk K mg "_law_take" (topS 29)) (D8 : DefOk K mg "_law_table" (topS 30)) (D9 : DefOk K mg "_law_rule" (topS 31)) (D10 : DefOk K mg "_law_refused" (topS 33)) (D11 : DefOk K mg "_law_by_name" (topS 34)) (D12 : DefOk K mg "_law_spoiled" (topS 32)) (D13 : DefOk K mg "law" (topS 35)) : Cal P w K mg base 6 "law" ["_law_script"] [false] f_law := by
  have C__law_stream : Cal P w K mg base 1 "_law_stream" ["_law_script", "_law_k"] [false, false] f__law_stream := c__law_stream G D0  
  have C_within : Cal P w K mg base 1 "within" ["number", "low", "high"] [false, false, false] f_within := c_within G D1  
  have C_ask_set : CalX P w K mg base 2 "ask_set" ["word", "value"] [false, false] f_ask_set := c_ask_set G D2 C_within 
  have C_made_of : Cal P w K mg base 1 "made_of" ["text", "signs"] [false, false] f_made_of := c_made_of G D3  
  have C_is_name : Cal P w K mg base 2 "is_name" ["text"] [false] f_is_name := c_is_name G D4 C_made_of 
  have C_ask_rule : CalX P w K mg base 3 "ask_rule" ["rule"] [false] f_ask_rule := c_ask_rule G D5 C_ask_set C_is_name C_within 
  have C_made_rules : CalX P w K mg base 4 "made_rules" ["rules"] [false] f_made_rules := c_made_rules G D6 C_ask_rule 
  have C__law_take : Cal P w K mg base 1 "_law_take" ["_law_stream_here", "_law_most"] [true, false] f__law_take := c__law_take G D7  
  have C__law_table : Cal P w K mg base 1 "_law_table" [] [] f__law_table := c__law_table G D8  
  have C__law_rule : Cal P w K mg base 2 "_law_rule" ["_law_stream_here"] [true] f__law_rule := c__law_rule G D9 C__law_take C__law_table 
  have C__law_refused : Cal P w K mg base 5 "_law_refused" ["_law_rules"] [false] f__law_refused := c__law_refused G D10 C_made_rules 
  have C__law_by_name : Cal P w K mg base 5 "_law_by_name" ["_law_rules"] [false] f__law_by_name := c__law_by_name G D11 C_made_rules 
  have C__law_spoiled : Cal P w K mg base 2 "_law_spoiled" ["_law_rule_here", "_law_stream_here"] [false, true] f__law_spoiled := c__law_spoiled G D12 C__law_take C__law_table 
  have C_law : Cal P w K mg base 6 "law" ["_law_script"] [false] f_law := c_law G D13 C_made_rules C__law_refused C__law_table C__law_take C__law_by_name C__law_spoiled C__law_rule C__law_stream 
  exact C_law
theorem all_mk {l : PySem.W.OpenLaw} {w : World} {K : PySem.W.Frag} {h : Heap} {mg : Str → Option Value} {fa : Addr} (X : K.In h) (G : h.Ns mainGlobals mg) (hfa : mg "law" = some (.ref fa))
    {od0 an0 : Option Addr} {sl0 : Array (Option Value)} {oc0 kV0 dc0 pm0 cd0 ct0 : Value} {f0 : Addr} (a0 : PySem.W.nsIn K mainGlobals "_law_stream" = some (some (.ref f0))) (l0 : K.lookup f0 = some ⟨oc0, od0, .func (PySem.W.fnOf "_law_stream" "_law_stream" (defArgs (topS 28)) (defBody (topS 28)) (defScope (topS 28)) .none kV0 dc0 pm0 an0 cd0 ct0), sl0⟩) (c0 : PySem.W.codeIn K cd0 "_law_stream" = true) (k0 : PySem.W.keepIn K (.ref f0) = true)
    {od1 an1 : Option Addr} {sl1 : Array (Option Value)} {oc1 kV1 dc1 pm1 cd1 ct1 : Value} {f1 : Addr} (a1 : PySem.W.nsIn K mainGlobals "within" = some (some (.ref f1))) (l1 : K.lookup f1 = some ⟨oc1, od1, .func (PySem.W.fnOf "within" "within" (defArgs (topS 16)) (defBody (topS 16)) (defScope (topS 16)) .none kV1 dc1 pm1 an1 cd1 ct1), sl1⟩) (c1 : PySem.W.codeIn K cd1 "within" = true) (k1 : PySem.W.keepIn K (.ref f1) = true)
    {od2 an2 : Option Addr} {sl2 : Array (Option Value)} {oc2 kV2 dc2 pm2 cd2 ct2 : Value} {f2 : Addr} (a2 : PySem.W.nsIn K mainGlobals "ask_set" = some (some (.ref f2))) (l2 : K.lookup f2 = some ⟨oc2, od2, .func (PySem.W.fnOf "ask_set" "ask_set" (defArgs (topS 24)) (defBody (topS 24)) (defScope (topS 24)) .none kV2 dc2 pm2 an2 cd2 ct2), sl2⟩) (c2 : PySem.W.codeIn K cd2 "ask_set" = true) (k2 : PySem.W.keepIn K (.ref f2) = true)
    {od3 an3 : Option Addr} {sl3 : Array (Option Value)} {oc3 kV3 dc3 pm3 cd3 ct3 : Value} {f3 : Addr} (a3 : PySem.W.nsIn K mainGlobals "made_of" = some (some (.ref f3))) (l3 : K.lookup f3 = some ⟨oc3, od3, .func (PySem.W.fnOf "made_of" "made_of" (defArgs (topS 13)) (defBody (topS 13)) (defScope (topS 13)) .none kV3 dc3 pm3 an3 cd3 ct3), sl3⟩) (c3 : PySem.W.codeIn K cd3 "made_of" = true) (k3 : PySem.W.keepIn K (.ref f3) = true)
    {od4 an4 : Option Addr} {sl4 : Array (Option Value)} {oc4 kV4 dc4 pm4 cd4 ct4 : Value} {f4 : Addr} (a4 : PySem.W.nsIn K mainGlobals "is_name" = some (some (.ref f4))) (l4 : K.lookup f4 = some ⟨oc4, od4, .func (PySem.W.fnOf "is_name" "is_name" (defArgs (topS 14)) (defBody (topS 14)) (defScope (topS 14)) .none kV4 dc4 pm4 an4 cd4 ct4), sl4⟩) (c4 : PySem.W.codeIn K cd4 "is_name" = true) (k4 : PySem.W.keepIn K (.ref f4) = true)
    {od5 an5 : Option Addr} {sl5 : Array (Option Value)} {oc5 kV5 dc5 pm5 cd5 ct5 : Value} {f5 : Addr} (a5 : PySem.W.nsIn K mainGlobals "ask_rule" = some (some (.ref f5))) (l5 : K.lookup f5 = some ⟨oc5, od5, .func (PySem.W.fnOf "ask_rule" "ask_rule" (defArgs (topS 25)) (defBody (topS 25)) (defScope (topS 25)) .none kV5 dc5 pm5 an5 cd5 ct5), sl5⟩) (c5 : PySem.W.codeIn K cd5 "ask_rule" = true) (k5 : PySem.W.keepIn K (.ref f5) = true)
    {od6 an6 : Option Addr} {sl6 : Array (Option Value)} {oc6 kV6 dc6 pm6 cd6 ct6 : Value} {f6 : Addr} (a6 : PySem.W.nsIn K mainGlobals "made_rules" = some (some (.ref f6))) (l6 : K.lookup f6 = some ⟨oc6, od6, .func (PySem.W.fnOf "made_rules" "made_rules" (defArgs (topS 26)) (defBody (topS 26)) (defScope (topS 26)) .none kV6 dc6 pm6 an6 cd6 ct6), sl6⟩) (c6 : PySem.W.codeIn K cd6 "made_rules" = true) (k6 : PySem.W.keepIn K (.ref f6) = true)
    {od7 an7 : Option Addr} {sl7 : Array (Option Value)} {oc7 kV7 dc7 pm7 cd7 ct7 : Value} {f7 : Addr} (a7 : PySem.W.nsIn K mainGlobals "_law_take" = some (some (.ref f7))) (l7 : K.lookup f7 = some ⟨oc7, od7, .func (PySem.W.fnOf "_law_take" "_law_take" (defArgs (topS 29)) (defBody (topS 29)) (defScope (topS 29)) .none kV7 dc7 pm7 an7 cd7 ct7), sl7⟩) (c7 : PySem.W.codeIn K cd7 "_law_take" = true) (k7 : PySem.W.keepIn K (.ref f7) = true)
    {od8 an8 : Option Addr} {sl8 : Array (Option Value)} {oc8 kV8 dc8 pm8 cd8 ct8 : Value} {f8 : Addr} (a8 : PySem.W.nsIn K mainGlobals "_law_table" = some (some (.ref f8))) (l8 : K.lookup f8 = some ⟨oc8, od8, .func (PySem.W.fnOf "_law_table" "_law_table" (defArgs (topS 30)) (defBody (topS 30)) (defScope (topS 30)) .none kV8 dc8 pm8 an8 cd8 ct8), sl8⟩) (c8 : PySem.W.codeIn K cd8 "_law_table" = true) (k8 : PySem.W.keepIn K (.ref f8) = true)
    {od9 an9 : Option Addr} {sl9 : Array (Option Value)} {oc9 kV9 dc9 pm9 cd9 ct9 : Value} {f9 : Addr} (a9 : PySem.W.nsIn K mainGlobals "_law_rule" = some (some (.ref f9))) (l9 : K.lookup f9 = some ⟨oc9, od9, .func (PySem.W.fnOf "_law_rule" "_law_rule" (defArgs (topS 31)) (defBody (topS 31)) (defScope (topS 31)) .none kV9 dc9 pm9 an9 cd9 ct9), sl9⟩) (c9 : PySem.W.codeIn K cd9 "_law_rule" = true) (k9 : PySem.W.keepIn K (.ref f9) = true)
    {od10 an10 : Option Addr} {sl10 : Array (Option Value)} {oc10 kV10 dc10 pm10 cd10 ct10 : Value} {f10 : Addr} (a10 : PySem.W.nsIn K mainGlobals "_law_refused" = some (some (.ref f10))) (l10 : K.lookup f10 = some ⟨oc10, od10, .func (PySem.W.fnOf "_law_refused" "_law_refused" (defArgs (topS 33)) (defBody (topS 33)) (defScope (topS 33)) .none kV10 dc10 pm10 an10 cd10 ct10), sl10⟩) (c10 : PySem.W.codeIn K cd10 "_law_refused" = true) (k10 : PySem.W.keepIn K (.ref f10) = true)
    {od11 an11 : Option Addr} {sl11 : Array (Option Value)} {oc11 kV11 dc11 pm11 cd11 ct11 : Value} {f11 : Addr} (a11 : PySem.W.nsIn K mainGlobals "_law_by_name" = some (some (.ref f11))) (l11 : K.lookup f11 = some ⟨oc11, od11, .func (PySem.W.fnOf "_law_by_name" "_law_by_name" (defArgs (topS 34)) (defBody (topS 34)) (defScope (topS 34)) .none kV11 dc11 pm11 an11 cd11 ct11), sl11⟩) (c11 : PySem.W.codeIn K cd11 "_law_by_name" = true) (k11 : PySem.W.keepIn K (.ref f11) = true)
    {od12 an12 : Option Addr} {sl12 : Array (Option Value)} {oc12 kV12 dc12 pm12 cd12 ct12 : Value} {f12 : Addr} (a12 : PySem.W.nsIn K mainGlobals "_law_spoiled" = some (some (.ref f12))) (l12 : K.lookup f12 = some ⟨oc12, od12, .func (PySem.W.fnOf "_law_spoiled" "_law_spoiled" (defArgs (topS 32)) (defBody (topS 32)) (defScope (topS 32)) .none kV12 dc12 pm12 an12 cd12 ct12), sl12⟩) (c12 : PySem.W.codeIn K cd12 "_law_spoiled" = true) (k12 : PySem.W.keepIn K (.ref f12) = true)
    {od13 an13 : Option Addr} {sl13 : Array (Option Value)} {oc13 kV13 dc13 pm13 cd13 ct13 : Value} {f13 : Addr} (a13 : PySem.W.nsIn K mainGlobals "law" = some (some (.ref f13))) (l13 : K.lookup f13 = some ⟨oc13, od13, .func (PySem.W.fnOf "law" "law" (defArgs (topS 35)) (defBody (topS 35)) (defScope (topS 35)) .none kV13 dc13 pm13 an13 cd13 ct13), sl13⟩) (c13 : PySem.W.codeIn K cd13 "law" = true) (k13 : PySem.W.keepIn K (.ref f13) = true)
    (z_ValueError : PySem.W.nsIn K mainGlobals "ValueError" = some none)
    (z_isinstance : PySem.W.nsIn K mainGlobals "isinstance" = some none)
    (z_len : PySem.W.nsIn K mainGlobals "len" = some none)
    (z_list : PySem.W.nsIn K mainGlobals "list" = some none)
    (z_range : PySem.W.nsIn K mainGlobals "range" = some none)
    (z_set : PySem.W.nsIn K mainGlobals "set" = some none)
    {t_MOST_LETTERS : Tok} (q_MOST_LETTERS : PySem.W.nsIn K mainGlobals "MOST_LETTERS" = some (some (.int 8 t_MOST_LETTERS)))
    {t_MOST_RANK : Tok} (q_MOST_RANK : PySem.W.nsIn K mainGlobals "MOST_RANK" = some (some (.int 9 t_MOST_RANK)))
    {t_MOST_RULES : Tok} (q_MOST_RULES : PySem.W.nsIn K mainGlobals "MOST_RULES" = some (some (.int 40 t_MOST_RULES)))
    {t_SMALL : Tok} (q_SMALL : PySem.W.nsIn K mainGlobals "SMALL" = some (some (.str "abcdefghijklmnopqrstuvwxyz" t_SMALL)))
    {a_GREATEST : Addr} {s_GREATEST : Array (Option Value)} {n_GREATEST : Nat} {t_GREATEST_0 t_GREATEST_1 t_GREATEST_2 t_GREATEST_3 t_GREATEST_4 t_GREATEST_5 t_GREATEST_6 t_GREATEST_7 t_GREATEST_8 t_GREATEST_9 t_GREATEST_10 t_GREATEST_11 t_GREATEST_12 : Tok} (q_GREATEST : PySem.W.nsIn K mainGlobals "GREATEST" = some (some (.ref a_GREATEST))) (l_GREATEST : K.lookup a_GREATEST = some ⟨.type "tuple", none, .seq #[.int 99 t_GREATEST_0, .int 3 t_GREATEST_1, .int 400 t_GREATEST_2, .int 400 t_GREATEST_3, .int 9 t_GREATEST_4, .int 4000 t_GREATEST_5, .int 4000 t_GREATEST_6, .int 6 t_GREATEST_7, .int 6 t_GREATEST_8, .int 4 t_GREATEST_9, .int 1 t_GREATEST_10, .int 4000 t_GREATEST_11, .int 1 t_GREATEST_12] n_GREATEST, s_GREATEST⟩)
    {a_KINDS : Addr} {s_KINDS : Array (Option Value)} {n_KINDS : Nat} {t_KINDS_0 t_KINDS_1 t_KINDS_2 t_KINDS_3 t_KINDS_4 t_KINDS_5 t_KINDS_6 t_KINDS_7 t_KINDS_8 : Tok} (q_KINDS : PySem.W.nsIn K mainGlobals "KINDS" = some (some (.ref a_KINDS))) (l_KINDS : K.lookup a_KINDS = some ⟨.type "tuple", none, .seq #[.str "body" t_KINDS_0, .str "case" t_KINDS_1, .str "shelf" t_KINDS_2, .str "grid" t_KINDS_3, .str "text" t_KINDS_4, .str "head" t_KINDS_5, .str "picture" t_KINDS_6, .str "aside" t_KINDS_7, .str "note" t_KINDS_8] n_KINDS, s_KINDS⟩)
    {a_LOWEST : Addr} {s_LOWEST : Array (Option Value)} {n_LOWEST : Nat} {t_LOWEST_0 t_LOWEST_1 t_LOWEST_2 t_LOWEST_3 t_LOWEST_4 t_LOWEST_5 t_LOWEST_6 t_LOWEST_7 t_LOWEST_8 t_LOWEST_9 t_LOWEST_10 t_LOWEST_11 t_LOWEST_12 : Tok} (q_LOWEST : PySem.W.nsIn K mainGlobals "LOWEST" = some (some (.ref a_LOWEST))) (l_LOWEST : K.lookup a_LOWEST = some ⟨.type "tuple", none, .seq #[.int 0 t_LOWEST_0, .int 0 t_LOWEST_1, .int 0 t_LOWEST_2, .int 0 t_LOWEST_3, .int 1 t_LOWEST_4, .int 0 t_LOWEST_5, .int 0 t_LOWEST_6, .int 1 t_LOWEST_7, .int 1 t_LOWEST_8, .int 1 t_LOWEST_9, .int 0 t_LOWEST_10, .int 1 t_LOWEST_11, .int 0 t_LOWEST_12] n_LOWEST, s_LOWEST⟩)
    {a_PROPERTIES : Addr} {s_PROPERTIES : Array (Option Value)} {n_PROPERTIES : Nat} {t_PROPERTIES_0 t_PROPERTIES_1 t_PROPERTIES_2 t_PROPERTIES_3 t_PROPERTIES_4 t_PROPERTIES_5 t_PROPERTIES_6 t_PROPERTIES_7 t_PROPERTIES_8 t_PROPERTIES_9 t_PROPERTIES_10 t_PROPERTIES_11 t_PROPERTIES_12 : Tok} (q_PROPERTIES : PySem.W.nsIn K mainGlobals "PROPERTIES" = some (some (.ref a_PROPERTIES))) (l_PROPERTIES : K.lookup a_PROPERTIES = some ⟨.type "tuple", none, .seq #[.str "face" t_PROPERTIES_0, .str "align" t_PROPERTIES_1, .str "above" t_PROPERTIES_2, .str "inset" t_PROPERTIES_3, .str "weight" t_PROPERTIES_4, .str "least" t_PROPERTIES_5, .str "most" t_PROPERTIES_6, .str "columns" t_PROPERTIES_7, .str "span" t_PROPERTIES_8, .str "deep" t_PROPERTIES_9, .str "side" t_PROPERTIES_10, .str "wide" t_PROPERTIES_11, .str "fresh" t_PROPERTIES_12] n_PROPERTIES, s_PROPERTIES⟩)
     {A_NoBook : Addr} (q_NoBook : PySem.W.nsIn K mainGlobals "NoBook" = some (some (.ref A_NoBook))) {A_NoDrawing : Addr} (q_NoDrawing : PySem.W.nsIn K mainGlobals "NoDrawing" = some (some (.ref A_NoDrawing))) {A_NoFace : Addr} (q_NoFace : PySem.W.nsIn K mainGlobals "NoFace" = some (some (.ref A_NoFace))) {A_NoLeaf : Addr} (q_NoLeaf : PySem.W.nsIn K mainGlobals "NoLeaf" = some (some (.ref A_NoLeaf))) {A_NoNode : Addr} (q_NoNode : PySem.W.nsIn K mainGlobals "NoNode" = some (some (.ref A_NoNode))) {A_NoPart : Addr} (q_NoPart : PySem.W.nsIn K mainGlobals "NoPart" = some (some (.ref A_NoPart))) {A_NoRule : Addr} (q_NoRule : PySem.W.nsIn K mainGlobals "NoRule" = some (some (.ref A_NoRule))) {A_NoSheet : Addr} (q_NoSheet : PySem.W.nsIn K mainGlobals "NoSheet" = some (some (.ref A_NoSheet))) {A_PressError : Addr} (q_PressError : PySem.W.nsIn K mainGlobals "PressError" = some (some (.ref A_PressError))) (e1_NoRule : PySem.W.excIn K A_NoRule [.type "ValueError", .type "Exception", .type "BaseException", .type "object"] "ValueError.__new__" = true) (e2_NoRule : PySem.W.keepIn K (.ref A_NoRule) = true) (e3_NoRule : PySem.W.subIn K (.ref A_NoRule) (.type "BaseException") = some true) (e4_NoRule : PySem.W.typeIn K (.ref A_NoRule) = some (.type "type")) (e5_NoRule : PySem.W.findIn K (.ref A_NoRule) "__getattribute__" = some (some (.builtin "BaseException.__getattribute__"))) (e6_NoRule : PySem.W.findIn K (.ref A_NoRule) "__getattr__" = some none) (e7_NoRule : PySem.W.hasDictIn K A_NoRule = true) (e8_NoRule : PySem.W.findIn K (.ref A_NoRule) "__class__" = some (some (.builtin "object.__class__"))) (e9_NoRule : PySem.W.specialIn K (.builtin "object.__class__") "__get__" = some (some (.builtin "getset_descriptor.__get__"))) (e10_NoRule : PySem.W.takesIn K (.builtin "object.__class__") = some true) (e11_NoRule : PySem.W.mroIn K A_NoRule (.type "object") = some true) (f1_NoBook : PySem.W.subIn K (.ref A_NoBook) (.type "BaseException") = some true) (f2_NoBook : PySem.W.hasDictIn K A_NoBook = true) (f3_NoBook : PySem.W.typeIn K (.ref A_NoBook) = some (.type "type")) (f1_NoDrawing : PySem.W.subIn K (.ref A_NoDrawing) (.type "BaseException") = some true) (f2_NoDrawing : PySem.W.hasDictIn K A_NoDrawing = true) (f3_NoDrawing : PySem.W.typeIn K (.ref A_NoDrawing) = some (.type "type")) (f1_NoFace : PySem.W.subIn K (.ref A_NoFace) (.type "BaseException") = some true) (f2_NoFace : PySem.W.hasDictIn K A_NoFace = true) (f3_NoFace : PySem.W.typeIn K (.ref A_NoFace) = some (.type "type")) (f1_NoLeaf : PySem.W.subIn K (.ref A_NoLeaf) (.type "BaseException") = some true) (f2_NoLeaf : PySem.W.hasDictIn K A_NoLeaf = true) (f3_NoLeaf : PySem.W.typeIn K (.ref A_NoLeaf) = some (.type "type")) (f1_NoNode : PySem.W.subIn K (.ref A_NoNode) (.type "BaseException") = some true) (f2_NoNode : PySem.W.hasDictIn K A_NoNode = true) (f3_NoNode : PySem.W.typeIn K (.ref A_NoNode) = some (.type "type")) (f1_NoPart : PySem.W.subIn K (.ref A_NoPart) (.type "BaseException") = some true) (f2_NoPart : PySem.W.hasDictIn K A_NoPart = true) (f3_NoPart : PySem.W.typeIn K (.ref A_NoPart) = some (.type "type")) (f1_NoRule : PySem.W.subIn K (.ref A_NoRule) (.type "BaseException") = some true) (f2_NoRule : PySem.W.hasDictIn K A_NoRule = true) (f3_NoRule : PySem.W.typeIn K (.ref A_NoRule) = some (.type "type")) (f1_NoSheet : PySem.W.subIn K (.ref A_NoSheet) (.type "BaseException") = some true) (f2_NoSheet : PySem.W.hasDictIn K A_NoSheet = true) (f3_NoSheet : PySem.W.typeIn K (.ref A_NoSheet) = some (.type "type")) (f1_PressError : PySem.W.subIn K (.ref A_PressError) (.type "BaseException") = some true) (f2_PressError : PySem.W.hasDictIn K A_PressError = true) (f3_PressError : PySem.W.typeIn K (.ref A_PressError) = some (.type "type")) (i_NoRule_NoBook : PySem.W.subIn K (.ref A_NoRule) (.ref A_NoBook) = some false) (n_NoRule_NoBook : (A_NoRule == A_NoBook) = false) (i_NoRule_NoDrawing : PySem.W.subIn K (.ref A_NoRule) (.ref A_NoDrawing) = some false) (n_NoRule_NoDrawing : (A_NoRule == A_NoDrawing) = false) (i_NoRule_NoFace : PySem.W.subIn K (.ref A_NoRule) (.ref A_NoFace) = some false) (n_NoRule_NoFace : (A_NoRule == A_NoFace) = false) (i_NoRule_NoLeaf : PySem.W.subIn K (.ref A_NoRule) (.ref A_NoLeaf) = some false) (n_NoRule_NoLeaf : (A_NoRule == A_NoLeaf) = false) (i_NoRule_NoNode : PySem.W.subIn K (.ref A_NoRule) (.ref A_NoNode) = some false) (n_NoRule_NoNode : (A_NoRule == A_NoNode) = false) (i_NoRule_NoPart : PySem.W.subIn K (.ref A_NoRule) (.ref A_NoPart) = some false) (n_NoRule_NoPart : (A_NoRule == A_NoPart) = false) (i_NoRule_NoRule : PySem.W.subIn K (.ref A_NoRule) (.ref A_NoRule) = some true) (i_NoRule_NoSheet : PySem.W.subIn K (.ref A_NoRule) (.ref A_NoSheet) = some false) (n_NoRule_NoSheet : (A_NoRule == A_NoSheet) = false) (i_NoRule_PressError : PySem.W.subIn K (.ref A_NoRule) (.ref A_PressError) = some true) (n_NoRule_PressError : (A_NoRule == A_PressError) = false) (i_NoRule_ValueError : PySem.W.subIn K (.ref A_NoRule) (.type "ValueError") = some true) :
    ∃ fd : FuncData, (∀ (s : Shared) (v : Value), BindsTo s fd ⟨[v], []⟩ [("_law_script", v)]) ∧ ∀ base : Heap, K.In base → base.Ns mainGlobals mg → FnOk l.prog w K mg base CX0 6 fa fd ["_law_script"] (spF K 1 f_law) := by
  have e := hfa.symm.trans (PySem.W.mg_of X G a13)
  cases e
  refine ⟨PySem.W.fnOf "law" "law" (defArgs (topS 35)) (defBody (topS 35)) (defScope (topS 35)) .none kV13 dc13 pm13 an13 cd13 ct13, fun s v => .of_eq rfl, fun base hb hn => ?_⟩
  obtain ⟨f', fd', h1, h2, _, _, h5⟩ := all_ok (P := l.prog) (w := w) (K := K) (mg := mg) (base := base) ⟨PySem.W.mg_none_of X G z_ValueError, PySem.W.mg_none_of X G z_isinstance, PySem.W.mg_none_of X G z_len, PySem.W.mg_none_of X G z_list, PySem.W.mg_none_of X G z_range, PySem.W.mg_none_of X G z_set, ⟨_, PySem.W.mg_of X G q_MOST_LETTERS⟩, ⟨_, PySem.W.mg_of X G q_MOST_RANK⟩, ⟨_, PySem.W.mg_of X G q_MOST_RULES⟩, ⟨_, PySem.W.mg_of X G q_SMALL⟩, ⟨_, PySem.W.mg_of X G q_GREATEST, KTp.mk l_GREATEST (Nat.le_of_ble_eq_true rfl) (.cons ⟨_, rfl⟩ (.cons ⟨_, rfl⟩ (.cons ⟨_, rfl⟩ (.cons ⟨_, rfl⟩ (.cons ⟨_, rfl⟩ (.cons ⟨_, rfl⟩ (.cons ⟨_, rfl⟩ (.cons ⟨_, rfl⟩ (.cons ⟨_, rfl⟩ (.cons ⟨_, rfl⟩ (.cons ⟨_, rfl⟩ (.cons ⟨_, rfl⟩ (.cons ⟨_, rfl⟩ .nil)))))))))))))⟩, ⟨_, PySem.W.mg_of X G q_KINDS, KTp.mk l_KINDS (Nat.le_of_ble_eq_true rfl) (.cons ⟨_, rfl⟩ (.cons ⟨_, rfl⟩ (.cons ⟨_, rfl⟩ (.cons ⟨_, rfl⟩ (.cons ⟨_, rfl⟩ (.cons ⟨_, rfl⟩ (.cons ⟨_, rfl⟩ (.cons ⟨_, rfl⟩ (.cons ⟨_, rfl⟩ .nil)))))))))⟩, ⟨_, PySem.W.mg_of X G q_LOWEST, KTp.mk l_LOWEST (Nat.le_of_ble_eq_true rfl) (.cons ⟨_, rfl⟩ (.cons ⟨_, rfl⟩ (.cons ⟨_, rfl⟩ (.cons ⟨_, rfl⟩ (.cons ⟨_, rfl⟩ (.cons ⟨_, rfl⟩ (.cons ⟨_, rfl⟩ (.cons ⟨_, rfl⟩ (.cons ⟨_, rfl⟩ (.cons ⟨_, rfl⟩ (.cons ⟨_, rfl⟩ (.cons ⟨_, rfl⟩ (.cons ⟨_, rfl⟩ .nil)))))))))))))⟩, ⟨_, PySem.W.mg_of X G q_PROPERTIES, KTp.mk l_PROPERTIES (Nat.le_of_ble_eq_true rfl) (.cons ⟨_, rfl⟩ (.cons ⟨_, rfl⟩ (.cons ⟨_, rfl⟩ (.cons ⟨_, rfl⟩ (.cons ⟨_, rfl⟩ (.cons ⟨_, rfl⟩ (.cons ⟨_, rfl⟩ (.cons ⟨_, rfl⟩ (.cons ⟨_, rfl⟩ (.cons ⟨_, rfl⟩ (.cons ⟨_, rfl⟩ (.cons ⟨_, rfl⟩ (.cons ⟨_, rfl⟩ .nil)))))))))))))⟩, adr_mg (PySem.W.mg_of X G q_NoBook), adr_mg (PySem.W.mg_of X G q_NoDrawing), adr_mg (PySem.W.mg_of X G q_NoFace), adr_mg (PySem.W.mg_of X G q_NoLeaf), adr_mg (PySem.W.mg_of X G q_NoNode), adr_mg (PySem.W.mg_of X G q_NoPart), adr_mg (PySem.W.mg_of X G q_NoRule), adr_mg (PySem.W.mg_of X G q_NoSheet), adr_mg (PySem.W.mg_of X G q_PressError), (by rw [adr_of (PySem.W.mg_of X G q_NoRule)]; exact ⟨e1_NoRule, e2_NoRule, e3_NoRule, e4_NoRule⟩), (by rw [adr_of (PySem.W.mg_of X G q_NoRule)]; exact ⟨e5_NoRule, e6_NoRule, e3_NoRule, e7_NoRule, e8_NoRule, e9_NoRule, e10_NoRule, e11_NoRule⟩), (by rw [adr_of (PySem.W.mg_of X G q_NoRule)]; exact (ClsF.mk f1_NoRule f2_NoRule f3_NoRule).exm i_NoRule_NoRule), (by rw [adr_of (PySem.W.mg_of X G q_NoRule), adr_of (PySem.W.mg_of X G q_PressError)]; exact (ClsF.mk f1_PressError f2_PressError f3_PressError).exm i_NoRule_PressError), (by rw [adr_of (PySem.W.mg_of X G q_NoRule), adr_of (PySem.W.mg_of X G q_NoBook)]; exact (ClsF.mk f1_NoBook f2_NoBook f3_NoBook).kit n_NoRule_NoBook i_NoRule_NoBook), (by rw [adr_of (PySem.W.mg_of X G q_NoRule), adr_of (PySem.W.mg_of X G q_NoDrawing)]; exact (ClsF.mk f1_NoDrawing f2_NoDrawing f3_NoDrawing).kit n_NoRule_NoDrawing i_NoRule_NoDrawing), (by rw [adr_of (PySem.W.mg_of X G q_NoRule), adr_of (PySem.W.mg_of X G q_NoFace)]; exact (ClsF.mk f1_NoFace f2_NoFace f3_NoFace).kit n_NoRule_NoFace i_NoRule_NoFace), (by rw [adr_of (PySem.W.mg_of X G q_NoRule), adr_of (PySem.W.mg_of X G q_NoLeaf)]; exact (ClsF.mk f1_NoLeaf f2_NoLeaf f3_NoLeaf).kit n_NoRule_NoLeaf i_NoRule_NoLeaf), (by rw [adr_of (PySem.W.mg_of X G q_NoRule), adr_of (PySem.W.mg_of X G q_NoNode)]; exact (ClsF.mk f1_NoNode f2_NoNode f3_NoNode).kit n_NoRule_NoNode i_NoRule_NoNode), (by rw [adr_of (PySem.W.mg_of X G q_NoRule), adr_of (PySem.W.mg_of X G q_NoPart)]; exact (ClsF.mk f1_NoPart f2_NoPart f3_NoPart).kit n_NoRule_NoPart i_NoRule_NoPart), (by rw [adr_of (PySem.W.mg_of X G q_NoRule)]; exact kit_self), (by rw [adr_of (PySem.W.mg_of X G q_NoRule), adr_of (PySem.W.mg_of X G q_NoSheet)]; exact (ClsF.mk f1_NoSheet f2_NoSheet f3_NoSheet).kit n_NoRule_NoSheet i_NoRule_NoSheet), (by rw [adr_of (PySem.W.mg_of X G q_NoRule)]; exact kit_type (by decide +kernel) i_NoRule_ValueError)⟩ ⟨_, _, fun_mk (st := topS 28) l0 c0 k0, PySem.W.mg_of X G a0⟩ ⟨_, _, fun_mk (st := topS 16) l1 c1 k1, PySem.W.mg_of X G a1⟩ ⟨_, _, fun_mk (st := topS 24) l2 c2 k2, PySem.W.mg_of X G a2⟩ ⟨_, _, fun_mk (st := topS 13) l3 c3 k3, PySem.W.mg_of X G a3⟩ ⟨_, _, fun_mk (st := topS 14) l4 c4 k4, PySem.W.mg_of X G a4⟩ ⟨_, _, fun_mk (st := topS 25) l5 c5 k5, PySem.W.mg_of X G a5⟩ ⟨_, _, fun_mk (st := topS 26) l6 c6 k6, PySem.W.mg_of X G a6⟩ ⟨_, _, fun_mk (st := topS 29) l7 c7 k7, PySem.W.mg_of X G a7⟩ ⟨_, _, fun_mk (st := topS 30) l8 c8 k8, PySem.W.mg_of X G a8⟩ ⟨_, _, fun_mk (st := topS 31) l9 c9 k9, PySem.W.mg_of X G a9⟩ ⟨_, _, fun_mk (st := topS 33) l10 c10 k10, PySem.W.mg_of X G a10⟩ ⟨_, _, fun_mk (st := topS 34) l11 c11 k11, PySem.W.mg_of X G a11⟩ ⟨_, _, fun_mk (st := topS 32) l12 c12 k12, PySem.W.mg_of X G a12⟩ ⟨_, _, fun_mk (st := topS 35) l13 c13 k13, PySem.W.mg_of X G a13⟩
  rw [PySem.W.mg_of X G a13] at h2
  cases h2
  exact fn_same h1 h5 (fun_mk (st := topS 35) l13 c13 k13)
end Bleafpress_k12_rules_refused
open PySem PySem.W PyProof.Rows in
set_option maxRecDepth 100000 in
set_option maxHeartbeats 0 in
theorem PySem.Challenge.cw_leafpress_k12_rules_refused_holds : PySem.Challenge.rw_leafpress_k12_rules_refused.Holds := by
  w_on; o_law; k_head; (case hw => w_witness2)
  k_fill
  refine L2.walk_of (l := PySem.Challenge.rw_leafpress_k12_rules_refused) (n := 63) (k := 6) (x := "_law_script") (CX := fun _ => L2.CX0) (sp := fun w => LP.spF _ 1 Bleafpress_k12_rules_refused.f_law) rfl (by decide) rfl ⟨rfl, by decide, by decide⟩ (fun w h Y => PySem.W.kIn_of Y) ?F (fun _ _ a ns hl hO hS => LP.law_of (Bleafpress_k12_rules_refused.law_true ns hl) hO hS) (fun _ _ _ _ _ h => h)
  case F =>
    intro w mg fa h KX G hmg
    refine' Bleafpress_k12_rules_refused.all_mk KX G hmg ?a0 ?l0 ?c0 ?k0 ?a1 ?l1 ?c1 ?k1 ?a2 ?l2 ?c2 ?k2 ?a3 ?l3 ?c3 ?k3 ?a4 ?l4 ?c4 ?k4 ?a5 ?l5 ?c5 ?k5 ?a6 ?l6 ?c6 ?k6 ?a7 ?l7 ?c7 ?k7 ?a8 ?l8 ?c8 ?k8 ?a9 ?l9 ?c9 ?k9 ?a10 ?l10 ?c10 ?k10 ?a11 ?l11 ?c11 ?k11 ?a12 ?l12 ?c12 ?k12 ?a13 ?l13 ?c13 ?k13 ?z_ValueError ?z_isinstance ?z_len ?z_list ?z_range ?z_set ?q_MOST_LETTERS ?q_MOST_RANK ?q_MOST_RULES ?q_SMALL ?q_GREATEST ?l_GREATEST ?q_KINDS ?l_KINDS ?q_LOWEST ?l_LOWEST ?q_PROPERTIES ?l_PROPERTIES ?q_NoBook ?q_NoDrawing ?q_NoFace ?q_NoLeaf ?q_NoNode ?q_NoPart ?q_NoRule ?q_NoSheet ?q_PressError ?e1_NoRule ?e2_NoRule ?e3_NoRule ?e4_NoRule ?e5_NoRule ?e6_NoRule ?e7_NoRule ?e8_NoRule ?e9_NoRule ?e10_NoRule ?e11_NoRule ?f1_NoBook ?f2_NoBook ?f3_NoBook ?f1_NoDrawing ?f2_NoDrawing ?f3_NoDrawing ?f1_NoFace ?f2_NoFace ?f3_NoFace ?f1_NoLeaf ?f2_NoLeaf ?f3_NoLeaf ?f1_NoNode ?f2_NoNode ?f3_NoNode ?f1_NoPart ?f2_NoPart ?f3_NoPart ?f1_NoRule ?f2_NoRule ?f3_NoRule ?f1_NoSheet ?f2_NoSheet ?f3_NoSheet ?f1_PressError ?f2_PressError ?f3_PressError ?i_NoRule_NoBook ?n_NoRule_NoBook ?i_NoRule_NoDrawing ?n_NoRule_NoDrawing ?i_NoRule_NoFace ?n_NoRule_NoFace ?i_NoRule_NoLeaf ?n_NoRule_NoLeaf ?i_NoRule_NoNode ?n_NoRule_NoNode ?i_NoRule_NoPart ?n_NoRule_NoPart ?i_NoRule_NoRule ?i_NoRule_NoSheet ?n_NoRule_NoSheet ?i_NoRule_PressError ?n_NoRule_PressError ?i_NoRule_ValueError
    (case a0 => k_is)
    (case l0 => k_is)
    (case c0 => k_is)
    (case k0 => k_is)
    (case a1 => k_is)
    (case l1 => k_is)
    (case c1 => k_is)
    (case k1 => k_is)
    (case a2 => k_is)
    (case l2 => k_is)
    (case c2 => k_is)
    (case k2 => k_is)
    (case a3 => k_is)
    (case l3 => k_is)
    (case c3 => k_is)
    (case k3 => k_is)
    (case a4 => k_is)
    (case l4 => k_is)
    (case c4 => k_is)
    (case k4 => k_is)
    (case a5 => k_is)
    (case l5 => k_is)
    (case c5 => k_is)
    (case k5 => k_is)
    (case a6 => k_is)
    (case l6 => k_is)
    (case c6 => k_is)
    (case k6 => k_is)
    (case a7 => k_is)
    (case l7 => k_is)
    (case c7 => k_is)
    (case k7 => k_is)
    (case a8 => k_is)
    (case l8 => k_is)
    (case c8 => k_is)
    (case k8 => k_is)
    (case a9 => k_is)
    (case l9 => k_is)
    (case c9 => k_is)
    (case k9 => k_is)
    (case a10 => k_is)
    (case l10 => k_is)
    (case c10 => k_is)
    (case k10 => k_is)
    (case a11 => k_is)
    (case l11 => k_is)
    (case c11 => k_is)
    (case k11 => k_is)
    (case a12 => k_is)
    (case l12 => k_is)
    (case c12 => k_is)
    (case k12 => k_is)
    (case a13 => k_is)
    (case l13 => k_is)
    (case c13 => k_is)
    (case k13 => k_is)
    (case z_ValueError => k_is)
    (case z_isinstance => k_is)
    (case z_len => k_is)
    (case z_list => k_is)
    (case z_range => k_is)
    (case z_set => k_is)
    (case q_MOST_LETTERS => k_is)
    (case q_MOST_RANK => k_is)
    (case q_MOST_RULES => k_is)
    (case q_SMALL => k_is)
    (case q_GREATEST => k_is)
    (case l_GREATEST => k_is)
    (case q_KINDS => k_is)
    (case l_KINDS => k_is)
    (case q_LOWEST => k_is)
    (case l_LOWEST => k_is)
    (case q_PROPERTIES => k_is)
    (case l_PROPERTIES => k_is)
    (case q_NoBook => k_is)
    (case q_NoDrawing => k_is)
    (case q_NoFace => k_is)
    (case q_NoLeaf => k_is)
    (case q_NoNode => k_is)
    (case q_NoPart => k_is)
    (case q_NoRule => k_is)
    (case q_NoSheet => k_is)
    (case q_PressError => k_is)
    (case e1_NoRule => first | k_is | k_exc)
    (case e2_NoRule => k_is)
    (case e3_NoRule => k_is)
    (case e4_NoRule => k_is)
    (case e5_NoRule => k_is)
    (case e6_NoRule => k_is)
    (case e7_NoRule => k_is)
    (case e8_NoRule => k_is)
    (case e9_NoRule => k_is)
    (case e10_NoRule => k_is)
    (case e11_NoRule => k_is)
    (case f1_NoBook => k_is)
    (case f2_NoBook => k_is)
    (case f3_NoBook => k_is)
    (case f1_NoDrawing => k_is)
    (case f2_NoDrawing => k_is)
    (case f3_NoDrawing => k_is)
    (case f1_NoFace => k_is)
    (case f2_NoFace => k_is)
    (case f3_NoFace => k_is)
    (case f1_NoLeaf => k_is)
    (case f2_NoLeaf => k_is)
    (case f3_NoLeaf => k_is)
    (case f1_NoNode => k_is)
    (case f2_NoNode => k_is)
    (case f3_NoNode => k_is)
    (case f1_NoPart => k_is)
    (case f2_NoPart => k_is)
    (case f3_NoPart => k_is)
    (case f1_NoRule => k_is)
    (case f2_NoRule => k_is)
    (case f3_NoRule => k_is)
    (case f1_NoSheet => k_is)
    (case f2_NoSheet => k_is)
    (case f3_NoSheet => k_is)
    (case f1_PressError => k_is)
    (case f2_PressError => k_is)
    (case f3_PressError => k_is)
    (case i_NoRule_NoBook => k_is)
    (case n_NoRule_NoBook => rfl)
    (case i_NoRule_NoDrawing => k_is)
    (case n_NoRule_NoDrawing => rfl)
    (case i_NoRule_NoFace => k_is)
    (case n_NoRule_NoFace => rfl)
    (case i_NoRule_NoLeaf => k_is)
    (case n_NoRule_NoLeaf => rfl)
    (case i_NoRule_NoNode => k_is)
    (case n_NoRule_NoNode => rfl)
    (case i_NoRule_NoPart => k_is)
    (case n_NoRule_NoPart => rfl)
    (case i_NoRule_NoRule => k_is)
    (case i_NoRule_NoSheet => k_is)
    (case n_NoRule_NoSheet => rfl)
    (case i_NoRule_PressError => k_is)
    (case n_NoRule_PressError => rfl)
    (case i_NoRule_ValueError => k_is)
#print axioms PySem.Challenge.cw_leafpress_k12_rules_refused_holds
