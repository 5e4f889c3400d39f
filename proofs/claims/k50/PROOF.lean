import PyProof.Rows.All
import Wide.All
import OpenK.AllK
import Wide.FinOn
import HandS.ForMost
import HandS.Exc
import HandS.TryOnly
import HandS.ExcOwn
import HandS.WordsExc
import HandS.Flow
import HandS.TupAny
import HandS.Deep
import HandS.Style
import HandS.IsInst
import HandS.Zip
import HandS.ForExc
import HandS.Defaults
import HandS.Head0
import HandS.Head1
import HandS.Head2
import HandS.HeadEnd
import HandS.HeadHook1
import HandS.HeadHook2
import HandS.HeadHook3
import HandS.HeadHook4
import HandS.TupLen
import HandS.SortRule
import HandS.SortInts
import HandS.Conv
import HandS.More
import KE.KDictCopyH
import PySem.Challenge.RW_circuits_k50_partings_first
set_option Elab.async false
set_option linter.all false
set_option maxRecDepth 100000
set_option maxHeartbeats 4000000
/- D-layer 1: trees of data, with marks of ownership; how they lie in the abstract heap. -/
namespace Dl
open PySem L2

/-- data as a tree; a list or dict that is marked `true` is owned by the one place that holds it -/
inductive D where
  | non
  | bl (b : Bool)
  | int (i : Int)
  | str (s : Str)
  | tup (xs : List D)
  | lst (o : Bool) (xs : List D)
  | dk (o : Bool) (ks : List Key) (vs : List D)
  | dt (o : Bool) (ks : List (List Key)) (vs : List D)
  | scr (ns : List Int)
  | dead
  deriving Inhabited

inductive Res (α : Type) where
  | ok (a : α)
  | exc (c : String)
  | bad
  deriving Inhabited

@[reducible] def Res.bind {α β : Type} : Res α → (α → Res β) → Res β
  | .ok a, f => f a
  | .exc c, _ => .exc c
  | .bad, _ => .bad
instance : Monad Res where
  pure := Res.ok
  bind := Res.bind
@[simp] theorem ok_bind {α β : Type} (a : α) (f : α → Res β) : (Res.ok a >>= f) = f a := rfl
@[simp] theorem exc_bind {α β : Type} (c : String) (f : α → Res β) : (Res.exc c >>= f) = Res.exc c := rfl
@[simp] theorem bad_bind {α β : Type} (f : α → Res β) : ((Res.bad : Res α) >>= f) = Res.bad := rfl
@[simp] theorem pure_ok {α : Type} (a : α) : (pure a : Res α) = Res.ok a := rfl
def Res.ofOpt {α : Type} : Option α → Res α
  | some a => .ok a
  | none => .bad

mutual
/-- all marks away -/
def frz : D → D
  | .tup xs => .tup (frzL xs)
  | .lst _ xs => .lst false (frzL xs)
  | .dk _ ks vs => .dk false ks (frzL vs)
  | .dt _ ks vs => .dt false ks (frzL vs)
  | .non => .non
  | .bl b => .bl b
  | .int i => .int i
  | .str s => .str s
  | .scr ns => .scr ns
  | .dead => .dead
def frzL : List D → List D
  | [] => []
  | d :: r => frz d :: frzL r
end
mutual
/-- no mark in it -/
def noOwn : D → Bool
  | .tup xs => noOwnL xs
  | .lst o xs => !o && noOwnL xs
  | .dk o _ vs => !o && noOwnL vs
  | .dt o _ vs => !o && noOwnL vs
  | _ => true
def noOwnL : List D → Bool
  | [] => true
  | d :: r => noOwn d && noOwnL r
end
mutual
/-- no list or dict in it that is not owned -/
def clo : D → Bool
  | .tup xs => cloL xs
  | .lst o xs => o && cloL xs
  | .dk o _ vs => o && cloL vs
  | .dt o _ vs => o && cloL vs
  | .dead => false
  | .scr _ => false
  | _ => true
def cloL : List D → Bool
  | [] => true
  | d :: r => clo d && cloL r
end
theorem frzL_map : ∀ xs : List D, frzL xs = xs.map frz
  | [] => rfl
  | d :: r => by show frz d :: frzL r = _; rw [frzL_map r]; rfl
theorem noOwnL_all : ∀ xs : List D, noOwnL xs = xs.all noOwn
  | [] => rfl
  | d :: r => by show (noOwn d && noOwnL r) = _; rw [noOwnL_all r]; rfl
theorem cloL_all : ∀ xs : List D, cloL xs = xs.all clo
  | [] => rfl
  | d :: r => by show (clo d && cloL r) = _; rw [cloL_all r]; rfl

mutual
theorem noOwn_frz : ∀ d : D, noOwn (frz d) = true
  | .tup xs => noOwn_frzL xs
  | .lst _ xs => noOwn_frzL xs
  | .dk _ _ vs => noOwn_frzL vs
  | .dt _ _ vs => noOwn_frzL vs
  | .non => rfl
  | .bl _ => rfl
  | .int _ => rfl
  | .str _ => rfl
  | .scr _ => rfl
  | .dead => rfl
theorem noOwn_frzL : ∀ ds : List D, noOwnL (frzL ds) = true
  | [] => rfl
  | d :: r => by
    show (noOwn (frz d) && noOwnL (frzL r)) = true
    rw [noOwn_frz d, noOwn_frzL r]; rfl
end
mutual
theorem frz_noOwn : ∀ d : D, noOwn d = true → frz d = d
  | .tup xs, h => by show D.tup (frzL xs) = _; rw [frzL_noOwn xs h]
  | .lst o xs, h => by
    cases o with
    | true => exact Bool.noConfusion h
    | false => show D.lst false (frzL xs) = _; rw [frzL_noOwn xs h]
  | .dk o ks vs, h => by
    cases o with
    | true => exact Bool.noConfusion h
    | false => show D.dk false ks (frzL vs) = _; rw [frzL_noOwn vs h]
  | .dt o ks vs, h => by
    cases o with
    | true => exact Bool.noConfusion h
    | false => show D.dt false ks (frzL vs) = _; rw [frzL_noOwn vs h]
  | .non, _ => rfl
  | .bl _, _ => rfl
  | .int _, _ => rfl
  | .str _, _ => rfl
  | .scr _, _ => rfl
  | .dead, _ => rfl
theorem frzL_noOwn : ∀ ds : List D, noOwnL ds = true → frzL ds = ds
  | [], _ => rfl
  | d :: r, h => by
    have h' : (noOwn d && noOwnL r) = true := h
    rw [Bool.and_eq_true] at h'
    show frz d :: frzL r = _
    rw [frz_noOwn d h'.1, frzL_noOwn r h'.2]
end

/-! ### how a tree lies -/
mutual
def Rp (K : PySem.W.Frag) (F H : Hp) : D → V → List Addr → Prop
  | .non, v, fp => v = .non ∧ fp = []
  | .bl b, v, fp => v = .bl b ∧ fp = []
  | .int i, v, fp => v = .int i ∧ fp = []
  | .str s, v, fp => v = .str s ∧ fp = []
  | .tup ds, v, fp => ∃ a vs, v = .ref a ∧ F a = some (.tup vs) ∧ RpL K F H ds vs fp
  | .lst false ds, v, fp => fp = [] ∧ ∃ a vs, v = .ref a ∧ Rd F a (.lst vs) ∧ RpL K F H ds vs []
  | .lst true ds, v, fp => ∃ a vs f, v = .ref a ∧ H a = some (.lst vs) ∧ fp = a :: f ∧ RpL K F H ds vs f
  | .dk false ks ds, v, fp => fp = [] ∧ ∃ a vs, v = .ref a ∧ Rd F a (.dK (ks.zip vs)) ∧ (ks.length = vs.length ∧ ks.Nodup) ∧ RpL K F H ds vs []
  | .dk true ks ds, v, fp => ∃ a vs f, v = .ref a ∧ H a = some (.dK (ks.zip vs)) ∧ (ks.length = vs.length ∧ ks.Nodup) ∧ fp = a :: f ∧ RpL K F H ds vs f
  | .dt false ks ds, v, fp => fp = [] ∧ ∃ a vs, v = .ref a ∧ Rd F a (.dT (ks.zip vs)) ∧ (ks.length = vs.length ∧ ks.Nodup) ∧ RpL K F H ds vs []
  | .dt true ks ds, v, fp => ∃ a vs f, v = .ref a ∧ H a = some (.dT (ks.zip vs)) ∧ (ks.length = vs.length ∧ ks.Nodup) ∧ fp = a :: f ∧ RpL K F H ds vs f
  | .scr ns, v, fp => fp = [] ∧ ∃ a, v = .ref a ∧ SqL K F a (ns.map V.int)
  | .dead, _, fp => fp = []
def RpL (K : PySem.W.Frag) (F H : Hp) : List D → List V → List Addr → Prop
  | [], vs, fp => vs = [] ∧ fp = []
  | d :: ds, vs, fp => ∃ v r f g, vs = v :: r ∧ fp = f ++ g ∧ Rp K F H d v f ∧ RpL K F H ds r g
end

section
variable {K : PySem.W.Frag} {F F' H H' : Hp}

theorem rd_same {F F' : Hp} (s : Same F F') {a : Addr} {u : HO} (h : Rd F a u) : Rd F' a u := by
  rcases h with h | ⟨o, h⟩
  · exact .inl (s _ _ h)
  · exact .inr ⟨o, s _ _ h⟩
mutual
theorem Rp.mono (hF : Same F F') : ∀ (d : D) (v : V) (fp : List Addr), (∀ b ∈ fp, H' b = H b) → Rp K F H d v fp → Rp K F' H' d v fp
  | .non, _, _, _, h => h
  | .bl _, _, _, _, h => h
  | .int _, _, _, _, h => h
  | .str _, _, _, _, h => h
  | .dead, _, _, _, h => h
  | .scr ns, _, _, _, h => by
    obtain ⟨e0, a, e, q⟩ := h
    exact ⟨e0, a, e, hF.seq q⟩
  | .tup ds, v, fp, hb, h => by
    obtain ⟨a, vs, e, q, r⟩ := h
    exact ⟨a, vs, e, hF _ _ q, RpL.mono hF ds vs fp hb r⟩
  | .lst false ds, v, fp, hb, h => by
    obtain ⟨e0, a, vs, e, q, r⟩ := h
    exact ⟨e0, a, vs, e, rd_same hF q, RpL.mono hF ds vs [] (fun _ z => nomatch z) r⟩
  | .lst true ds, v, fp, hb, h => by
    obtain ⟨a, vs, f, e, q, e2, r⟩ := h
    subst e2
    exact ⟨a, vs, f, e, (hb a List.mem_cons_self).trans q, rfl, RpL.mono hF ds vs f (fun b z => hb b (List.mem_cons_of_mem _ z)) r⟩
  | .dk false ks ds, v, fp, hb, h => by
    obtain ⟨e0, a, vs, e, q, l, r⟩ := h
    exact ⟨e0, a, vs, e, rd_same hF q, l, RpL.mono hF ds vs [] (fun _ z => nomatch z) r⟩
  | .dk true ks ds, v, fp, hb, h => by
    obtain ⟨a, vs, f, e, q, l, e2, r⟩ := h
    subst e2
    exact ⟨a, vs, f, e, (hb a List.mem_cons_self).trans q, l, rfl, RpL.mono hF ds vs f (fun b z => hb b (List.mem_cons_of_mem _ z)) r⟩
  | .dt false ks ds, v, fp, hb, h => by
    obtain ⟨e0, a, vs, e, q, l, r⟩ := h
    exact ⟨e0, a, vs, e, rd_same hF q, l, RpL.mono hF ds vs [] (fun _ z => nomatch z) r⟩
  | .dt true ks ds, v, fp, hb, h => by
    obtain ⟨a, vs, f, e, q, l, e2, r⟩ := h
    subst e2
    exact ⟨a, vs, f, e, (hb a List.mem_cons_self).trans q, l, rfl, RpL.mono hF ds vs f (fun b z => hb b (List.mem_cons_of_mem _ z)) r⟩
theorem RpL.mono (hF : Same F F') : ∀ (ds : List D) (vs : List V) (fp : List Addr), (∀ b ∈ fp, H' b = H b) → RpL K F H ds vs fp → RpL K F' H' ds vs fp
  | [], _, _, _, h => h
  | d :: ds, vs, fp, hb, h => by
    obtain ⟨v, r, f, g, e1, e2, h1, h2⟩ := h
    subst e2
    exact ⟨v, r, f, g, e1, rfl, Rp.mono hF d v f (fun b z => hb b (List.mem_append_left _ z)) h1, RpL.mono hF ds r g (fun b z => hb b (List.mem_append_right _ z)) h2⟩
end

mutual
/-- the cells of a tree are lists and dicts that stand -/
theorem Rp.cells : ∀ (d : D) (v : V) (fp : List Addr), Rp K F H d v fp → ∀ b ∈ fp, ∃ o, H b = some o ∧ ∀ xs, o ≠ .tup xs
  | .non, _, _, h, b, z => by rw [h.2] at z; exact nomatch z
  | .bl _, _, _, h, b, z => by rw [h.2] at z; exact nomatch z
  | .int _, _, _, h, b, z => by rw [h.2] at z; exact nomatch z
  | .str _, _, _, h, b, z => by rw [h.2] at z; exact nomatch z
  | .dead, _, _, h, b, z => by have h : _ = [] := h; rw [h] at z; exact nomatch z
  | .scr _, _, _, h, b, z => by rw [h.1] at z; exact nomatch z
  | .tup ds, v, fp, h, b, z => by
    obtain ⟨a, vs, e, q, r⟩ := h
    exact RpL.cells ds vs fp r b z
  | .lst false ds, v, fp, h, b, z => by rw [h.1] at z; exact nomatch z
  | .lst true ds, v, fp, h, b, z => by
    obtain ⟨a, vs, f, e, q, e2, r⟩ := h
    subst e2
    rcases List.mem_cons.mp z with z | z
    · exact ⟨_, by rw [z]; exact q, fun xs q => by cases q⟩
    · exact RpL.cells ds vs f r b z
  | .dk false ks ds, v, fp, h, b, z => by rw [h.1] at z; exact nomatch z
  | .dk true ks ds, v, fp, h, b, z => by
    obtain ⟨a, vs, f, e, q, l, e2, r⟩ := h
    subst e2
    rcases List.mem_cons.mp z with z | z
    · exact ⟨_, by rw [z]; exact q, fun xs q => by cases q⟩
    · exact RpL.cells ds vs f r b z
  | .dt false ks ds, v, fp, h, b, z => by rw [h.1] at z; exact nomatch z
  | .dt true ks ds, v, fp, h, b, z => by
    obtain ⟨a, vs, f, e, q, l, e2, r⟩ := h
    subst e2
    rcases List.mem_cons.mp z with z | z
    · exact ⟨_, by rw [z]; exact q, fun xs q => by cases q⟩
    · exact RpL.cells ds vs f r b z
theorem RpL.cells : ∀ (ds : List D) (vs : List V) (fp : List Addr), RpL K F H ds vs fp → ∀ b ∈ fp, ∃ o, H b = some o ∧ ∀ xs, o ≠ .tup xs
  | [], _, _, h, b, z => by rw [h.2] at z; exact nomatch z
  | d :: ds, vs, fp, h, b, z => by
    obtain ⟨v, r, f, g, e1, e2, h1, h2⟩ := h
    subst e2
    rcases List.mem_append.mp z with z | z
    · exact Rp.cells d v f h1 b z
    · exact RpL.cells ds r g h2 b z
end

mutual
theorem Rp.noOwn : ∀ (d : D) (v : V) (fp : List Addr), noOwn d = true → Rp K F H d v fp → fp = []
  | .non, _, _, _, h => h.2
  | .bl _, _, _, _, h => h.2
  | .int _, _, _, _, h => h.2
  | .str _, _, _, _, h => h.2
  | .dead, _, _, _, h => h
  | .scr _, _, _, _, h => h.1
  | .tup ds, v, fp, n, h => by
    obtain ⟨a, vs, e, q, r⟩ := h
    exact RpL.noOwn ds vs fp n r
  | .lst false ds, v, fp, n, h => h.1
  | .lst true ds, v, fp, n, h => Bool.noConfusion n
  | .dk false ks ds, v, fp, n, h => h.1
  | .dk true ks ds, v, fp, n, h => Bool.noConfusion n
  | .dt false ks ds, v, fp, n, h => h.1
  | .dt true ks ds, v, fp, n, h => Bool.noConfusion n
theorem RpL.noOwn : ∀ (ds : List D) (vs : List V) (fp : List Addr), noOwnL ds = true → RpL K F H ds vs fp → fp = []
  | [], _, _, _, h => h.2
  | d :: ds, vs, fp, n, h => by
    obtain ⟨v, r, f, g, e1, e2, h1, h2⟩ := h
    have n' : (Dl.noOwn d && noOwnL ds) = true := n
    rw [Bool.and_eq_true] at n'
    rw [e2, Rp.noOwn d v f n'.1 h1, RpL.noOwn ds r g n'.2 h2]
    rfl
end
/-- without cells the heap does not matter -/
theorem Rp.any {d : D} {v : V} (h : Rp K F H d v []) : Rp K F H' d v [] := Rp.mono (Same.refl F) d v [] (fun _ z => nomatch z) h
theorem RpL.any {ds : List D} {vs : List V} (h : RpL K F H ds vs []) : RpL K F H' ds vs [] := RpL.mono (Same.refl F) ds vs [] (fun _ z => nomatch z) h

/-- cells taken into the frozen part -/
def addF (F H : Hp) (l : List Addr) : Hp := fun b => if b ∈ l then H b else F b
theorem addF_in {l : List Addr} {b : Addr} (h : b ∈ l) : addF F H l b = H b := if_pos h
theorem addF_out {l : List Addr} {b : Addr} (h : b ∉ l) : addF F H l b = F b := if_neg h
theorem addF_same {l : List Addr} (s : Same F H) : Same F (addF F H l) := fun b o e => by
  by_cases h : b ∈ l
  · rw [addF_in h]; exact s b o e
  · rw [addF_out h]; exact e
theorem addF_sub {l : List Addr} (s : Same F H) : Same (addF F H l) H := fun b o e => by
  by_cases h : b ∈ l
  · rw [addF_in h] at e; exact e
  · rw [addF_out h] at e; exact s b o e

mutual
theorem Rp.freeze {l : List Addr} (s : Same F H) : ∀ (d : D) (v : V) (fp : List Addr), (∀ b ∈ fp, b ∈ l) → Rp K F H d v fp → Rp K (addF F H l) H (frz d) v []
  | .non, _, _, _, h => ⟨h.1, rfl⟩
  | .bl _, _, _, _, h => ⟨h.1, rfl⟩
  | .int _, _, _, _, h => ⟨h.1, rfl⟩
  | .str _, _, _, _, h => ⟨h.1, rfl⟩
  | .dead, _, _, _, h => rfl
  | .scr ns, _, _, _, h => by
    obtain ⟨e0, a, e, q⟩ := h
    exact ⟨rfl, a, e, (addF_same s).seq q⟩
  | .tup ds, v, fp, hb, h => by
    obtain ⟨a, vs, e, q, r⟩ := h
    exact ⟨a, vs, e, addF_same s _ _ q, RpL.freeze s ds vs fp hb r⟩
  | .lst false ds, v, fp, hb, h => by
    obtain ⟨e0, a, vs, e, q, r⟩ := h
    exact ⟨rfl, a, vs, e, rd_same (addF_same s) q, RpL.freeze s ds vs [] (fun _ z => nomatch z) r⟩
  | .lst true ds, v, fp, hb, h => by
    obtain ⟨a, vs, f, e, q, e2, r⟩ := h
    subst e2
    exact ⟨rfl, a, vs, e, .inl ((addF_in (hb a List.mem_cons_self)).trans q), RpL.freeze s ds vs f (fun b z => hb b (List.mem_cons_of_mem _ z)) r⟩
  | .dk false ks ds, v, fp, hb, h => by
    obtain ⟨e0, a, vs, e, q, n, r⟩ := h
    exact ⟨rfl, a, vs, e, rd_same (addF_same s) q, n, RpL.freeze s ds vs [] (fun _ z => nomatch z) r⟩
  | .dk true ks ds, v, fp, hb, h => by
    obtain ⟨a, vs, f, e, q, n, e2, r⟩ := h
    subst e2
    exact ⟨rfl, a, vs, e, .inl ((addF_in (hb a List.mem_cons_self)).trans q), n, RpL.freeze s ds vs f (fun b z => hb b (List.mem_cons_of_mem _ z)) r⟩
  | .dt false ks ds, v, fp, hb, h => by
    obtain ⟨e0, a, vs, e, q, n, r⟩ := h
    exact ⟨rfl, a, vs, e, rd_same (addF_same s) q, n, RpL.freeze s ds vs [] (fun _ z => nomatch z) r⟩
  | .dt true ks ds, v, fp, hb, h => by
    obtain ⟨a, vs, f, e, q, n, e2, r⟩ := h
    subst e2
    exact ⟨rfl, a, vs, e, .inl ((addF_in (hb a List.mem_cons_self)).trans q), n, RpL.freeze s ds vs f (fun b z => hb b (List.mem_cons_of_mem _ z)) r⟩
theorem RpL.freeze {l : List Addr} (s : Same F H) : ∀ (ds : List D) (vs : List V) (fp : List Addr), (∀ b ∈ fp, b ∈ l) → RpL K F H ds vs fp → RpL K (addF F H l) H (frzL ds) vs []
  | [], _, _, _, h => ⟨h.1, rfl⟩
  | d :: ds, vs, fp, hb, h => by
    obtain ⟨v, r, f, g, e1, e2, h1, h2⟩ := h
    subst e2
    exact ⟨v, r, [], [], e1, rfl, Rp.freeze s d v f (fun b z => hb b (List.mem_append_left _ z)) h1, RpL.freeze s ds r g (fun b z => hb b (List.mem_append_right _ z)) h2⟩
end

/-- cells taken out of the frozen part -/
def delF (F : Hp) (l : List Addr) : Hp := fun b => if b ∈ l then none else F b
theorem delF_in {l : List Addr} {b : Addr} (h : b ∈ l) : delF F l b = none := if_pos h
theorem delF_out {l : List Addr} {b : Addr} (h : b ∉ l) : delF F l b = F b := if_neg h
theorem delF_sub {l : List Addr} : Same (delF F l) F := fun b o e => by
  by_cases h : b ∈ l
  · rw [delF_in h] at e; cases e
  · rw [delF_out h] at e; exact e

mutual
theorem Rp.thaw {l : List Addr} (hl : ∀ b ∈ l, ∀ xs, F b ≠ some (.tup xs)) : ∀ (d : D) (v : V) (fp : List Addr), clo d = true → Rp K F H d v fp → Rp K (delF F l) H d v fp
  | .non, _, _, _, h => h
  | .bl _, _, _, _, h => h
  | .int _, _, _, _, h => h
  | .str _, _, _, _, h => h
  | .dead, _, _, c, h => Bool.noConfusion c
  | .scr _, _, _, c, h => Bool.noConfusion c
  | .tup ds, v, fp, c, h => by
    obtain ⟨a, vs, e, q, r⟩ := h
    refine ⟨a, vs, e, ?_, RpL.thaw hl ds vs fp c r⟩
    rw [delF_out fun z => hl a z vs q]; exact q
  | .lst false ds, v, fp, c, h => Bool.noConfusion c
  | .lst true ds, v, fp, c, h => by
    obtain ⟨a, vs, f, e, q, e2, r⟩ := h
    exact ⟨a, vs, f, e, q, e2, RpL.thaw hl ds vs f c r⟩
  | .dk false ks ds, v, fp, c, h => Bool.noConfusion c
  | .dk true ks ds, v, fp, c, h => by
    obtain ⟨a, vs, f, e, q, n, e2, r⟩ := h
    exact ⟨a, vs, f, e, q, n, e2, RpL.thaw hl ds vs f c r⟩
  | .dt false ks ds, v, fp, c, h => Bool.noConfusion c
  | .dt true ks ds, v, fp, c, h => by
    obtain ⟨a, vs, f, e, q, n, e2, r⟩ := h
    exact ⟨a, vs, f, e, q, n, e2, RpL.thaw hl ds vs f c r⟩
theorem RpL.thaw {l : List Addr} (hl : ∀ b ∈ l, ∀ xs, F b ≠ some (.tup xs)) : ∀ (ds : List D) (vs : List V) (fp : List Addr), cloL ds = true → RpL K F H ds vs fp → RpL K (delF F l) H ds vs fp
  | [], _, _, _, h => h
  | d :: ds, vs, fp, c, h => by
    obtain ⟨v, r, f, g, e1, e2, h1, h2⟩ := h
    have c' : (clo d && cloL ds) = true := c
    rw [Bool.and_eq_true] at c'
    exact ⟨v, r, f, g, e1, e2, Rp.thaw hl d v f c'.1 h1, RpL.thaw hl ds r g c'.2 h2⟩
end

theorem RpL.length : ∀ {ds : List D} {vs : List V} {fp : List Addr}, RpL K F H ds vs fp → ds.length = vs.length
  | [], _, _, h => by rw [h.1]; rfl
  | d :: ds, vs, fp, h => by
    obtain ⟨v, r, f, g, e1, e2, h1, h2⟩ := h
    rw [e1, List.length_cons, List.length_cons, RpL.length h2]
theorem RpL.append : ∀ {ds es : List D} {vs ws : List V} {f g : List Addr}, RpL K F H ds vs f → RpL K F H es ws g → RpL K F H (ds ++ es) (vs ++ ws) (f ++ g)
  | [], es, vs, ws, f, g, h, q => by
    obtain ⟨rfl, rfl⟩ := h
    exact q
  | d :: ds, es, vs, ws, f, g, h, q => by
    obtain ⟨v, r, f1, g1, rfl, rfl, h1, h2⟩ := h
    exact ⟨v, r ++ ws, f1, g1 ++ g, rfl, by rw [List.append_assoc], h1, RpL.append h2 q⟩
theorem RpL.one {d : D} {v : V} {f : List Addr} (h : Rp K F H d v f) : RpL K F H [d] [v] f := ⟨v, [], f, [], rfl, (List.append_nil f).symm, h, rfl, rfl⟩
/-- the k-th, with what may be put in its place -/
theorem RpL.at : ∀ {ds : List D} {vs : List V} {fp : List Addr} {k : Nat} {d : D}, RpL K F H ds vs fp → ds[k]? = some d → ∃ v f c1 c2, vs[k]? = some v ∧ fp = c1 ++ (f ++ c2) ∧ Rp K F H d v f ∧
    ∀ (F' H' : Hp) (d' : D) (v' : V) (f' : List Addr), Same F F' → (∀ b, b ∈ c1 ∨ b ∈ c2 → H' b = H b) → Rp K F' H' d' v' f' → RpL K F' H' (ds.set k d') (vs.set k v') (c1 ++ (f' ++ c2))
  | [], _, _, _, _, _, e => by rw [List.getElem?_nil] at e; cases e
  | d0 :: ds, vs, fp, 0, d, h, e => by
    obtain ⟨v, r, f, g, e1, e2, h1, h2⟩ := h
    have e : d0 = d := by simpa using e
    subst e e1
    refine ⟨v, f, [], g, rfl, e2, h1, fun F' H' d' v' f' s hb h' => ?_⟩
    exact ⟨v', r, f', g, rfl, rfl, h', RpL.mono s ds r g (fun b z => hb b (.inr z)) h2⟩
  | d0 :: ds, vs, fp, k + 1, d, h, e => by
    obtain ⟨v, r, f, g, e1, e2, h1, h2⟩ := h
    obtain ⟨w, f2, c1, c2, x1, x2, x3, x4⟩ := RpL.at (k := k) (d := d) h2 (by simpa using e)
    subst e1 e2
    refine ⟨w, f2, f ++ c1, c2, by simpa using x1, by rw [x2, List.append_assoc], x3, fun F' H' d' v' f' s hb h' => ?_⟩
    rw [List.append_assoc]
    exact ⟨v, r.set k v', f, c1 ++ (f' ++ c2), rfl, rfl, Rp.mono s d0 v f (fun b z => hb b (.inl (List.mem_append_left _ z))) h1,
      x4 F' H' d' v' f' s (fun b z => hb b (z.elim (fun y => .inl (List.mem_append_right _ y)) .inr)) h'⟩
theorem RpL.get {ds : List D} {vs : List V} {fp : List Addr} {k : Nat} {d : D} (h : RpL K F H ds vs fp) (e : ds[k]? = some d) : ∃ v f, vs[k]? = some v ∧ (∀ b ∈ f, b ∈ fp) ∧ Rp K F H d v f := by
  obtain ⟨v, f, c1, c2, h1, h2, h3, _⟩ := RpL.at h e
  exact ⟨v, f, h1, fun b z => by rw [h2]; exact List.mem_append_right _ (List.mem_append_left _ z), h3⟩
theorem RpL.getV {ds : List D} {vs : List V} {fp : List Addr} {k : Nat} {v : V} (h : RpL K F H ds vs fp) (e : vs[k]? = some v) : ∃ d, ds[k]? = some d := by
  have hk : k < vs.length := (List.getElem?_eq_some_iff.mp e).1
  rw [← h.length] at hk
  exact ⟨ds[k], List.getElem?_eq_getElem hk⟩
end
end Dl
set_option Elab.async false
set_option linter.all false
set_option maxRecDepth 100000
set_option maxHeartbeats 4000000
/- D-layer 2: the state of a body (slots as trees), the judgements. -/
namespace Dl
open PySem L2

/-! ### the heap in two parts -/
/-- something that is no tuple stands there -/
def Cl (H : Hp) (b : Addr) : Prop := ∃ o, H b = some o ∧ ∀ xs, o ≠ .tup xs
/-- a tuple stands there -/
def Tp (H : Hp) (b : Addr) : Prop := ∃ xs, H b = some (.tup xs)
/-- F: what is frozen; L: the cells that are owned now. F0, H0: at the def's entry -/
structure Wd (F0 H0 F H : Hp) (L : List Addr) : Prop where
  sub : Same F H
  ent : Same H0 H
  bas : Same F0 F
  frs : ∀ b, F b ≠ none → F0 b ≠ none ∨ H0 b = none ∨ Tp H0 b
  nod : L.Nodup
  own : ∀ b ∈ L, F b = none ∧ H0 b = none ∧ Cl H b
/-- only new things have come -/
structure Ex (F H F' H' : Hp) : Prop where
  f : Same F F'
  h : Same H H'
  sub : Same F' H'
  new : ∀ b, F' b ≠ none → F b ≠ none ∨ H b = none ∨ Tp H b
/-- cells that are new -/
def Fr (F' H : Hp) (fp : List Addr) : Prop := fp.Nodup ∧ ∀ b ∈ fp, F' b = none ∧ H b = none

section
variable {F0 H0 F H F' H' F2 H2 : Hp} {L : List Addr}
theorem Cl.ne {H : Hp} {b : Addr} (h : Cl H b) : H b ≠ none := by
  obtain ⟨o, e, _⟩ := h
  rw [e]; exact Option.some_ne_none _
theorem Cl.tp {H : Hp} {b : Addr} (h : Cl H b) : ¬ Tp H b := by
  rintro ⟨xs, e⟩
  obtain ⟨o, e2, n⟩ := h
  rw [e] at e2; cases e2
  exact n xs rfl
theorem Tp.back {H H' : Hp} {b : Addr} (s : Same H H') (t : Tp H' b) : H b = none ∨ Tp H b := by
  obtain ⟨xs, e⟩ := t
  cases q : H b with
  | none => exact .inl rfl
  | some o =>
    have := s b o q
    rw [e] at this; cases this
    exact .inr ⟨xs, q⟩
theorem Cl.upd {H : Hp} {a b : Addr} {o : HO} (h : Cl H b) (ho : ∀ xs, o ≠ .tup xs) : Cl (upd H a o) b := by
  by_cases e : b = a
  · exact ⟨o, by rw [e, upd_same], ho⟩
  · obtain ⟨u, q, n⟩ := h
    exact ⟨u, by rw [upd_ne e]; exact q, n⟩
theorem none_or {H : Hp} {b : Addr} {P : Prop} (h : H b ≠ none → P) : H b = none ∨ P := by
  by_cases e : H b = none
  · exact .inl e
  · exact .inr (h e)
theorem Ex.refl (s : Same F H) : Ex F H F H := ⟨Same.refl F, Same.refl H, s, fun _ z => .inl z⟩
theorem Ex.trans (a : Ex F H F' H') (b : Ex F' H' F2 H2) : Ex F H F2 H2 := ⟨a.f.trans b.f, a.h.trans b.h, b.sub, fun c z => by
  rcases b.new c z with q | q | q
  · exact a.new c q
  · exact .inr (.inl (a.h.free q))
  · exact .inr (q.back a.h)⟩
theorem Ex.not {b : Addr} (x : Ex F H F' H') (h1 : F b = none) (h2 : Cl H b) : F' b = none := by
  cases e : F' b with
  | none => rfl
  | some o =>
    rcases x.new b (by rw [e]; exact Option.some_ne_none _) with q | q | q
    · exact absurd h1 q
    · exact absurd q h2.ne
    · exact absurd q h2.tp
theorem Ex.keep {b : Addr} (x : Ex F H F' H') (h2 : Cl H b) : H' b = H b := by
  cases e : H b with
  | none => exact absurd e h2.ne
  | some o => exact x.h b o e
theorem Ex.cl {b : Addr} (x : Ex F H F' H') (h2 : Cl H b) : Cl H' b := by
  obtain ⟨o, e, n⟩ := h2
  exact ⟨o, x.h b o e, n⟩
theorem Wd.ext (w : Wd F0 H0 F H L) (x : Ex F H F' H') : Wd F0 H0 F' H' L := ⟨x.sub, w.ent.trans x.h, w.bas.trans x.f, fun b z => by
    rcases x.new b z with q | q | q
    · exact w.frs b q
    · exact .inr (.inl (w.ent.free q))
    · exact .inr (q.back w.ent), w.nod, fun b hb => ⟨x.not (w.own b hb).1 (w.own b hb).2.2, (w.own b hb).2.1, x.cl (w.own b hb).2.2⟩⟩
theorem Wd.add {fp : List Addr} (w : Wd F0 H0 F H L) (x : Ex F H F' H') (h : Fr F' H fp) (st : ∀ b ∈ fp, Cl H' b) : Wd F0 H0 F' H' (fp ++ L) :=
  ⟨x.sub, w.ent.trans x.h, w.bas.trans x.f, (w.ext x).frs, List.nodup_append.mpr ⟨h.1, w.nod, fun a ha b hb e => (w.own b hb).2.2.ne (e ▸ (h.2 a ha).2)⟩, fun b hb => by
    rcases List.mem_append.mp hb with z | z
    · exact ⟨(h.2 b z).1, w.ent.free (h.2 b z).2, st b z⟩
    · exact (w.ext x).own b z⟩
theorem Wd.perm {M : List Addr} (w : Wd F0 H0 F H L) (p : M.Perm L) : Wd F0 H0 F H M :=
  ⟨w.sub, w.ent, w.bas, w.frs, p.nodup_iff.mpr w.nod, fun b hb => w.own b (p.mem_iff.mp hb)⟩
theorem Wd.less {M : List Addr} (w : Wd F0 H0 F H L) (p : M.Sublist L) : Wd F0 H0 F H M :=
  ⟨w.sub, w.ent, w.bas, w.frs, w.nod.sublist p, fun b hb => w.own b (p.mem hb)⟩
/-- a cell is written -/
theorem Wd.put {a : Addr} {o : HO} (w : Wd F0 H0 F H L) (h : a ∈ L) (ho : ∀ xs, o ≠ .tup xs) : Wd F0 H0 F (upd H a o) L := by
  obtain ⟨h1, h2, h3⟩ := w.own a h
  have na : ∀ {G : Hp} {b : Addr} {u : HO}, G a = none → G b = some u → b ≠ a := fun g q z => by rw [z, g] at q; cases q
  refine ⟨fun b u e => ?_, fun b u e => ?_, w.bas, w.frs, w.nod, fun b hb => ⟨(w.own b hb).1, (w.own b hb).2.1, ?_⟩⟩
  · rw [upd_ne (na h1 e)]; exact w.sub b u e
  · rw [upd_ne (na h2 e)]; exact w.ent b u e
  · exact (w.own b hb).2.2.upd ho
/-- a cell is frozen -/
theorem Wd.frz {M N : List Addr} (w : Wd F0 H0 F H (M ++ N)) : Wd F0 H0 (addF F H M) H N := by
  refine ⟨addF_sub w.sub, w.ent, w.bas.trans (addF_same w.sub), fun b z => ?_, (List.nodup_append.mp w.nod).2.1, fun b hb => ?_⟩
  · by_cases hb : b ∈ M
    · exact .inr (.inl (w.own b (List.mem_append_left _ hb)).2.1)
    · rw [addF_out hb] at z; exact w.frs b z
  · have hn : b ∉ M := fun z => (List.nodup_append.mp w.nod).2.2 b z b hb rfl
    rw [addF_out hn]
    exact w.own b (List.mem_append_right _ hb)
end

/-! ### slots -/
inductive SL where
  | none
  | val (d : D)
  deriving Inhabited
abbrev Ev := List SL

def Sl (K : PySem.W.Frag) (F H : Hp) : SL → Option V → List Addr → Prop
  | .none, _, fp => fp = []
  | .val d, o, fp => ∃ v, o = some v ∧ Rp K F H d v fp
def EnR (K : PySem.W.Frag) (F H : Hp) : Ev → St → List Addr → Prop
  | [], σ, cs => σ = [] ∧ cs = []
  | s :: ρ, σ, cs => ∃ o r f g, σ = o :: r ∧ cs = f ++ g ∧ Sl K F H s o f ∧ EnR K F H ρ r g
section
variable {K : PySem.W.Frag} {F F' H H' : Hp}
theorem Sl.mono (hF : Same F F') {s : SL} {o : Option V} {fp : List Addr} (hb : ∀ b ∈ fp, H' b = H b) (h : Sl K F H s o fp) : Sl K F' H' s o fp := by
  cases s with
  | none => exact h
  | val d => obtain ⟨v, e, r⟩ := h; exact ⟨v, e, r.mono hF d v fp hb⟩
theorem Sl.cells {s : SL} {o : Option V} {fp : List Addr} (h : Sl K F H s o fp) : ∀ b ∈ fp, ∃ u, H b = some u ∧ ∀ xs, u ≠ .tup xs := by
  cases s with
  | none => intro b z; have h : fp = [] := h; rw [h] at z; exact nomatch z
  | val d => obtain ⟨v, e, r⟩ := h; exact r.cells d v fp
theorem EnR.mono (hF : Same F F') : ∀ {ρ : Ev} {σ : St} {cs : List Addr}, (∀ b ∈ cs, H' b = H b) → EnR K F H ρ σ cs → EnR K F' H' ρ σ cs
  | [], _, _, _, h => h
  | s :: ρ, σ, cs, hb, h => by
    obtain ⟨o, r, f, g, e1, e2, h1, h2⟩ := h
    subst e2
    exact ⟨o, r, f, g, e1, rfl, h1.mono hF (fun b z => hb b (List.mem_append_left _ z)), EnR.mono hF (fun b z => hb b (List.mem_append_right _ z)) h2⟩
theorem EnR.cells : ∀ {ρ : Ev} {σ : St} {cs : List Addr}, EnR K F H ρ σ cs → ∀ b ∈ cs, ∃ u, H b = some u ∧ ∀ xs, u ≠ .tup xs
  | [], _, _, h, b, z => by rw [h.2] at z; exact nomatch z
  | s :: ρ, σ, cs, h, b, z => by
    obtain ⟨o, r, f, g, e1, e2, h1, h2⟩ := h
    subst e2
    rcases List.mem_append.mp z with z | z
    · exact h1.cells b z
    · exact EnR.cells h2 b z
theorem EnR.length : ∀ {ρ : Ev} {σ : St} {cs : List Addr}, EnR K F H ρ σ cs → ρ.length = σ.length
  | [], _, _, h => by rw [h.1]; rfl
  | s :: ρ, σ, cs, h => by
    obtain ⟨o, r, f, g, e1, e2, h1, h2⟩ := h
    rw [e1, List.length_cons, List.length_cons, EnR.length h2]
/-- the k-th slot, with what may be put in its place -/
theorem EnR.at : ∀ {ρ : Ev} {σ : St} {cs : List Addr} {k : Nat} {s : SL}, EnR K F H ρ σ cs → ρ[k]? = some s → ∃ o f c1 c2, σ[k]? = some o ∧ cs = c1 ++ (f ++ c2) ∧ Sl K F H s o f ∧
    ∀ (F' H' : Hp) (s' : SL) (o' : Option V) (f' : List Addr), Same F F' → (∀ b, b ∈ c1 ∨ b ∈ c2 → H' b = H b) → Sl K F' H' s' o' f' → EnR K F' H' (ρ.set k s') (σ.set k o') (c1 ++ (f' ++ c2))
  | [], _, _, _, _, _, e => by rw [List.getElem?_nil] at e; cases e
  | d0 :: ds, vs, fp, 0, d, h, e => by
    obtain ⟨v, r, f, g, e1, e2, h1, h2⟩ := h
    have e : d0 = d := by simpa using e
    subst e e1
    refine ⟨v, f, [], g, rfl, e2, h1, fun F' H' d' v' f' s hb h' => ?_⟩
    exact ⟨v', r, f', g, rfl, rfl, h', EnR.mono s (fun b z => hb b (.inr z)) h2⟩
  | d0 :: ds, vs, fp, k + 1, d, h, e => by
    obtain ⟨v, r, f, g, e1, e2, h1, h2⟩ := h
    obtain ⟨w, f2, c1, c2, x1, x2, x3, x4⟩ := EnR.at (k := k) (s := d) h2 (by simpa using e)
    subst e1 e2
    refine ⟨w, f2, f ++ c1, c2, by simpa using x1, by rw [x2, List.append_assoc], x3, fun F' H' d' v' f' s hb h' => ?_⟩
    rw [List.append_assoc]
    exact ⟨v, r.set k v', f, c1 ++ (f' ++ c2), rfl, rfl, h1.mono s (fun b z => hb b (.inl (List.mem_append_left _ z))),
      x4 F' H' d' v' f' s (fun b z => hb b (z.elim (fun y => .inl (List.mem_append_right _ y)) .inr)) h'⟩
end

/-- the state of a body; fr: cells of what is being made -/
def En (K : PySem.W.Frag) (F0 H0 F H : Hp) (σ : St) (ρ : Ev) (fr : List Addr) : Prop := ∃ cs, Wd F0 H0 F H (fr ++ cs) ∧ EnR K F H ρ σ cs
section
variable {K : PySem.W.Frag} {F0 H0 F H F' H' : Hp} {σ : St} {ρ : Ev} {fr fp : List Addr}
theorem En.sub (e : En K F0 H0 F H σ ρ fr) : Same F H := let ⟨_, w, _⟩ := e; w.sub
theorem En.ent (e : En K F0 H0 F H σ ρ fr) : Same H0 H := let ⟨_, w, _⟩ := e; w.ent
theorem En.ext (e : En K F0 H0 F H σ ρ fr) (x : Ex F H F' H') : En K F0 H0 F' H' σ ρ fr := by
  obtain ⟨cs, w, r⟩ := e
  exact ⟨cs, w.ext x, r.mono x.f fun b hb => x.keep (w.own b (List.mem_append_right _ hb)).2.2⟩
theorem En.add (e : En K F0 H0 F H σ ρ fr) (x : Ex F H F' H') (h : Fr F' H fp) (st : ∀ b ∈ fp, Cl H' b) : En K F0 H0 F' H' σ ρ (fp ++ fr) := by
  obtain ⟨cs, w, r⟩ := e
  exact ⟨cs, by rw [List.append_assoc]; exact w.add x h st, r.mono x.f fun b hb => x.keep (w.own b (List.mem_append_right _ hb)).2.2⟩
theorem En.less (e : En K F0 H0 F H σ ρ fr) (p : fp.Sublist fr) : En K F0 H0 F H σ ρ fp := by
  obtain ⟨cs, w, r⟩ := e
  exact ⟨cs, w.less (p.append_right cs), r⟩
end

/-! ### what an expression gives: a value, or a place in a slot's tree -/
inductive RV where
  | val (d : D)
  | lv (j : Nat) (p : List Nat)
  deriving Inhabited

/-- what stands at a place of a tree -/
def getP : D → List Nat → Option D
  | d, [] => some d
  | .tup xs, k :: p => (xs[k]?).bind fun d => getP d p
  | .lst _ xs, k :: p => (xs[k]?).bind fun d => getP d p
  | .dk _ _ xs, k :: p => (xs[k]?).bind fun d => getP d p
  | .dt _ _ xs, k :: p => (xs[k]?).bind fun d => getP d p
  | _, _ :: _ => none
/-- something else put there -/
def setP : D → List Nat → D → D
  | _, [], e => e
  | .tup xs, k :: p, e => .tup (xs.set k (setP (xs.getD k .dead) p e))
  | .lst o xs, k :: p, e => .lst o (xs.set k (setP (xs.getD k .dead) p e))
  | .dk o ks xs, k :: p, e => .dk o ks (xs.set k (setP (xs.getD k .dead) p e))
  | .dt o ks xs, k :: p, e => .dt o ks (xs.set k (setP (xs.getD k .dead) p e))
  | d, _ :: _, _ => d
/-- the value at a place, by the heap -/
def walk (H : Hp) : V → List Nat → Option V
  | v, [] => some v
  | .ref a, k :: p => match H a with
    | some (.tup vs) => (vs[k]?).bind fun v => walk H v p
    | some (.lst vs) => (vs[k]?).bind fun v => walk H v p
    | some (.dK kvs) => (kvs[k]?).bind fun v => walk H v.2 p
    | some (.dT kvs) => (kvs[k]?).bind fun v => walk H v.2 p
    | _ => none
  | _, _ :: _ => none

theorem zip_get {α β : Type} : ∀ {ks : List α} {vs : List β} {k : Nat} {v : β}, ks.length = vs.length → vs[k]? = some v → ∃ x, (ks.zip vs)[k]? = some (x, v) ∧ ks[k]? = some x
  | [], vs, k, v, l, e => by
    have : vs = [] := List.eq_nil_of_length_eq_zero l.symm
    rw [this, List.getElem?_nil] at e; cases e
  | x :: ks, [], k, v, l, e => by rw [List.getElem?_nil] at e; cases e
  | x :: ks, w :: vs, 0, v, l, e => by
    have e : w = v := by simpa using e
    subst e
    exact ⟨x, rfl, rfl⟩
  | x :: ks, w :: vs, k + 1, v, l, e => by
    obtain ⟨y, h1, h2⟩ := zip_get (ks := ks) (vs := vs) (k := k) (by simpa using l) (by simpa using e)
    exact ⟨y, by simpa using h1, by simpa using h2⟩
theorem zip_set {α β : Type} : ∀ {ks : List α} {vs : List β} {k : Nat} {v : β} {x : α}, ks[k]? = some x → (ks.zip vs).set k (x, v) = ks.zip (vs.set k v)
  | [], vs, k, v, x, e => by rw [List.getElem?_nil] at e; cases e
  | y :: ks, [], k, v, x, e => by simp
  | y :: ks, w :: vs, 0, v, x, e => by
    have e : y = x := by simpa using e
    subst e
    rfl
  | y :: ks, w :: vs, k + 1, v, x, e => by
    show (y, w) :: (ks.zip vs).set k (x, v) = (y, w) :: ks.zip (vs.set k v)
    rw [zip_set (by simpa using e)]
theorem set_id {α : Type} : ∀ {l : List α} {k : Nat} {v : α}, l[k]? = some v → l.set k v = l
  | [], _, _, e => by rw [List.getElem?_nil] at e; cases e
  | x :: r, 0, v, e => by
    have e : x = v := by simpa using e
    rw [e]; rfl
  | x :: r, k + 1, v, e => by
    show x :: r.set k v = x :: r
    rw [set_id (by simpa using e)]
section
variable {K : PySem.W.Frag} {F F' H H' : Hp}
mutual
theorem sealed1 : ∀ (d : D) (v : V), Rp K F H d v [] → noOwn d = true
  | .non, _, _ => rfl
  | .bl _, _, _ => rfl
  | .int _, _, _ => rfl
  | .str _, _, _ => rfl
  | .dead, _, _ => rfl
  | .scr _, _, _ => rfl
  | .tup ds, v, h => by
    obtain ⟨a, vs, e, q, r⟩ := h
    exact sealedL ds vs r
  | .lst false ds, v, h => by
    obtain ⟨_, a, vs, e, q, r⟩ := h
    exact sealedL ds vs r
  | .lst true ds, v, h => by
    obtain ⟨a, vs, f, e, q, e2, r⟩ := h
    cases e2
  | .dk false ks ds, v, h => by
    obtain ⟨_, a, vs, e, q, l, r⟩ := h
    exact sealedL ds vs r
  | .dk true ks ds, v, h => by
    obtain ⟨a, vs, f, e, q, l, e2, r⟩ := h
    cases e2
  | .dt false ks ds, v, h => by
    obtain ⟨_, a, vs, e, q, l, r⟩ := h
    exact sealedL ds vs r
  | .dt true ks ds, v, h => by
    obtain ⟨a, vs, f, e, q, l, e2, r⟩ := h
    cases e2
theorem sealedL : ∀ (ds : List D) (vs : List V), RpL K F H ds vs [] → noOwnL ds = true
  | [], _, _ => rfl
  | d :: ds, vs, h => by
    obtain ⟨v, r, f, g, e1, e2, h1, h2⟩ := h
    obtain ⟨e3, e4⟩ := List.append_eq_nil_iff.mp e2.symm
    subst e3 e4
    show (noOwn d && noOwnL ds) = true
    rw [sealed1 d v h1, sealedL ds r h2]; rfl
end
theorem sealed_of {ds : List D} {vs : List V} {k : Nat} {d : D} (h : RpL K F H ds vs []) (e : ds[k]? = some d) : noOwn d = true := by
  have q := sealedL ds vs h
  rw [noOwnL_all] at q
  exact List.all_eq_true.mp q d (List.mem_of_getElem? e)
theorem noOwn_at {ds : List D} {k : Nat} {d : D} (h : noOwnL ds = true) (e : ds[k]? = some d) : noOwn d = true := by
  rw [noOwnL_all] at h
  exact List.all_eq_true.mp h d (List.mem_of_getElem? e)
theorem sealed_get : ∀ (p : List Nat) (d d' : D), getP d p = some d' → noOwn d = true → noOwn d' = true
  | [], d, d', e, n => by
    have e : d = d' := Option.some.inj e
    rw [← e]; exact n
  | k :: p, .non, d', e, n => by cases e
  | k :: p, .bl _, d', e, n => by cases e
  | k :: p, .int _, d', e, n => by cases e
  | k :: p, .str _, d', e, n => by cases e
  | k :: p, .dead, d', e, n => by cases e
  | k :: p, .scr _, d', e, n => by cases e
  | k :: p, .tup ds, d', e, n => by
    cases ek : ds[k]? with
    | none => rw [getP, ek] at e; cases e
    | some dk => rw [getP, ek] at e; exact sealed_get p dk d' e (noOwn_at n ek)
  | k :: p, .lst o ds, d', e, n => by
    have n : (!o && noOwnL ds) = true := n
    rw [Bool.and_eq_true] at n
    cases ek : ds[k]? with
    | none => rw [getP, ek] at e; cases e
    | some dk => rw [getP, ek] at e; exact sealed_get p dk d' e (noOwn_at n.2 ek)
  | k :: p, .dk o ks ds, d', e, n => by
    have n : (!o && noOwnL ds) = true := n
    rw [Bool.and_eq_true] at n
    cases ek : ds[k]? with
    | none => rw [getP, ek] at e; cases e
    | some dk => rw [getP, ek] at e; exact sealed_get p dk d' e (noOwn_at n.2 ek)
  | k :: p, .dt o ks ds, d', e, n => by
    have n : (!o && noOwnL ds) = true := n
    rw [Bool.and_eq_true] at n
    cases ek : ds[k]? with
    | none => rw [getP, ek] at e; cases e
    | some dk => rw [getP, ek] at e; exact sealed_get p dk d' e (noOwn_at n.2 ek)
end
section
variable {K : PySem.W.Frag} {F F' H H' : Hp}
/-- a place of a tree that is owned: its value, its cells, and what may be put there while the cell that holds it stays -/
theorem Rp.at (sub : Same F H) : ∀ (p : List Nat) (d : D) (v : V) (fp : List Addr) (d' : D), Rp K F H d v fp → getP d p = some d' → Dl.noOwn d' = false → ∃ v' f c1 c2, walk H v p = some v' ∧ fp = c1 ++ (f ++ c2) ∧ Rp K F H d' v' f ∧
    ∀ (F' H' : Hp) (d2 : D) (f2 : List Addr), Same F F' → (∀ b, b ∈ c1 ∨ b ∈ c2 → H' b = H b) → Rp K F' H' d2 v' f2 → Rp K F' H' (setP d p d2) v (c1 ++ (f2 ++ c2))
  | [], d, v, fp, d', h, e, n => by
    have e : d = d' := Option.some.inj e
    subst e
    exact ⟨v, fp, [], [], rfl, by simp, h, fun F' H' d2 f2 s hb h2 => by simpa [setP] using h2⟩
  | k :: p, .non, v, fp, d', h, e, n => by cases e
  | k :: p, .bl _, v, fp, d', h, e, n => by cases e
  | k :: p, .int _, v, fp, d', h, e, n => by cases e
  | k :: p, .str _, v, fp, d', h, e, n => by cases e
  | k :: p, .dead, v, fp, d', h, e, n => by cases e
  | k :: p, .scr _, v, fp, d', h, e, n => by cases e
  | k :: p, .tup ds, v, fp, d', h, e, n => by
    obtain ⟨a, vs, e1, q, r⟩ := h
    subst e1
    cases ek : ds[k]? with
    | none => rw [getP, ek] at e; cases e
    | some dk =>
      rw [getP, ek] at e
      obtain ⟨w, f, c1, c2, hw, rfl, hr, put⟩ := RpL.at r ek
      obtain ⟨v', f2, g1, g2, hv, rfl, hr2, put2⟩ := Rp.at sub p dk w f d' hr e n
      refine ⟨v', f2, c1 ++ g1, g2 ++ c2, ?_, by simp, hr2, fun F' H' d2 f3 s hb h2 => ?_⟩
      · show (match H a with | some (.tup vs) => _ | some (.lst vs) => _ | some (.dK kvs) => _ | some (.dT kvs) => _ | _ => _) = _
        rw [sub a _ q]
        show (vs[k]?).bind _ = _
        rw [hw]; exact hv
      · have z := put F' H' (setP dk p d2) w (g1 ++ (f3 ++ g2)) s (fun b z => hb b (z.elim (fun y => .inl (List.mem_append_left _ y)) fun y => .inr (List.mem_append_right _ y)))
          (put2 F' H' d2 f3 s (fun b z => hb b (z.elim (fun y => .inl (List.mem_append_right _ y)) fun y => .inr (List.mem_append_left _ y))) h2)
        have vk : vs.set k w = vs := set_id hw
        rw [vk] at z
        have e3 : ds.getD k .dead = dk := by rw [List.getD_eq_getElem?_getD, ek]; rfl
        show ∃ a' vs', V.ref a = .ref a' ∧ F' a' = some (.tup vs') ∧ RpL K F' H' (ds.set k (setP (ds.getD k .dead) p d2)) vs' _
        rw [e3]
        exact ⟨a, vs, rfl, s _ _ q, by simpa using z⟩
  | k :: p, .lst false ds, v, fp, d', h, e, n => by
    obtain ⟨_, a, vs, e1, q, r⟩ := h
    cases ek : ds[k]? with
    | none => rw [getP, ek] at e; cases e
    | some dk =>
      rw [getP, ek] at e
      exact absurd (show Dl.noOwn d' = true from sealed_get p dk d' e (sealed_of r ek)) (by rw [n]; exact Bool.false_ne_true)
  | k :: p, .lst true ds, v, fp, d', h, e, n => by
    obtain ⟨a, vs, f0, e1, q, e2, r⟩ := h
    subst e1 e2
    cases ek : ds[k]? with
    | none => rw [getP, ek] at e; cases e
    | some dk =>
      rw [getP, ek] at e
      obtain ⟨w, f, c1, c2, hw, rfl, hr, put⟩ := RpL.at r ek
      obtain ⟨v', f2, g1, g2, hv, rfl, hr2, put2⟩ := Rp.at sub p dk w f d' hr e n
      refine ⟨v', f2, a :: (c1 ++ g1), g2 ++ c2, ?_, by simp, hr2, fun F' H' d2 f3 s hb h2 => ?_⟩
      · show (match H a with | some (.tup vs) => _ | some (.lst vs) => _ | some (.dK kvs) => _ | some (.dT kvs) => _ | _ => _) = _
        rw [q]
        show (vs[k]?).bind _ = _
        rw [hw]; exact hv
      · have z := put F' H' (setP dk p d2) w (g1 ++ (f3 ++ g2)) s (fun b z => hb b (z.elim (fun y => .inl (List.mem_cons_of_mem _ (List.mem_append_left _ y))) fun y => .inr (List.mem_append_right _ y)))
          (put2 F' H' d2 f3 s (fun b z => hb b (z.elim (fun y => .inl (List.mem_cons_of_mem _ (List.mem_append_right _ y))) fun y => .inr (List.mem_append_left _ y))) h2)
        have vk : vs.set k w = vs := set_id hw
        rw [vk] at z
        have e3 : ds.getD k .dead = dk := by rw [List.getD_eq_getElem?_getD, ek]; rfl
        show ∃ a' vs' f', V.ref a = .ref a' ∧ H' a' = some (.lst vs') ∧ _ = a' :: f' ∧ RpL K F' H' (ds.set k (setP (ds.getD k .dead) p d2)) vs' f'
        rw [e3]
        exact ⟨a, vs, _, rfl, (hb a (.inl List.mem_cons_self)).trans q, rfl, by simpa using z⟩
  | k :: p, .dk false ks ds, v, fp, d', h, e, n => by
    obtain ⟨_, a, vs, e1, q, l, r⟩ := h
    cases ek : ds[k]? with
    | none => rw [getP, ek] at e; cases e
    | some dk =>
      rw [getP, ek] at e
      exact absurd (show Dl.noOwn d' = true from sealed_get p dk d' e (sealed_of r ek)) (by rw [n]; exact Bool.false_ne_true)
  | k :: p, .dk true ks ds, v, fp, d', h, e, n => by
    obtain ⟨a, vs, f0, e1, q, l, e2, r⟩ := h
    subst e1 e2
    cases ek : ds[k]? with
    | none => rw [getP, ek] at e; cases e
    | some dk =>
      rw [getP, ek] at e
      obtain ⟨w, f, c1, c2, hw, rfl, hr, put⟩ := RpL.at r ek
      obtain ⟨v', f2, g1, g2, hv, rfl, hr2, put2⟩ := Rp.at sub p dk w f d' hr e n
      obtain ⟨x, hz, _⟩ := zip_get l.1 hw
      refine ⟨v', f2, a :: (c1 ++ g1), g2 ++ c2, ?_, by simp, hr2, fun F' H' d2 f3 s hb h2 => ?_⟩
      · show (match H a with | some (.tup vs) => _ | some (.lst vs) => _ | some (.dK kvs) => _ | some (.dT kvs) => _ | _ => _) = _
        rw [q]
        show ((ks.zip vs)[k]?).bind _ = _
        rw [hz]; exact hv
      · have z := put F' H' (setP dk p d2) w (g1 ++ (f3 ++ g2)) s (fun b z => hb b (z.elim (fun y => .inl (List.mem_cons_of_mem _ (List.mem_append_left _ y))) fun y => .inr (List.mem_append_right _ y)))
          (put2 F' H' d2 f3 s (fun b z => hb b (z.elim (fun y => .inl (List.mem_cons_of_mem _ (List.mem_append_right _ y))) fun y => .inr (List.mem_append_left _ y))) h2)
        have vk : vs.set k w = vs := set_id hw
        rw [vk] at z
        have e3 : ds.getD k .dead = dk := by rw [List.getD_eq_getElem?_getD, ek]; rfl
        show ∃ a' vs' f', V.ref a = .ref a' ∧ H' a' = some (.dK (ks.zip vs')) ∧ (ks.length = vs'.length ∧ ks.Nodup) ∧ _ = a' :: f' ∧ RpL K F' H' (ds.set k (setP (ds.getD k .dead) p d2)) vs' f'
        rw [e3]
        exact ⟨a, vs, _, rfl, (hb a (.inl List.mem_cons_self)).trans q, l, rfl, by simpa using z⟩
  | k :: p, .dt false ks ds, v, fp, d', h, e, n => by
    obtain ⟨_, a, vs, e1, q, l, r⟩ := h
    cases ek : ds[k]? with
    | none => rw [getP, ek] at e; cases e
    | some dk =>
      rw [getP, ek] at e
      exact absurd (show Dl.noOwn d' = true from sealed_get p dk d' e (sealed_of r ek)) (by rw [n]; exact Bool.false_ne_true)
  | k :: p, .dt true ks ds, v, fp, d', h, e, n => by
    obtain ⟨a, vs, f0, e1, q, l, e2, r⟩ := h
    subst e1 e2
    cases ek : ds[k]? with
    | none => rw [getP, ek] at e; cases e
    | some dk =>
      rw [getP, ek] at e
      obtain ⟨w, f, c1, c2, hw, rfl, hr, put⟩ := RpL.at r ek
      obtain ⟨v', f2, g1, g2, hv, rfl, hr2, put2⟩ := Rp.at sub p dk w f d' hr e n
      obtain ⟨x, hz, _⟩ := zip_get l.1 hw
      refine ⟨v', f2, a :: (c1 ++ g1), g2 ++ c2, ?_, by simp, hr2, fun F' H' d2 f3 s hb h2 => ?_⟩
      · show (match H a with | some (.tup vs) => _ | some (.lst vs) => _ | some (.dK kvs) => _ | some (.dT kvs) => _ | _ => _) = _
        rw [q]
        show ((ks.zip vs)[k]?).bind _ = _
        rw [hz]; exact hv
      · have z := put F' H' (setP dk p d2) w (g1 ++ (f3 ++ g2)) s (fun b z => hb b (z.elim (fun y => .inl (List.mem_cons_of_mem _ (List.mem_append_left _ y))) fun y => .inr (List.mem_append_right _ y)))
          (put2 F' H' d2 f3 s (fun b z => hb b (z.elim (fun y => .inl (List.mem_cons_of_mem _ (List.mem_append_right _ y))) fun y => .inr (List.mem_append_left _ y))) h2)
        have vk : vs.set k w = vs := set_id hw
        rw [vk] at z
        have e3 : ds.getD k .dead = dk := by rw [List.getD_eq_getElem?_getD, ek]; rfl
        show ∃ a' vs' f', V.ref a = .ref a' ∧ H' a' = some (.dT (ks.zip vs')) ∧ (ks.length = vs'.length ∧ ks.Nodup) ∧ _ = a' :: f' ∧ RpL K F' H' (ds.set k (setP (ds.getD k .dead) p d2)) vs' f'
        rw [e3]
        exact ⟨a, vs, _, rfl, (hb a (.inl List.mem_cons_self)).trans q, l, rfl, by simpa using z⟩
end
end Dl
set_option Elab.async false
set_option linter.all false
set_option maxRecDepth 100000
set_option maxHeartbeats 4000000
/- D-layer 3: the judgements over the layer's own, expressions. -/
namespace Dl
open PySem L2

def Rv (K : PySem.W.Frag) (F H : Hp) (σ : St) : RV → V → List Addr → Prop
  | .val d, v, fp => Rp K F H d v fp
  | .lv j p, v, fp => fp = [] ∧ ∃ vj, σ[j]? = some (some vj) ∧ walk H vj p = some v
/-- what is wished of an exception of the class that has a name -/
def XW (mg : Str → Option Value) (H0 : Hp) (E : XK) (c : String) : Prop := ∀ C H', mg (Str.ofString c) = some (.ref C) → Same H0 H' → E (.ref C) none H'
/-- what is wanted behind an expression -/
def EG (K : PySem.W.Frag) (mg : Str → Option Value) (H0 : Hp) (E : XK) (F H : Hp) (σ : St) (r : Res RV) (Q : VK) : Prop := match r with
  | .ok r => ∀ v F' H' fp, Ex F H F' H' → Fr F' H fp → Rv K F' H' σ r v fp → Q v H'
  | .exc c => XW mg H0 E c
  | .bad => False
structure DE (X : Cx) (E : XK) (e : Expr) (f : Ev → Res RV) : Prop where
  run : ∃ t, PE X e t ∧ ∀ F0 H0 F H σ ρ fr, En X.K F0 H0 F H σ ρ fr → ∀ Q : VK, EG X.K X.mg H0 E F H σ (f ρ) Q → t σ H Q

/-- the tree of what was given -/
def lookD (ρ : Ev) : RV → Res D
  | .val d => .ok d
  | .lv j p => match ρ[j]? with
    | some (.val d) => match getP d p with
      | some d' => if noOwn d' then .bad else .ok d'
      | none => .bad
    | _ => .bad

section
variable {K : PySem.W.Frag} {F0 H0 F H F' H' : Hp} {σ : St} {ρ : Ev} {fr fp : List Addr}
theorem walk_mono (s : Same H H') : ∀ (p : List Nat) (v w : V), walk H v p = some w → walk H' v p = some w
  | [], v, w, h => h
  | k :: p, .non, w, h => by cases h
  | k :: p, .bl _, w, h => by cases h
  | k :: p, .int _, w, h => by cases h
  | k :: p, .str _, w, h => by cases h
  | k :: p, .byt _, w, h => by cases h
  | k :: p, .flt _, w, h => by cases h
  | k :: p, .ty _, w, h => by cases h
  | k :: p, .ref a, w, h => by
    unfold walk at h ⊢
    cases e : H a with
    | none => rw [e] at h; cases h
    | some o =>
      rw [e] at h
      rw [s a o e]
      cases o with
      | tup vs =>
        cases ek : vs[k]? with
        | none => simp only [ek] at h; cases h
        | some x => simp only [ek] at h ⊢; exact walk_mono s p x w h
      | lst vs =>
        cases ek : vs[k]? with
        | none => simp only [ek] at h; cases h
        | some x => simp only [ek] at h ⊢; exact walk_mono s p x w h
      | dK vs =>
        cases ek : vs[k]? with
        | none => simp only [ek] at h; cases h
        | some x => simp only [ek] at h ⊢; exact walk_mono s p x.2 w h
      | dT vs =>
        cases ek : vs[k]? with
        | none => simp only [ek] at h; cases h
        | some x => simp only [ek] at h ⊢; exact walk_mono s p x.2 w h
      | _ => cases h
theorem Rv.cells {r : RV} {v : V} (h : Rv K F H σ r v fp) : ∀ b ∈ fp, Cl H b := by
  intro b hb
  cases r with
  | val d =>
    exact Rp.cells d v fp h b hb
  | lv j p => rw [h.1] at hb; exact nomatch hb
theorem Rv.ext {r : RV} {v : V} (h : Rv K F H σ r v fp) (x : Ex F H F' H') : Rv K F' H' σ r v fp := by
  have st := h.cells
  cases r with
  | val d => exact Rp.mono x.f d v fp (fun b hb => x.keep (st b hb)) h
  | lv j p =>
    obtain ⟨e, vj, h1, h2⟩ := h
    exact ⟨e, vj, h1, walk_mono x.h p vj v h2⟩
/-- the tree of what was given, as it lies -/
theorem look_rp (en : En K F0 H0 F H σ ρ fr) {r : RV} {v : V} {d : D} (h : Rv K F H σ r v fp) (e : lookD ρ r = .ok d) : ∃ f, Rp K F H d v f := by
  cases r with
  | val d' => cases e; exact ⟨fp, h⟩
  | lv j p =>
    obtain ⟨_, vj, h1, h2⟩ := h
    unfold lookD at e
    cases ej : ρ[j]? with
    | none => simp only [ej] at e; cases e
    | some s =>
      cases s with
      | none => simp only [ej] at e; cases e
      | val dj =>
        simp only [ej] at e
        cases ep : getP dj p with
        | none => simp only [ep] at e; cases e
        | some d' =>
          simp only [ep] at e
          cases en' : noOwn d' with
          | true => rw [en'] at e; cases e
          | false =>
            rw [en'] at e
            have e : d' = d := by injection e
            subst e
            obtain ⟨cs, w, r⟩ := en
            obtain ⟨o, f, c1, c2, x1, x2, x3, _⟩ := EnR.at r ej
            obtain ⟨v2, y1, y2⟩ := x3
            rw [x1, y1] at h1
            cases h1
            obtain ⟨v3, f3, g1, g2, z1, z2, z3, _⟩ := Rp.at w.sub p dj vj f d' y2 ep en'
            rw [z1] at h2
            cases h2
            exact ⟨f3, z3⟩
end

section
variable {X : Cx} {E : XK} {e a b : Expr} {pos : Pos}
/-! ### names and constants -/
def dVar (i : Nat) : Ev → Res RV := fun ρ => match ρ[i]? with
  | some (.val d) => if noOwn d then .ok (.val d) else .ok (.lv i [])
  | _ => .bad
theorem de_var {i : Nat} {x : Str} (h : PE X (.Name x pos) (tVar i)) : DE X E (.Name x pos) (dVar i) := by
  refine ⟨tVar i, h, fun F0 H0 F H σ ρ fr en Q g => ?_⟩
  unfold dVar at g
  cases ei : ρ[i]? with
  | none => simp only [ei] at g; exact g.elim
  | some s =>
    cases s with
    | none => simp only [ei] at g; exact g.elim
    | val d =>
      simp only [ei] at g
      have sub := en.sub
      obtain ⟨cs, w, r⟩ := en
      obtain ⟨o, f, c1, c2, x1, x2, x3, _⟩ := EnR.at r ei
      obtain ⟨v, y1, y2⟩ := x3
      subst y1
      cases hn : noOwn d with
      | true =>
        rw [hn] at g
        have ef := Rp.noOwn d v f hn y2
        subst ef
        exact ⟨v, x1, g v F H [] (Ex.refl sub) ⟨List.nodup_nil, fun _ z => nomatch z⟩ y2⟩
      | false =>
        rw [hn] at g
        exact ⟨v, x1, g v F H [] (Ex.refl sub) ⟨List.nodup_nil, fun _ z => nomatch z⟩ ⟨rfl, v, x1, rfl⟩⟩
def dC (d : D) : Ev → Res RV := fun _ => .ok (.val d)
theorem fr_nil {F H : Hp} : Fr F H [] := ⟨List.nodup_nil, fun _ z => nomatch z⟩
theorem de_c {v : V} {d : D} (h : PE X e (tC v)) (r : ∀ F H, Rp X.K F H d v []) : DE X E e (dC d) :=
  ⟨tC v, h, fun F0 H0 F H σ ρ fr en Q g => g v F H [] (Ex.refl en.sub) fr_nil (r F H)⟩
theorem de_int {i j} : DE X E (.Constant (.int i) j pos) (dC (.int i)) := de_c pe_int fun _ _ => ⟨rfl, rfl⟩
theorem de_bl {b j} : DE X E (.Constant (.bool b) j pos) (dC (.bl b)) := de_c pe_bl fun _ _ => ⟨rfl, rfl⟩
theorem de_non {j} : DE X E (.Constant .none j pos) (dC .non) := de_c pe_non fun _ _ => ⟨rfl, rfl⟩
theorem de_str {x j} : DE X E (.Constant (.str x) j pos) (dC (.str x)) := de_c pe_str fun _ _ => ⟨rfl, rfl⟩
/-- a module's int, text -/
theorem de_gint {x : Str} {i : Int} {t : Tok} (hg : Gl X x) (hm : X.mg x = some (.int i t)) (hd : (x == ("__debug__" : Str)) = false := by decide) : DE X E (.Name x pos) (dC (.int i)) := de_c (pe_glob hg hm (v := .int i) ⟨_, rfl⟩ hd) fun _ _ => ⟨rfl, rfl⟩
theorem de_gstr {x y : Str} {t : Tok} (hg : Gl X x) (hm : X.mg x = some (.str y t)) (hd : (x == ("__debug__" : Str)) = false := by decide) : DE X E (.Name x pos) (dC (.str y)) := de_c (pe_glob hg hm (v := .str y) ⟨_, rfl⟩ hd) fun _ _ => ⟨rfl, rfl⟩

/-! ### one, two expressions by their trees -/
/-- an operation by values: what the layer's reading r asks is met where the tree function g answers -/
def OpD (X : Cx) (r : R2) (g : D → D → Res D) : Prop := ∀ (F H : Hp) (x y : V) (dx dy : D) (f1 f2 : List Addr) (Q : VK), Same F H → Rp X.K F H dx x f1 → Rp X.K F H dy y f2 → ∀ d, g dx dy = .ok d →
  (∀ v F' H' fp, Ex F H F' H' → Fr F' H fp → Rp X.K F' H' d v fp → Q v H') → r x y H Q
def UnD (X : Cx) (r : V → Hp → VK → Prop) (g : D → Res D) : Prop := ∀ (F H : Hp) (x : V) (dx : D) (f1 : List Addr) (Q : VK), Same F H → Rp X.K F H dx x f1 → ∀ d, g dx = .ok d →
  (∀ v F' H' fp, Ex F H F' H' → Fr F' H fp → Rp X.K F' H' d v fp → Q v H') → r x H Q
def dUn (g : D → Res D) (fa : Ev → Res RV) : Ev → Res RV := fun ρ => do
  let x ← fa ρ
  let dx ← lookD ρ x
  let d ← g dx
  .ok (.val d)
def dBin (g : D → D → Res D) (fa fb : Ev → Res RV) : Ev → Res RV := fun ρ => do
  let x ← fa ρ
  let y ← fb ρ
  let dx ← lookD ρ x
  let dy ← lookD ρ y
  let d ← g dx dy
  .ok (.val d)
/-- the pure answer is never an exception (for operations of the built-in kinds) -/
def Plain {α β : Type} (g : α → Res β) : Prop := ∀ a c, g a ≠ .exc c
theorem lookD_ne (ρ : Ev) (r : RV) (c : String) : lookD ρ r ≠ .exc c := by
  cases r with
  | val d => intro h; cases h
  | lv j p =>
    intro h
    simp only [lookD] at h
    cases ej : ρ[j]? with
    | none => simp only [ej] at h; cases h
    | some s =>
      cases s with
      | none => simp only [ej] at h; cases h
      | val d =>
        simp only [ej] at h
        cases ep : getP d p with
        | none => simp only [ep] at h; cases h
        | some d' =>
          simp only [ep] at h
          cases en : noOwn d' with
          | true => rw [en] at h; cases h
          | false => rw [en] at h; cases h
variable {fa fb : Ev → Res RV}
/-- two expressions, by what is to be met at the end -/
theorem bin_run (ha : DE X E a fa) (hb : DE X E b fb) : ∃ ta tb, PE X a ta ∧ PE X b tb ∧ ∀ F0 H0 F H σ ρ fr, En X.K F0 H0 F H σ ρ fr → ∀ R : V → V → Hp → Prop,
    (match fa ρ with
      | .ok x => match fb ρ with
        | .ok y => ∀ v w F' H' f1 f2, Ex F H F' H' → Fr F' H (f1 ++ f2) → Rv X.K F' H' σ x v f1 → Rv X.K F' H' σ y w f2 → En X.K F0 H0 F' H' σ ρ fr → R v w H'
        | .exc c => XW X.mg H0 E c
        | .bad => False
      | .exc c => XW X.mg H0 E c
      | .bad => False) → ta σ H fun v H1 => tb σ H1 fun w H2 => R v w H2 := by
  obtain ⟨ta, pa, ra⟩ := ha.run
  obtain ⟨tb, pb, rb⟩ := hb.run
  refine ⟨ta, tb, pa, pb, fun F0 H0 F H σ ρ fr en R g => ra F0 H0 F H σ ρ fr en _ ?_⟩
  cases ea : fa ρ with
  | bad => rw [ea] at g; exact g
  | exc c => rw [ea] at g; exact g
  | ok x =>
    rw [ea] at g
    intro v F1 H1 f1 x1 r1 q1
    have st := Rv.cells q1
    refine rb F0 H0 F1 H1 σ ρ (f1 ++ fr) (en.add x1 r1 st) _ ?_
    cases eb : fb ρ with
    | bad => simp only [eb] at g
    | exc c => simp only [eb] at g; exact g
    | ok y =>
      simp only [eb] at g
      intro w F2 H2 f2 x2 r2 q2
      refine g v w F2 H2 f1 f2 (x1.trans x2) ⟨List.nodup_append.mpr ⟨r1.1, r2.1, fun p hp q hq e => ?_⟩, fun p hp => ?_⟩ (q1.ext x2) q2 ((en.ext x1).ext x2)
      · exact (st p hp).ne (e ▸ (r2.2 q hq).2)
      · rcases List.mem_append.mp hp with z | z
        · exact ⟨x2.not (r1.2 p z).1 (st p z), (r1.2 p z).2⟩
        · exact ⟨(r2.2 p z).1, x1.h.free (r2.2 p z).2⟩
theorem EG.look2 {K : PySem.W.Frag} {mg : Str → Option Value} {H0 F H : Hp} {σ : St} {ρ : Ev} {g : D → D → Res D} {x y : RV} {Q : VK}
    (h : EG K mg H0 E F H σ (do let dx ← lookD ρ x; let dy ← lookD ρ y; let d ← g dx dy; .ok (.val d)) Q) (np : ∀ a b c, g a b ≠ .exc c) :
    ∃ dx dy d, lookD ρ x = .ok dx ∧ lookD ρ y = .ok dy ∧ g dx dy = .ok d ∧ ∀ v F' H' fp, Ex F H F' H' → Fr F' H fp → Rp K F' H' d v fp → Q v H' := by
  cases ex : lookD ρ x with
  | bad => rw [ex] at h; exact h.elim
  | exc c => exact absurd ex (lookD_ne _ _ _)
  | ok dx =>
    cases ey : lookD ρ y with
    | bad => rw [ex, ey] at h; exact h.elim
    | exc c => exact absurd ey (lookD_ne _ _ _)
    | ok dy =>
      cases eg : g dx dy with
      | bad => rw [ex, ey] at h; simp only [ok_bind, eg] at h; exact h.elim
      | exc c => exact absurd eg (np _ _ _)
      | ok d =>
        rw [ex, ey] at h
        simp only [ok_bind, eg] at h
        exact ⟨dx, dy, d, rfl, rfl, eg, h⟩
/-- the general two-place rule: te is the layer's reading over both -/
theorem de_two {e : Expr} {r : R2} {g : D → D → Res D} (ha : DE X E a fa) (hb : DE X E b fb) (ho : OpD X r g) (np : ∀ a b c, g a b ≠ .exc c)
    (mk : ∀ ta tb, PE X a ta → PE X b tb → PE X e (tOp r ta tb)) : DE X E e (dBin g fa fb) := by
  obtain ⟨ta, tb, pa, pb, run⟩ := bin_run ha hb
  refine ⟨tOp r ta tb, mk ta tb pa pb, fun F0 H0 F H σ ρ fr en Q h => run F0 H0 F H σ ρ fr en _ ?_⟩
  unfold dBin at h
  cases ea : fa ρ with
  | bad => rw [ea] at h; exact h
  | exc c => rw [ea] at h; exact h
  | ok x =>
    rw [ea] at h
    cases eb : fb ρ with
    | bad => rw [eb] at h; exact h
    | exc c => rw [eb] at h; exact h
    | ok y =>
      rw [eb] at h
      simp only [ok_bind] at h
      obtain ⟨dx, dy, d, h1, h2, h3, h4⟩ := EG.look2 h np
      intro v w F' H' f1 f2 x1 r1 q1 q2 en'
      obtain ⟨k1, p1⟩ := look_rp en' q1 h1
      obtain ⟨k2, p2⟩ := look_rp en' q2 h2
      exact ho F' H' v w dx dy k1 k2 Q x1.sub p1 p2 d h3 fun u F2 H2 fp x2 r2 q => h4 u F2 H2 fp (x1.trans x2) ⟨r2.1, fun b hb => ⟨(r2.2 b hb).1, x1.h.free (r2.2 b hb).2⟩⟩ q
theorem EG.look1 {K : PySem.W.Frag} {mg : Str → Option Value} {H0 F H : Hp} {σ : St} {ρ : Ev} {g : D → Res D} {x : RV} {Q : VK}
    (h : EG K mg H0 E F H σ (do let dx ← lookD ρ x; let d ← g dx; .ok (.val d)) Q) (np : ∀ a c, g a ≠ .exc c) :
    ∃ dx d, lookD ρ x = .ok dx ∧ g dx = .ok d ∧ ∀ v F' H' fp, Ex F H F' H' → Fr F' H fp → Rp K F' H' d v fp → Q v H' := by
  cases ex : lookD ρ x with
  | bad => rw [ex] at h; exact h.elim
  | exc c => exact absurd ex (lookD_ne _ _ _)
  | ok dx =>
    cases eg : g dx with
    | bad => rw [ex] at h; simp only [ok_bind, eg] at h; exact h.elim
    | exc c => exact absurd eg (np _ _)
    | ok d =>
      rw [ex] at h
      simp only [ok_bind, eg] at h
      exact ⟨dx, d, rfl, eg, h⟩
theorem de_one {e : Expr} {r : V → Hp → VK → Prop} {g : D → Res D} (ha : DE X E a fa) (ho : UnD X r g) (np : ∀ a c, g a ≠ .exc c)
    (mk : ∀ ta, PE X a ta → PE X e (tUn r ta)) : DE X E e (dUn g fa) := by
  obtain ⟨ta, pa, ra⟩ := ha.run
  refine ⟨tUn r ta, mk ta pa, fun F0 H0 F H σ ρ fr en Q h => ra F0 H0 F H σ ρ fr en _ ?_⟩
  unfold dUn at h
  cases ea : fa ρ with
  | bad => rw [ea] at h; exact h
  | exc c => rw [ea] at h; exact h
  | ok x =>
    rw [ea] at h
    simp only [ok_bind] at h
    obtain ⟨dx, d, h1, h3, h4⟩ := EG.look1 h np
    intro v F' H' f1 x1 r1 q1
    obtain ⟨k1, p1⟩ := look_rp (en.ext x1) q1 h1
    exact ho F' H' v dx k1 Q x1.sub p1 d h3 fun u F2 H2 fp x2 r2 q => h4 u F2 H2 fp (x1.trans x2) ⟨r2.1, fun b hb => ⟨(r2.2 b hb).1, x1.h.free (r2.2 b hb).2⟩⟩ q
end
end Dl
set_option Elab.async false
set_option linter.all false
set_option maxRecDepth 100000
set_option maxHeartbeats 4000000
/- D-layer 4: operators, comparisons. -/
namespace Dl
open PySem L2

/-! ### new objects -/
section
variable {K : PySem.W.Frag} {F H : Hp} {p : Addr}
theorem Same.none {F H : Hp} (s : Same F H) {p : Addr} (h : H p = none) : F p = none := s.free h
theorem same_upd {H : Hp} {p : Addr} (h : H p = none) (o : HO) : Same H (upd H p o) := fun b u q => by rw [upd_ne (ne_of_none q h)]; exact q
theorem ex_tup (s : Same F H) (h : H p = none) (vs : List V) : Ex F H (upd F p (.tup vs)) (upd H p (.tup vs)) := by
  refine ⟨same_upd (s.free h) _, same_upd h _, fun b u q => ?_, fun b q => ?_⟩
  · by_cases e : b = p
    · rw [e, upd_same] at q ⊢; exact q
    · rw [upd_ne e] at q ⊢; exact s b u q
  · by_cases e : b = p
    · rw [e]; exact .inr (.inl h)
    · rw [upd_ne e] at q; exact .inl q
theorem ex_own (s : Same F H) (h : H p = none) (o : HO) : Ex F H F (upd H p o) := by
  refine ⟨Same.refl F, same_upd h _, fun b u q => ?_, fun b q => .inl q⟩
  have q' := s b u q
  rw [upd_ne (ne_of_none q' h)]; exact q'
theorem rp_tup (s : Same F H) (h : H p = none) {ds : List D} {vs : List V} {fp : List Addr} (r : RpL K F H ds vs fp) (st : ∀ b ∈ fp, Cl H b) : Rp K (upd F p (.tup vs)) (upd H p (.tup vs)) (.tup ds) (.ref p) fp :=
  ⟨p, vs, rfl, upd_same, RpL.mono (same_upd (s.free h) _) ds vs fp (fun b hb => upd_ne fun e => (st b hb).ne (e ▸ h)) r⟩
theorem rp_lst (h : H p = none) {ds : List D} {vs : List V} {fp : List Addr} (r : RpL K F H ds vs fp) (st : ∀ b ∈ fp, Cl H b) : Rp K F (upd H p (.lst vs)) (.lst true ds) (.ref p) (p :: fp) :=
  ⟨p, vs, fp, rfl, upd_same, rfl, RpL.mono (Same.refl F) ds vs fp (fun b hb => upd_ne fun e => (st b hb).ne (e ▸ h)) r⟩
theorem fr_own (s : Same F H) (h : H p = none) : Fr F H [p] := ⟨by simp, fun b hb => by
  have e : b = p := by simpa using hb
  rw [e]; exact ⟨s.free h, h⟩⟩
theorem Rp.rdL (s : Same F H) {o : Bool} {ds : List D} {v : V} {fp : List Addr} (r : Rp K F H (.lst o ds) v fp) : ∃ a vs f, v = .ref a ∧ Rd H a (.lst vs) ∧ RpL K F H ds vs f ∧ (∀ b ∈ f, b ∈ fp) := by
  cases o with
  | false =>
    obtain ⟨e0, a, vs, e, q, h⟩ := r
    exact ⟨a, vs, [], e, rd_same s q, h, fun _ z => nomatch z⟩
  | true =>
    obtain ⟨a, vs, f, e, q, e2, h⟩ := r
    exact ⟨a, vs, f, e, .inl q, h, fun b hb => by rw [e2]; exact List.mem_cons_of_mem _ hb⟩
theorem Rp.sqT (s : Same F H) {ds : List D} {v : V} {fp : List Addr} (r : Rp K F H (.tup ds) v fp) : ∃ a vs, v = .ref a ∧ SqT K H a vs ∧ F a = some (.tup vs) ∧ RpL K F H ds vs fp := by
  obtain ⟨a, vs, e, q, h⟩ := r
  exact ⟨a, vs, e, SqT.of (s _ _ q), q, h⟩
/-- what has no mark has no cells -/
theorem RpL.plain {ds : List D} {vs : List V} {fp : List Addr} (r : RpL K F H ds vs fp) (n : noOwnL ds = true) : RpL K F H ds vs [] := by
  have e := RpL.noOwn ds vs fp n r
  rw [e] at r; exact r
theorem Rp.plain {d : D} {v : V} {fp : List Addr} (r : Rp K F H d v fp) (n : Dl.noOwn d = true) : Rp K F H d v [] := by
  have e := Rp.noOwn d v fp n r
  rw [e] at r; exact r
end

/-! ### trees as the library's data -/
mutual
def toP : D → Option PyData
  | .non => some .none
  | .bl b => some (.bool b)
  | .int i => some (.int i)
  | .str s => some (.str s)
  | .tup xs => (toPL xs).map .tuple
  | .lst _ xs => (toPL xs).map .list
  | _ => none
def toPL : List D → Option (List PyData)
  | [] => some []
  | d :: r => (toP d).bind fun p => (toPL r).map fun q => p :: q
end
section
variable {K : PySem.W.Frag} {F H : Hp}
mutual
theorem Rp.dp (s : Same F H) : ∀ (d : D) (v : V) (fp : List Addr) (p : PyData), Rp K F H d v fp → toP d = some p → Dp K H v p
  | .non, v, fp, p, h, e => by rw [h.1, ← Option.some.inj e]; exact .non
  | .bl b, v, fp, p, h, e => by rw [h.1, ← Option.some.inj e]; exact .bl b
  | .int i, v, fp, p, h, e => by rw [h.1, ← Option.some.inj e]; exact .int i
  | .str x, v, fp, p, h, e => by rw [h.1, ← Option.some.inj e]; exact .str x
  | .dead, v, fp, p, h, e => by cases e
  | .dk _ _ _, v, fp, p, h, e => by cases e
  | .scr _, v, fp, p, h, e => by cases e
  | .dt _ _ _, v, fp, p, h, e => by cases e
  | .tup xs, v, fp, p, h, e => by
    obtain ⟨q, e1, e2⟩ := Option.map_eq_some_iff.mp (show (toPL xs).map .tuple = some p from e)
    obtain ⟨a, vs, ev, hs, _, r⟩ := Rp.sqT s h
    rw [ev, ← e2]
    exact .tup hs (RpL.dp s xs vs fp q r e1)
  | .lst o xs, v, fp, p, h, e => by
    obtain ⟨q, e1, e2⟩ := Option.map_eq_some_iff.mp (show (toPL xs).map .list = some p from e)
    obtain ⟨a, vs, f, ev, hs, r, _⟩ := Rp.rdL s h
    rw [ev, ← e2]
    exact .lst (.inl hs) (RpL.dp s xs vs f q r e1)
theorem RpL.dp (s : Same F H) : ∀ (ds : List D) (vs : List V) (fp : List Addr) (ps : List PyData), RpL K F H ds vs fp → toPL ds = some ps → DpAll K H vs ps
  | [], vs, fp, ps, h, e => by rw [h.1, ← Option.some.inj e]; exact .nil
  | d :: ds, vs, fp, ps, h, e => by
    obtain ⟨v, r, f, g, e1, e2, h1, h2⟩ := h
    obtain ⟨p, ep, e3⟩ := Option.bind_eq_some_iff.mp (show (toP d).bind _ = some ps from e)
    obtain ⟨q, eq, e4⟩ := Option.map_eq_some_iff.mp e3
    rw [e1, ← e4]
    exact .cons (Rp.dp s d v f p h1 ep) (RpL.dp s ds r g q h2 eq)
end
end

/-! ### a rule for an operator: the layer's reading and its tree function -/
structure BinRule (X : Cx) (op : Operator) (g : D → D → Res D) : Prop where
  ex : ∃ r, OpR X (binaryOp op) r ∧ OpD X r g
  np : ∀ a b c, g a b ≠ .exc c
structure CmpRule (X : Cx) (op : CmpOp) (g : D → D → Res D) : Prop where
  ex : ∃ r, OpR X (compareOp op) r ∧ OpD X r g
  np : ∀ a b c, g a b ≠ .exc c
section
variable {X : Cx} {E : XK} {e a b : Expr} {pos : Pos} {fa fb : Ev → Res RV} {g : D → D → Res D}
theorem de_bin {op : Operator} (r : BinRule X op g) (ha : DE X E a fa) (hb : DE X E b fb) : DE X E (.BinOp a op b pos) (dBin g fa fb) := by
  obtain ⟨⟨r, h1, h2⟩, np⟩ := r
  exact de_two ha hb h2 np fun ta tb pa pb => pe_op h1 pa pb
theorem de_cmp {op : CmpOp} (r : CmpRule X op g) (ha : DE X E a fa) (hb : DE X E b fb) (hm : behindInMarks op b = false) : DE X E (.Compare a [op] [b] pos) (dBin g fa fb) := by
  obtain ⟨⟨r, h1, h2⟩, np⟩ := r
  exact de_two ha hb h2 np fun ta tb pa pb => pe_cmpR h1 pa pb hm

/-! ### tests -/
def TGo (mg : Str → Option Value) (H0 : Hp) (E : XK) (F H : Hp) (r : Res Bool) (Q : Bool → Hp → Prop) : Prop := match r with
  | .ok b => ∀ F' H', Ex F H F' H' → Q b H'
  | .exc c => XW mg H0 E c
  | .bad => False
structure DT (X : Cx) (E : XK) (e : Expr) (f : Ev → Res Bool) : Prop where
  run : ∃ t, PT X e t ∧ ∀ F0 H0 F H σ ρ fr, En X.K F0 H0 F H σ ρ fr → ∀ Q, TGo X.mg H0 E F H (f ρ) Q → t σ H Q
/-- a truth value as a test -/
def rvB : RV → Res Bool
  | .val (.bl b) => .ok b
  | _ => .bad
def dTst (f : Ev → Res RV) : Ev → Res Bool := fun ρ => do
  let v ← f ρ
  rvB v
/-- from the reading of the same as a value -/
theorem dt_mk {f : Ev → Res RV} (h : ∃ t, PT X e (tTest t) ∧ ∀ F0 H0 F H σ ρ fr, En X.K F0 H0 F H σ ρ fr → ∀ Q : VK, EG X.K X.mg H0 E F H σ (f ρ) Q → t σ H Q) : DT X E e (dTst f) := by
  obtain ⟨t, p, r⟩ := h
  refine ⟨tTest t, p, fun F0 H0 F H σ ρ fr en Q g => r F0 H0 F H σ ρ fr en _ ?_⟩
  unfold dTst at g
  cases ef : f ρ with
  | bad => rw [ef] at g; exact g
  | exc c => rw [ef] at g; exact g
  | ok v =>
    rw [ef] at g
    simp only [ok_bind] at g
    intro u F' H' fp x fr' q
    cases v with
    | lv j p => exact g.elim
    | val d =>
      cases d with
      | bl b => exact ⟨b, q.1, g F' H' x⟩
      | _ => exact g.elim
theorem tTest_tB {t : TE} : tTest t = tB t := rfl
theorem dt_val {f : Ev → Res RV} (h : DE X E e f) (he : ∀ whole, isTrue e X.env whole = (do let v ← whole; standAt e.pos; holding [v] (truthy v)) := by intro _; rfl) : DT X E e (dTst f) := by
  obtain ⟨t, p, r⟩ := h.run
  exact dt_mk ⟨t, pt_val p he, r⟩
theorem dt_cmp {op : CmpOp} (r : CmpRule X op g) (ha : DE X E a fa) (hb : DE X E b fb) (hm : behindInMarks op b = false) : DT X E (.Compare a [op] [b] pos) (dTst (dBin g fa fb)) := by
  obtain ⟨⟨r, h1, h2⟩, np⟩ := r
  obtain ⟨ta, tb, pa, pb, run⟩ := bin_run ha hb
  refine dt_mk ⟨tOp r ta tb, pt_cmpR h1 pa pb hm, fun F0 H0 F H σ ρ fr en Q h => run F0 H0 F H σ ρ fr en _ ?_⟩
  unfold dBin at h
  cases ea : fa ρ with
  | bad => rw [ea] at h; exact h
  | exc c => rw [ea] at h; exact h
  | ok x =>
    rw [ea] at h
    cases eb : fb ρ with
    | bad => rw [eb] at h; exact h
    | exc c => rw [eb] at h; exact h
    | ok y =>
      rw [eb] at h
      simp only [ok_bind] at h
      obtain ⟨dx, dy, d, k1, k2, k3, k4⟩ := EG.look2 h np
      intro v w F' H' f1 f2 x1 r1 q1 q2 en'
      obtain ⟨l1, p1⟩ := look_rp en' q1 k1
      obtain ⟨l2, p2⟩ := look_rp en' q2 k2
      exact h2 F' H' v w dx dy l1 l2 Q x1.sub p1 p2 d k3 fun u F2 H2 fp x2 r2 q => k4 u F2 H2 fp (x1.trans x2) ⟨r2.1, fun b hb => ⟨(r2.2 b hb).1, x1.h.free (r2.2 b hb).2⟩⟩ q
/-- and, or, not -/
structure DW (X : Cx) (E : XK) (e : Expr) (f : Ev → Res Bool) : Prop where
  run : ∃ t, PW X e t ∧ ∀ F0 H0 F H σ ρ fr, En X.K F0 H0 F H σ ρ fr → ∀ Q, TGo X.mg H0 E F H (f ρ) Q → t σ H Q
theorem DW.dt {f : Ev → Res Bool} (h : DW X E e f) : DT X E e f := let ⟨t, p, r⟩ := h.run; ⟨t, p.pt, r⟩
def dAnd (f g : Ev → Res Bool) : Ev → Res Bool := fun ρ => do
  let b ← f ρ
  if b then g ρ else .ok false
def dOr (f g : Ev → Res Bool) : Ev → Res Bool := fun ρ => do
  let b ← f ρ
  if b then .ok true else g ρ
def dNot (f : Ev → Res Bool) : Ev → Res Bool := fun ρ => do
  let b ← f ρ
  .ok (!b)
variable {ga gb : Ev → Res Bool} {rest : List Expr}
theorem TGo.bind {mg : Str → Option Value} {H0 F H : Hp} {r : Res Bool} {k : Bool → Res Bool} {Q : Bool → Hp → Prop} {R : Bool → Hp → Prop} (h : TGo mg H0 E F H (r >>= k) Q) (hR : ∀ b, r = .ok b → ∀ F' H', Ex F H F' H' → R b H') : TGo mg H0 E F H r R := by
  cases r with
  | bad => exact h
  | exc c => exact h
  | ok b => exact fun F' H' x => hR b rfl F' H' x
theorem TGo.after {mg : Str → Option Value} {H0 F H F' H' : Hp} {r : Res Bool} {Q : Bool → Hp → Prop} (h : TGo mg H0 E F H r Q) (x : Ex F H F' H') : TGo mg H0 E F' H' r Q := by
  cases r with
  | bad => exact h
  | exc c => exact h
  | ok b => exact fun F2 H2 y => h F2 H2 (x.trans y)
theorem EG.after {K : PySem.W.Frag} {mg : Str → Option Value} {H0 F H F' H' : Hp} {σ : St} {r : Res RV} {Q : VK} (h : EG K mg H0 E F H σ r Q) (x : Ex F H F' H') : EG K mg H0 E F' H' σ r Q := by
  cases r with
  | bad => exact h
  | exc c => exact h
  | ok b => exact fun v F2 H2 fp y fr q => h v F2 H2 fp (x.trans y) ⟨fr.1, fun b hb => ⟨(fr.2 b hb).1, x.h.free (fr.2 b hb).2⟩⟩ q
theorem dw_and1 (ha : DT X E a ga) : DW X E (.BoolOp .And [a] pos) ga := let ⟨t, p, r⟩ := ha.run; ⟨t, pw_and1 p, r⟩
theorem dw_or1 (ha : DT X E a ga) : DW X E (.BoolOp .Or [a] pos) ga := let ⟨t, p, r⟩ := ha.run; ⟨t, pw_or1 p, r⟩
theorem dw_and (ha : DT X E a ga) (hb : DW X E (.BoolOp .And (b :: rest) pos) gb) : DW X E (.BoolOp .And (a :: b :: rest) pos) (dAnd ga gb) := by
  obtain ⟨t, p, r⟩ := ha.run
  obtain ⟨u, q, s⟩ := hb.run
  refine ⟨tAnd t u, pw_and p q, fun F0 H0 F H σ ρ fr en Q h => r F0 H0 F H σ ρ fr en _ ?_⟩
  refine TGo.bind (k := fun b => if b then gb ρ else .ok false) (Q := Q) h fun b eb F' H' x => ?_
  unfold dAnd at h
  rw [eb] at h
  cases b with
  | true => rw [if_pos rfl]; exact s F0 H0 F' H' σ ρ fr (en.ext x) Q (TGo.after h x)
  | false => rw [if_neg Bool.false_ne_true]; exact h F' H' x
theorem dw_or (ha : DT X E a ga) (hb : DW X E (.BoolOp .Or (b :: rest) pos) gb) : DW X E (.BoolOp .Or (a :: b :: rest) pos) (dOr ga gb) := by
  obtain ⟨t, p, r⟩ := ha.run
  obtain ⟨u, q, s⟩ := hb.run
  refine ⟨tOr t u, pw_or p q, fun F0 H0 F H σ ρ fr en Q h => r F0 H0 F H σ ρ fr en _ ?_⟩
  refine TGo.bind (k := fun b => if b then .ok true else gb ρ) (Q := Q) h fun b eb F' H' x => ?_
  unfold dOr at h
  rw [eb] at h
  cases b with
  | true => rw [if_pos rfl]; exact h F' H' x
  | false => rw [if_neg Bool.false_ne_true]; exact s F0 H0 F' H' σ ρ fr (en.ext x) Q (TGo.after h x)
theorem dt_not (ha : DT X E a ga) : DT X E (.UnaryOp .Not a pos) (dNot ga) := by
  obtain ⟨t, p, r⟩ := ha.run
  refine ⟨tNot t, pt_not p, fun F0 H0 F H σ ρ fr en Q h => r F0 H0 F H σ ρ fr en _ ?_⟩
  refine TGo.bind (k := fun b => .ok (!b)) (Q := Q) h fun b eb F' H' x => ?_
  unfold dNot at h
  rw [eb] at h
  exact h F' H' x
/-- .. as values, of truth values -/
def dAndV (f g : Ev → Res RV) : Ev → Res RV := fun ρ => do
  let v ← f ρ
  let b ← rvB v
  if b then g ρ else .ok (.val (.bl false))
def dOrV (f g : Ev → Res RV) : Ev → Res RV := fun ρ => do
  let v ← f ρ
  let b ← rvB v
  if b then .ok (.val (.bl true)) else g ρ
def dNotV (f : Ev → Res RV) : Ev → Res RV := fun ρ => do
  let v ← f ρ
  let b ← rvB v
  .ok (.val (.bl (!b)))
theorem de_v1 {op} (ha : DE X E a fa) : DE X E (.BoolOp op [a] pos) fa := let ⟨t, p, r⟩ := ha.run; ⟨t, pe_one p, r⟩
theorem EG.bindB {K : PySem.W.Frag} {mg : Str → Option Value} {H0 F H : Hp} {σ : St} {r : Res RV} {k : Bool → Res RV} {Q R : VK} (h : EG K mg H0 E F H σ (r >>= fun v => rvB v >>= k) Q)
    (hR : ∀ b, r = .ok (.val (.bl b)) → ∀ F' H', Ex F H F' H' → EG K mg H0 E F' H' σ (k b) Q → R (.bl b) H') : EG K mg H0 E F H σ r R := by
  cases r with
  | bad => exact h
  | exc c => exact h
  | ok v =>
    cases v with
    | lv j p => exact h.elim
    | val d =>
      cases d with
      | bl b =>
        intro u F' H' fp x fr q
        rw [q.1]
        exact hR b rfl F' H' x (EG.after (r := k b) h x)
      | _ => exact h.elim
theorem de_and (ha : DE X E a fa) (hb : DE X E (.BoolOp .And (b :: rest) pos) fb) : DE X E (.BoolOp .And (a :: b :: rest) pos) (dAndV fa fb) := by
  obtain ⟨t, p, r⟩ := ha.run
  obtain ⟨u, q, s⟩ := hb.run
  refine ⟨tAndV t u, pe_and p q, fun F0 H0 F H σ ρ fr en Q h => r F0 H0 F H σ ρ fr en _ ?_⟩
  refine EG.bindB (k := fun b => if b then fb ρ else .ok (.val (.bl false))) h fun b eb F' H' x h' => ⟨b, rfl, ?_⟩
  cases b with
  | true => rw [if_pos rfl]; exact s F0 H0 F' H' σ ρ fr (en.ext x) Q h'
  | false => rw [if_neg Bool.false_ne_true]; exact h' _ F' H' [] (Ex.refl x.sub) fr_nil ⟨rfl, rfl⟩
theorem de_or (ha : DE X E a fa) (hb : DE X E (.BoolOp .Or (b :: rest) pos) fb) : DE X E (.BoolOp .Or (a :: b :: rest) pos) (dOrV fa fb) := by
  obtain ⟨t, p, r⟩ := ha.run
  obtain ⟨u, q, s⟩ := hb.run
  refine ⟨tOrV t u, pe_or p q, fun F0 H0 F H σ ρ fr en Q h => r F0 H0 F H σ ρ fr en _ ?_⟩
  refine EG.bindB (k := fun b => if b then .ok (.val (.bl true)) else fb ρ) h fun b eb F' H' x h' => ⟨b, rfl, ?_⟩
  cases b with
  | true => rw [if_pos rfl]; exact h' _ F' H' [] (Ex.refl x.sub) fr_nil ⟨rfl, rfl⟩
  | false => rw [if_neg Bool.false_ne_true]; exact s F0 H0 F' H' σ ρ fr (en.ext x) Q h'
theorem de_not (ha : DE X E a fa) : DE X E (.UnaryOp .Not a pos) (dNotV fa) := by
  obtain ⟨t, p, r⟩ := ha.run
  refine ⟨tNotV t, pe_not p, fun F0 H0 F H σ ρ fr en Q h => r F0 H0 F H σ ρ fr en _ ?_⟩
  refine EG.bindB (k := fun b => .ok (.val (.bl (!b)))) h fun b eb F' H' x h' => ⟨b, rfl, ?_⟩
  exact h' _ F' H' [] (Ex.refl x.sub) fr_nil ⟨rfl, rfl⟩
def dIfE (c : Ev → Res Bool) (f g : Ev → Res RV) : Ev → Res RV := fun ρ => do
  let b ← c ρ
  if b then f ρ else g ρ
theorem de_if {c : Expr} {gc : Ev → Res Bool} (hc : DT X E c gc) (ha : DE X E a fa) (hb : DE X E b fb) : DE X E (.IfExp c a b pos) (dIfE gc fa fb) := by
  obtain ⟨tc, pc, rc⟩ := hc.run
  obtain ⟨t, p, r⟩ := ha.run
  obtain ⟨u, q, s⟩ := hb.run
  refine ⟨tIf tc t u, pe_ifExp pc p q, fun F0 H0 F H σ ρ fr en Q h => rc F0 H0 F H σ ρ fr en _ ?_⟩
  unfold dIfE at h
  cases ec : gc ρ with
  | bad => rw [ec] at h; exact h
  | exc c => rw [ec] at h; exact h
  | ok b =>
    rw [ec] at h
    simp only [ok_bind] at h
    intro F' H' x
    cases b with
    | true => rw [if_pos rfl]; exact r F0 H0 F' H' σ ρ fr (en.ext x) Q (EG.after h x)
    | false => rw [if_neg Bool.false_ne_true]; exact s F0 H0 F' H' σ ρ fr (en.ext x) Q (EG.after h x)
end
end Dl
set_option Elab.async false
set_option linter.all false
set_option maxRecDepth 100000
set_option maxHeartbeats 4000000
/- D-layer 5: the operators' tree functions and that they are met. -/
namespace Dl
open PySem L2

/-- a condition that no reduction looks into (an open number against a great one would run deep) -/
noncomputable def clD (P : Prop) : Bool := @decide P (Classical.propDecidable P)
@[simp] theorem clD_eq {P : Prop} : clD P = true ↔ P := by unfold clD; exact @decide_eq_true_iff P (Classical.propDecidable P)
theorem of_clD {P : Prop} (h : clD P = true) : P := clD_eq.mp h
theorem clD_of {P : Prop} (h : P) : clD P = true := clD_eq.mpr h
def fits (n : Nat) : Bool := decide (n ≤ sizeLine)
theorem fits_le {n : Nat} (h : fits n = true) : n ≤ sizeLine := of_decide_eq_true h
theorem fits_of {n : Nat} (h : n ≤ 1000000) : fits n = true := decide_eq_true (by rw [sizeLine_eq]; omega)

/-! ### int, text, tuple, list: + -/
def gAdd : D → D → Res D
  | .int i, .int j => .ok (.int (i + j))
  | .str x, .str y => if fits (x.length + y.length) then .ok (.str (x ++ y)) else .bad
  | .tup xs, .tup ys => if noOwnL xs && noOwnL ys && fits (xs.length + ys.length) then .ok (.tup (xs ++ ys)) else .bad
  | .lst _ xs, .lst _ ys => if noOwnL xs && noOwnL ys && fits (xs.length + ys.length) then .ok (.lst true (xs ++ ys)) else .bad
  | _, _ => .bad
def rCatR : R2 := fun x y H Q => ∃ l b xs zs, x = .ref l ∧ y = .ref b ∧ Rd H l (.lst xs) ∧ Rd H b (.lst zs) ∧ xs.length + zs.length ≤ sizeLine ∧ ∀ p, H p = none → Q (.ref p) (upd H p (.lst (xs ++ zs)))
section
variable {X : Cx}
theorem op_catR : OpR X (binaryOp .Add) rCatR := by
  intro pins s σ H x y v u Q I rx ry ⟨l, b, xs, zs, ex, ey, h1, h2, hz, q⟩
  subst ex ey
  cases rx
  cases ry
  obtain ⟨z1, i1, n1, r1, g1⟩ := h1.ok I.hok
  obtain ⟨z2, i2, n2, r2, g2⟩ := h2.ok I.hok
  have l1 := r1.length
  have l2 := r2.length
  have en : i1.toArray ++ i2.toArray = (i1 ++ i2).toArray := by simp
  refine PySem.P.add_list g1 g2 ?_ (by simp only [List.size_toArray]; omega)
  rw [en]
  exact ⟨.ref _, _, I.lnew (t' := s.toks) (r1.append r2) (by simp only [List.length_append]; omega), rfl, q _ I.fresh⟩
theorem noOwnL_append {xs ys : List D} (h : noOwnL xs = true) (k : noOwnL ys = true) : noOwnL (xs ++ ys) = true := by
  rw [noOwnL_all] at h k ⊢
  rw [List.all_append, h, k]; rfl
theorem gAdd_np : ∀ a b c, gAdd a b ≠ .exc c := by
  intro a b c h
  unfold gAdd at h
  split at h
  · cases h
  · split at h <;> cases h
  · split at h <;> cases h
  · split at h <;> cases h
  · cases h
theorem rule_add : BinRule X .Add gAdd := by
  refine ⟨⟨_, op_add.or (op_add_str.or (op_catA.or op_catR)), ?_⟩, gAdd_np⟩
  intro F H x y dx dy f1 f2 Q s rx ry d e q
  unfold gAdd at e
  split at e
  · rename_i i j
    cases e
    exact .inl ⟨i, j, rx.1, ry.1, q _ F H [] (Ex.refl s) fr_nil ⟨rfl, rfl⟩⟩
  · rename_i a b
    split at e
    · rename_i c
      cases e
      exact .inr (.inl ⟨a, b, rx.1, ry.1, fits_le c, q _ F H [] (Ex.refl s) fr_nil ⟨rfl, rfl⟩⟩)
    · cases e
  · rename_i xs ys
    split at e
    · rename_i c
      cases e
      simp only [Bool.and_eq_true] at c
      obtain ⟨a, vs, e1, h1, h2, h3⟩ := Rp.sqT s rx
      obtain ⟨b, ws, e2, k1, k2, k3⟩ := Rp.sqT s ry
      have p1 := h3.plain c.1.1
      have p2 := k3.plain c.1.2
      refine .inr (.inr (.inl ⟨a, b, vs, ws, e1, e2, h1, k1, by rw [← h3.length, ← k3.length]; exact fits_le c.2, fun ev => ?_, fun _ ew => ?_, fun _ _ p hp => ?_⟩))
      · have ex : xs = [] := List.eq_nil_of_length_eq_zero (by rw [h3.length, ev]; rfl)
        subst ex
        exact q _ F H [] (Ex.refl s) fr_nil ⟨b, ws, rfl, k2, p2⟩
      · have ey : ys = [] := List.eq_nil_of_length_eq_zero (by rw [k3.length, ew]; rfl)
        subst ey
        refine q _ F H [] (Ex.refl s) fr_nil ⟨a, vs, rfl, h2, ?_⟩
        rw [List.append_nil]; exact p1
      · refine q _ _ _ [] (ex_tup s hp (vs ++ ws)) fr_nil (rp_tup s hp (p1.append p2) fun _ z => nomatch z)
    · cases e
  · rename_i o1 xs o2 ys
    split at e
    · rename_i c
      cases e
      simp only [Bool.and_eq_true] at c
      obtain ⟨a, vs, g1, e1, h1, h3, _⟩ := Rp.rdL s rx
      obtain ⟨b, ws, g2, e2, k1, k3, _⟩ := Rp.rdL s ry
      have p1 := h3.plain c.1.1
      have p2 := k3.plain c.1.2
      refine .inr (.inr (.inr ⟨a, b, vs, ws, e1, e2, h1, k1, by rw [← h3.length, ← k3.length]; exact fits_le c.2, fun p hp => ?_⟩))
      exact q _ F _ [p] (ex_own s hp _) (fr_own s hp) (rp_lst hp (p1.append p2) fun _ z => nomatch z)
    · cases e
  · cases e

/-! ### -, *, //, %, ** of ints -/
def gSub : D → D → Res D
  | .int i, .int j => .ok (.int (i - j))
  | _, _ => .bad
noncomputable def gDiv : D → D → Res D
  | .int i, .int j => if clD (0 < j ∧ j < 1073741824) then .ok (.int (i / j)) else .bad
  | _, _ => .bad
noncomputable def gMod : D → D → Res D
  | .int i, .int j => if clD (0 < j) then .ok (.int (i % j)) else .bad
  | _, _ => .bad
noncomputable def gPow : D → D → Res D
  | .int i, .int j => if clD (0 ≤ j ∧ j ≤ 1000000 ∧ i.natAbs < 2 ^ 64) then .ok (.int (i ^ j.toNat)) else .bad
  | _, _ => .bad
theorem rule_sub : BinRule X .Sub gSub := by
  refine ⟨⟨_, op_sub, ?_⟩, ?_⟩
  · intro F H x y dx dy f1 f2 Q s rx ry d e q
    unfold gSub at e
    split at e
    · cases e
      exact ⟨_, _, rx.1, ry.1, q _ F H [] (Ex.refl s) fr_nil ⟨rfl, rfl⟩⟩
    · cases e
  · intro a b c h
    unfold gSub at h
    split at h <;> cases h
theorem rule_div : BinRule X .FloorDiv gDiv := by
  refine ⟨⟨_, op_fdiv, ?_⟩, ?_⟩
  · intro F H x y dx dy f1 f2 Q s rx ry d e q
    unfold gDiv at e
    split at e
    · split at e
      · rename_i c
        cases e
        have c' : _ ∧ _ := of_clD c
        exact ⟨_, _, rx.1, ry.1, c', q _ F H [] (Ex.refl s) fr_nil ⟨rfl, rfl⟩⟩
      · cases e
    · cases e
  · intro a b c h
    unfold gDiv at h
    split at h
    · split at h <;> cases h
    · cases h
theorem rule_mod : BinRule X .Mod gMod := by
  refine ⟨⟨_, op_mod, ?_⟩, ?_⟩
  · intro F H x y dx dy f1 f2 Q s rx ry d e q
    unfold gMod at e
    split at e
    · split at e
      · rename_i c
        cases e
        exact ⟨_, _, rx.1, ry.1, of_clD c, q _ F H [] (Ex.refl s) fr_nil ⟨rfl, rfl⟩⟩
      · cases e
    · cases e
  · intro a b c h
    unfold gMod at h
    split at h
    · split at h <;> cases h
    · cases h
theorem rule_pow : BinRule X .Pow gPow := by
  refine ⟨⟨_, op_pow, ?_⟩, ?_⟩
  · intro F H x y dx dy f1 f2 Q s rx ry d e q
    unfold gPow at e
    split at e
    · split at e
      · rename_i c
        cases e
        have c' : _ ∧ _ := of_clD c
        exact ⟨_, _, rx.1, ry.1, c', q _ F H [] (Ex.refl s) fr_nil ⟨rfl, rfl⟩⟩
      · cases e
    · cases e
  · intro a b c h
    unfold gPow at h
    split at h
    · split at h <;> cases h
    · cases h

/-! ### * : ints, a list or a text so many times -/
noncomputable def sm (i : Int) : Bool := clD (-(2 ^ 64) < i ∧ i < 2 ^ 64)
noncomputable def gMul : D → D → Res D
  | .int i, .int j => if sm i || sm j then .ok (.int (i * j)) else .bad
  | .lst _ xs, .int k => if noOwnL xs && clD (-(2 ^ 63) ≤ k ∧ k < 2 ^ 63) && fits (xs.length * k.toNat) then .ok (.lst true (List.replicate k.toNat xs).flatten) else .bad
  | .str x, .int k => if clD (-(2 ^ 63) ≤ k ∧ k < 2 ^ 31) && fits (x.length * k.toNat) then .ok (.str ⟨((List.replicate k.toNat x.cps.toList).flatten).toArray⟩) else .bad
  | _, _ => .bad
def rRepR : R2 := fun x y H Q => ∃ l k xs, x = .ref l ∧ y = .int k ∧ Rd H l (.lst xs) ∧ -(2 ^ 63) ≤ k ∧ k < 2 ^ 63 ∧ xs.length * k.toNat ≤ sizeLine ∧ ∀ p, H p = none → Q (.ref p) (upd H p (.lst (List.replicate k.toNat xs).flatten))
theorem op_repR : OpR X (binaryOp .Mult) rRepR := by
  intro pins s σ H x y v u Q I rx ry ⟨l, k, xs, ex, ey, hH, b1, b2, hz, q⟩
  subst ex ey
  cases rx
  obtain ⟨t, eu⟩ := ry
  subst eu
  obtain ⟨z, its, n, r, e⟩ := hH.ok I.hok
  have hl := r.length
  have c1 : its.toArray.size * k.toNat ≤ sizeLine := by simp only [List.size_toArray]; rw [← hl]; exact hz
  have c2 : ¬ its.toArray.size * k.toNat > (2 ^ 63 - 1) / 8 := by
    have := (show (sizeLine : Nat) ≤ (2 ^ 63 - 1) / 8 by decide)
    omega
  have c3 : ¬ (!Builtin.List.listFitsIndex k) = true := by
    rw [fitsIndex_both b1 b2]; exact Bool.false_ne_true
  have c4 : ¬ Builtin.List.listTooLong (its.toArray.size * k.toNat) = true := by
    rw [notLongL c1]; exact Bool.false_ne_true
  have made : List.foldl (fun a b => a ++ b) #[] (List.replicate (if its.toArray.isEmpty = true then 0 else k.toNat) its.toArray) = ((List.replicate k.toNat its).flatten).toArray := by
    have fl : ∀ m : Nat, List.foldl (fun a b => a ++ b) #[] (List.replicate m its.toArray) = ((List.replicate m its).flatten).toArray := fun m => by
      have w := foldl_rep its m []
      rw [List.nil_append] at w
      exact w
    rw [fl]
    cases its with
    | nil => simp
    | cons a r' => rw [if_neg (by simp)]
  refine wpAny_binaryOp_repeat_ref (T := "list") (U := "int") (by decide) ⟨_, e, rfl⟩ (fun s' => typeIs_int s' k t) noFill_list_mul F.fills_int_mul F.slot_int_rmul repeat_list F.slot_int_index.lookup ?_
  refine call_meets F.slot_int_rmul (typeIs_int s k t) F.entry_int_rmul (F.args_int_rmul_2 _ _) (int___rmul___int_list k t l its.toArray n) ⟨e, rfl, ⟨_, e, rfl⟩, ?_⟩
  refine call_meets F.slot_list_mul ⟨_, e, rfl⟩ F.entry_list_mul (F.args_list_mul_2 _ _) (AutoListH.list___mul___list_int_3 l its.toArray n k t c3 c2 c4) ⟨e, ?_⟩
  rw [made]
  exact ⟨.ref _, _, I.lnew (t' := s.toks) (r.rep k.toNat) (by rw [PyProof.Rows.lm_len_rep_flat, Nat.mul_comm]; exact hz), rfl, q _ I.fresh⟩

def rRepS : R2 := fun x y H Q => ∃ z k, x = .str z ∧ y = .int k ∧ -(2 ^ 63) ≤ k ∧ k < 2 ^ 31 ∧ z.length * k.toNat ≤ sizeLine ∧ Q (.str ⟨((List.replicate k.toNat z.cps.toList).flatten).toArray⟩) H
theorem rep_cps (z : Str) (m : Nat) : (List.replicate m z.cps).foldl (fun a b => a ++ b) #[] = ((List.replicate m z.cps.toList).flatten).toArray := by
  have go : ∀ (m : Nat) (acc : Array Nat), (List.replicate m z.cps).foldl (fun a b => a ++ b) acc = acc ++ ((List.replicate m z.cps.toList).flatten).toArray := by
    intro m
    induction m with
    | zero => intro acc; simp
    | succ m ih =>
      intro acc
      rw [List.replicate_succ, List.foldl_cons, ih, List.replicate_succ, List.flatten_cons]
      have e : z.cps = z.cps.toList.toArray := by simp
      rw [Array.append_assoc]
      congr 1
      apply Array.toList_inj.mp
      simp
  rw [go]; simp
theorem op_repS : OpR X (binaryOp .Mult) rRepS := by
  intro pins s σ H x y v u Q I rx ry ⟨z, k, ex, ey, b1, b2, hz, q⟩
  subst ex ey
  obtain ⟨t, rfl⟩ := rx
  obtain ⟨t', rfl⟩ := ry
  have sl := sizeLine_eq
  have d1 : ¬ k < -(2 ^ 63) := by omega
  have d2 : ¬ k ≥ 2 ^ 63 := by
    have : (2 : Int) ^ 31 ≤ 2 ^ 63 := by decide
    omega
  refine PySem.P.mul_str (by rw [decide_eq_false d1, decide_eq_false d2]; rfl) (fun k1 _ => ?_) (fun k1 _ => ?_) ?_
  · have hk : (0 : Int) < k := by omega
    have hzl : ((z.length : Nat) : Int) * k ≤ 16777216 := by
      have e : k = ((k.toNat : Nat) : Int) := by omega
      rw [e, ← Int.natCast_mul]
      have := hz
      rw [sl] at this
      exact Int.ofNat_le.mpr this
    have : ((z.length : Nat) : Int) ≤ (2 ^ 63 - 1) / k := by
      apply Int.le_ediv_of_mul_le hk
      have : (16777216 : Int) ≤ 2 ^ 63 - 1 := by decide
      omega
    omega
  · show PySem.Builtin.Str.tooLong _ = false
    unfold PySem.Builtin.Str.tooLong
    exact decide_eq_false (by omega)
  · by_cases c1 : k < 1
    · rw [if_pos c1]
      have e0 : k.toNat = 0 := by omega
      rw [e0] at q
      exact ⟨by decide, .str _, H, I.tok _, ⟨_, rfl⟩, q⟩
    · rw [if_neg c1]
      by_cases c2 : (k == 1 || z.length == 0) = true
      · rw [if_pos c2]
        refine ⟨.str z, H, I, ⟨t, rfl⟩, ?_⟩
        have ez : (⟨((List.replicate k.toNat z.cps.toList).flatten).toArray⟩ : Str) = z := by
          apply TL.ext_tl
          rw [TL.tl_mk]
          simp only [Bool.or_eq_true, beq_iff_eq] at c2
          rcases c2 with c2 | c2
          · subst c2; simp [TL.tl]
          · have : z.cps.toList = [] := (TL.len0_tl z).mp c2
            rw [this]
            simp [TL.tl, this]
        rw [ez] at q
        exact q
      · rw [if_neg c2]
        refine ⟨?_, .str _, H, I.tok _, ⟨_, rfl⟩, ?_⟩
        · rw [rep_cps]
          show (List.toArray _).size ≤ _
          rw [List.size_toArray, PyProof.Rows.lm_len_rep_flat]
          have : z.cps.toList.length = z.length := by simp [Str.length]
          rw [this, Nat.mul_comm]; exact hz
        · rw [rep_cps]; exact q
theorem noOwnL_rep {xs : List D} (h : noOwnL xs = true) : ∀ m : Nat, noOwnL ((List.replicate m xs).flatten) = true
  | 0 => rfl
  | m + 1 => by rw [List.replicate_succ, List.flatten_cons]; exact noOwnL_append h (noOwnL_rep h m)
theorem rpL_rep {K : PySem.W.Frag} {F H : Hp} {xs : List D} {vs : List V} (h : RpL K F H xs vs []) : ∀ m : Nat, RpL K F H ((List.replicate m xs).flatten) ((List.replicate m vs).flatten) []
  | 0 => ⟨rfl, rfl⟩
  | m + 1 => by
    rw [List.replicate_succ, List.flatten_cons, List.replicate_succ, List.flatten_cons]
    exact h.append (rpL_rep h m)
theorem rule_mul : BinRule X .Mult gMul := by
  refine ⟨⟨_, op_mul.or (op_repR.or op_repS), ?_⟩, ?_⟩
  · intro F H x y dx dy f1 f2 Q s rx ry d e q
    unfold gMul at e
    split at e
    · split at e
      · rename_i c
        cases e
        simp only [Bool.or_eq_true, sm, clD_eq] at c
        exact .inl ⟨_, _, rx.1, ry.1, c, q _ F H [] (Ex.refl s) fr_nil ⟨rfl, rfl⟩⟩
      · cases e
    · split at e
      · rename_i c
        cases e
        simp only [Bool.and_eq_true, clD_eq] at c
        obtain ⟨a, vs, g1, e1, h1, h3, _⟩ := Rp.rdL s rx
        have p1 := h3.plain c.1.1
        refine .inr (.inl ⟨a, _, vs, e1, ry.1, h1, c.1.2.1, c.1.2.2, by rw [← h3.length]; exact fits_le c.2, fun p hp => ?_⟩)
        exact q _ F _ [p] (ex_own s hp _) (fr_own s hp) (rp_lst hp (rpL_rep p1 _) fun _ z => nomatch z)
      · cases e
    · split at e
      · rename_i c
        cases e
        simp only [Bool.and_eq_true, clD_eq] at c
        exact .inr (.inr ⟨_, _, rx.1, ry.1, c.1.1, c.1.2, fits_le c.2, q _ F H [] (Ex.refl s) fr_nil ⟨rfl, rfl⟩⟩)
      · cases e
    · cases e
  · intro a b c h
    unfold gMul at h
    split at h
    · split at h <;> cases h
    · split at h <;> cases h
    · split at h <;> cases h
    · cases h

/-! ### comparisons -/
def gLt : D → D → Res D
  | .int i, .int j => .ok (.bl (decide (i < j)))
  | _, _ => .bad
def gLe : D → D → Res D
  | .int i, .int j => .ok (.bl (decide (i ≤ j)))
  | _, _ => .bad
def gGt : D → D → Res D
  | .int i, .int j => .ok (.bl (decide (j < i)))
  | _, _ => .bad
def gGe : D → D → Res D
  | .int i, .int j => .ok (.bl (decide (j ≤ i)))
  | _, _ => .bad
theorem cmpI {op : CmpOp} {p : Int → Int → Bool} {g : D → D → Res D} (h : OpR X (compareOp op) (rI0 fun i j => .bl (p i j))) (hg : ∀ a b d, g a b = .ok d → ∃ i j, a = .int i ∧ b = .int j ∧ d = .bl (p i j)) (np : ∀ a b c, g a b ≠ .exc c) : CmpRule X op g := by
  refine ⟨⟨_, h, fun F H x y dx dy f1 f2 Q s rx ry d e q => ?_⟩, np⟩
  obtain ⟨i, j, rfl, rfl, rfl⟩ := hg _ _ _ e
  exact ⟨i, j, rx.1, ry.1, q _ F H [] (Ex.refl s) fr_nil ⟨rfl, rfl⟩⟩
theorem rule_lt : CmpRule X .Lt gLt := cmpI op_lt (fun a b d e => by unfold gLt at e; split at e <;> cases e; exact ⟨_, _, rfl, rfl, rfl⟩) fun a b c h => by unfold gLt at h; split at h <;> cases h
theorem rule_le : CmpRule X .LtE gLe := cmpI op_le (fun a b d e => by unfold gLe at e; split at e <;> cases e; exact ⟨_, _, rfl, rfl, rfl⟩) fun a b c h => by unfold gLe at h; split at h <;> cases h
theorem rule_gt : CmpRule X .Gt gGt := cmpI op_gt (fun a b d e => by unfold gGt at e; split at e <;> cases e; exact ⟨_, _, rfl, rfl, rfl⟩) fun a b c h => by unfold gGt at h; split at h <;> cases h
theorem rule_ge : CmpRule X .GtE gGe := cmpI op_ge (fun a b d e => by unfold gGe at e; split at e <;> cases e; exact ⟨_, _, rfl, rfl, rfl⟩) fun a b c h => by unfold gGe at h; split at h <;> cases h

/-- == of data -/
def eqD (dx dy : D) : Option Bool := (toP dx).bind fun p => (toP dy).bind fun q => if SeqAt.shaped p && SeqAt.shaped q then some (PyData.eqv p q) else none
def gEq (dx dy : D) : Res D := match eqD dx dy with
  | some b => .ok (.bl b)
  | none => .bad
def gNe (dx dy : D) : Res D := match eqD dx dy with
  | some b => .ok (.bl (!b))
  | none => .bad
theorem eqD_some {dx dy : D} {b : Bool} (h : eqD dx dy = some b) : ∃ p q, toP dx = some p ∧ toP dy = some q ∧ SeqAt.shaped p = true ∧ SeqAt.shaped q = true ∧ b = PyData.eqv p q := by
  unfold eqD at h
  obtain ⟨p, h1, h⟩ := Option.bind_eq_some_iff.mp h
  obtain ⟨q, h2, h⟩ := Option.bind_eq_some_iff.mp h
  split at h
  · rename_i c
    simp only [Bool.and_eq_true] at c
    exact ⟨p, q, h1, h2, c.1, c.2, (Option.some.inj h).symm⟩
  · cases h
theorem rule_eq (hu : X.A.units + 64 < cLine) : CmpRule X .Eq gEq := by
  refine ⟨⟨_, op_eqD hu, fun F H x y dx dy f1 f2 Q s rx ry d e k => ?_⟩, fun a b c h => by unfold gEq at h; split at h <;> cases h⟩
  unfold gEq at e
  split at e
  · rename_i b hb
    cases e
    obtain ⟨p, q, h1, h2, h3, h4, rfl⟩ := eqD_some hb
    exact ⟨p, q, Rp.dp s _ _ _ _ rx h1, Rp.dp s _ _ _ _ ry h2, h3, h4, k _ F H [] (Ex.refl s) fr_nil ⟨rfl, rfl⟩⟩
  · cases e
theorem rule_ne (hu : X.A.units + 64 < cLine) : CmpRule X .NotEq gNe := by
  refine ⟨⟨_, op_neD hu, fun F H x y dx dy f1 f2 Q s rx ry d e k => ?_⟩, fun a b c h => by unfold gNe at h; split at h <;> cases h⟩
  unfold gNe at e
  split at e
  · rename_i b hb
    cases e
    obtain ⟨p, q, h1, h2, h3, h4, rfl⟩ := eqD_some hb
    exact ⟨p, q, Rp.dp s _ _ _ _ rx h1, Rp.dp s _ _ _ _ ry h2, h3, h4, k _ F H [] (Ex.refl s) fr_nil ⟨rfl, rfl⟩⟩
  · cases e
/-- is None, is True .. -/
def isNone : D → Option Bool
  | .non => some true
  | .dead => none
  | _ => some false
theorem isNone_v {K : PySem.W.Frag} {F H : Hp} {d : D} {v : V} {fp : List Addr} (r : Rp K F H d v fp) {b : Bool} (h : isNone d = some b) : decide (v = .non) = b := by
  cases d with
  | non => cases h; rw [r.1]; rfl
  | bl _ => cases h; rw [r.1]; rfl
  | int _ => cases h; rw [r.1]; rfl
  | str _ => cases h; rw [r.1]; rfl
  | tup _ => cases h; obtain ⟨a, vs, e, _⟩ := r; rw [e]; rfl
  | lst o _ => cases h; cases o; (obtain ⟨_, a, vs, e, _⟩ := r; rw [e]; rfl); (obtain ⟨a, vs, f, e, _⟩ := r; rw [e]; rfl)
  | dk o _ _ => cases h; cases o; (obtain ⟨_, a, vs, e, _⟩ := r; rw [e]; rfl); (obtain ⟨a, vs, f, e, _⟩ := r; rw [e]; rfl)
  | dt o _ _ => cases h; cases o; (obtain ⟨_, a, vs, e, _⟩ := r; rw [e]; rfl); (obtain ⟨a, vs, f, e, _⟩ := r; rw [e]; rfl)
  | scr _ => cases h; obtain ⟨_, a, e, _⟩ := r; rw [e]; rfl
  | dead => cases h
def gIs : D → D → Res D
  | .bl a, .bl b => .ok (.bl (decide (a = b)))
  | d, .non => match isNone d with
    | some b => .ok (.bl b)
    | none => .bad
  | .non, .bl _ => .ok (.bl false)
  | _, _ => .bad
def gIsNot : D → D → Res D
  | .bl a, .bl b => .ok (.bl (!decide (a = b)))
  | d, .non => match isNone d with
    | some b => .ok (.bl (!b))
    | none => .bad
  | .non, .bl _ => .ok (.bl true)
  | _, _ => .bad

/-- None, where a truth value is asked for -/
def rIsNB (neg : Bool) : R2 := fun x y H Q => x = .non ∧ (∃ b : Bool, y = .bl b) ∧ Q (.bl neg) H
theorem op_isNB : OpR X (compareOp .Is) (rIsNB false) := by
  intro pins s σ H x y v u Q I rx ry ⟨ex, ⟨b, ey⟩, q⟩
  subst ex ey
  cases (show v = Value.none from rx)
  cases (show u = Value.bool b from ry)
  exact wpAny_is_other rfl (fun z => Value.noConfusion z) ⟨.bl false, H, I, rfl, q⟩
theorem op_notNB : OpR X (compareOp .IsNot) (rIsNB true) := by
  intro pins s σ H x y v u Q I rx ry ⟨ex, ⟨b, ey⟩, q⟩
  subst ex ey
  cases (show v = Value.none from rx)
  cases (show u = Value.bool b from ry)
  exact wpAny_isNot_other rfl (fun z => Value.noConfusion z) ⟨.bl true, H, I, rfl, q⟩
theorem rule_is : CmpRule X .Is gIs := by
  refine ⟨⟨_, op_isBl.or (op_isN.or op_isNB), fun F H x y dx dy f1 f2 Q s rx ry d e k => ?_⟩, fun a b c h => by unfold gIs at h; split at h; cases h; (split at h <;> cases h); cases h; cases h⟩
  unfold gIs at e
  split at e
  · cases e
    exact .inl ⟨_, _, rx.1, ry.1, k _ F H [] (Ex.refl s) fr_nil ⟨rfl, rfl⟩⟩
  · split at e
    · rename_i b hb
      cases e
      refine .inr (.inl ⟨ry.1, ?_⟩)
      rw [isNone_v rx hb]
      exact k _ F H [] (Ex.refl s) fr_nil ⟨rfl, rfl⟩
    · cases e
  · cases e
    exact .inr (.inr ⟨rx.1, ⟨_, ry.1⟩, k _ F H [] (Ex.refl s) fr_nil ⟨rfl, rfl⟩⟩)
  · cases e
theorem rule_isnot : CmpRule X .IsNot gIsNot := by
  refine ⟨⟨_, op_notBl.or (op_notN.or op_notNB), fun F H x y dx dy f1 f2 Q s rx ry d e k => ?_⟩, fun a b c h => by unfold gIsNot at h; split at h; cases h; (split at h <;> cases h); cases h; cases h⟩
  unfold gIsNot at e
  split at e
  · cases e
    exact .inl ⟨_, _, rx.1, ry.1, k _ F H [] (Ex.refl s) fr_nil ⟨rfl, rfl⟩⟩
  · split at e
    · rename_i b hb
      cases e
      refine .inr (.inl ⟨ry.1, ?_⟩)
      rw [isNone_v rx hb]
      exact k _ F H [] (Ex.refl s) fr_nil ⟨rfl, rfl⟩
    · cases e
  · cases e
    exact .inr (.inr ⟨rx.1, ⟨_, ry.1⟩, k _ F H [] (Ex.refl s) fr_nil ⟨rfl, rfl⟩⟩)
  · cases e
end
end Dl
set_option Elab.async false
set_option linter.all false
set_option maxRecDepth 100000
set_option maxHeartbeats 4000000
/- D-layer 6: keys, in, subscripts, slices, displays, calls of built-ins. -/
namespace Dl
open PySem L2

/-! ### keys of dicts -/
def keyOf : D → Option Key
  | .int i => some (.inl i)
  | .str s => some (.inr s)
  | _ => none
def keysOf : List D → Option (List Key)
  | [] => some []
  | d :: r => (keyOf d).bind fun k => (keysOf r).map fun q => k :: q
/-- the key of a dict with tuple keys -/
def tkeyOf : D → Option (List Key)
  | .tup ds => keysOf ds
  | _ => none
/-- the place of a key -/
def posK {κ : Type} [DecidableEq κ] : List κ → κ → Option Nat
  | [], _ => none
  | x :: r, k => if x = k then some 0 else (posK r k).map (· + 1)
theorem posK_cons {κ : Type} [DecidableEq κ] (x : κ) (r : List κ) (k : κ) : posK (x :: r) k = if x = k then some 0 else (posK r k).map (· + 1) := rfl
theorem posK_lt {κ : Type} [DecidableEq κ] : ∀ {ks : List κ} {k : κ} {j : Nat}, posK ks k = some j → ks[j]? = some k
  | [], k, j, h => by cases h
  | x :: r, k, j, h => by
    unfold posK at h
    split at h
    · rename_i e
      cases h
      rw [e]; rfl
    · obtain ⟨i, e1, e2⟩ := Option.map_eq_some_iff.mp h
      subst e2
      simpa using posK_lt e1
theorem valV_zip {κ : Type} [DecidableEq κ] : ∀ (ks : List κ) (vs : List V) (k : κ), ks.length = vs.length → valV (ks.zip vs) k = (posK ks k).bind fun j => vs[j]?
  | [], vs, k, l => rfl
  | x :: r, [], k, l => by cases l
  | x :: r, v :: vs, k, l => by
    by_cases e : x = k
    · rw [show (x :: r).zip (v :: vs) = (x, v) :: r.zip vs from rfl, valV_pos (p := (x, v)) e]
      unfold posK
      rw [if_pos e]; rfl
    · rw [show (x :: r).zip (v :: vs) = (x, v) :: r.zip vs from rfl, valV_neg (p := (x, v)) e, valV_zip r vs k (by simpa using l)]
      rw [posK_cons, if_neg e]
      cases posK r k with
      | none => rfl
      | some j => simp
theorem posK_none {κ : Type} [DecidableEq κ] : ∀ {ks : List κ} {k : κ}, posK ks k = none ↔ k ∉ ks
  | [], k => by simp [posK]
  | x :: r, k => by
    unfold posK
    split
    · rename_i e; simp [e]
    · rename_i e
      rw [Option.map_eq_none_iff, posK_none]
      simp [show ¬ k = x from fun q => e q.symm]
section
variable {K : PySem.W.Frag} {F H : Hp}
theorem key_rp {d : D} {v : V} {fp : List Addr} {k : Key} (r : Rp K F H d v fp) (h : keyOf d = some k) : v = kV k := by
  cases d with
  | int i => cases h; exact r.1
  | str s => cases h; exact r.1
  | _ => cases h
theorem keys_rp : ∀ {ds : List D} {vs : List V} {fp : List Addr} {ks : List Key}, RpL K F H ds vs fp → keysOf ds = some ks → vs = ks.map kV
  | [], vs, fp, ks, r, h => by rw [r.1, ← Option.some.inj h]; rfl
  | d :: ds, vs, fp, ks, r, h => by
    obtain ⟨v, t, f, g, e1, e2, h1, h2⟩ := r
    obtain ⟨k, ek, h⟩ := Option.bind_eq_some_iff.mp (show (keyOf d).bind _ = some ks from h)
    obtain ⟨q, eq, e⟩ := Option.map_eq_some_iff.mp h
    rw [e1, ← e, key_rp h1 ek, keys_rp h2 eq]; rfl
/-- the reading of a dict by a tree's key -/
theorem dk_get (s : Same F H) {o : Bool} {ks : List Key} {ds : List D} {v y : V} {f1 f2 : List Addr} {dy : D} {k : Key} (r : Rp K F H (.dk o ks ds) v f1) (ry : Rp K F H dy y f2) (h : keyOf dy = some k) :
    ∃ a vs f, v = .ref a ∧ RpL K F H ds vs f ∧ (∃ c, f1 = c ++ f) ∧ ks.length = vs.length ∧ DGet H a y ((posK ks k).bind fun j => vs[j]?) := by
  have ey := key_rp ry h
  cases o with
  | false =>
    obtain ⟨e0, a, vs, e, q, ⟨l, _⟩, rr⟩ := r
    exact ⟨a, vs, [], e, rr, ⟨f1, by simp⟩, l, .inl ⟨_, k, rd_same s q, ey, (valV_zip ks vs k l).symm⟩⟩
  | true =>
    obtain ⟨a, vs, f, e, q, ⟨l, _⟩, e2, rr⟩ := r
    exact ⟨a, vs, f, e, rr, ⟨[a], by rw [e2]; rfl⟩, l, .inl ⟨_, k, .inl q, ey, (valV_zip ks vs k l).symm⟩⟩
theorem dt_get (s : Same F H) {o : Bool} {ks : List (List Key)} {ds : List D} {v y : V} {f1 f2 : List Addr} {dy : D} {k : List Key} (r : Rp K F H (.dt o ks ds) v f1) (ry : Rp K F H dy y f2) (h : tkeyOf dy = some k) :
    ∃ a vs f, v = .ref a ∧ RpL K F H ds vs f ∧ (∃ c, f1 = c ++ f) ∧ ks.length = vs.length ∧ DGet H a y ((posK ks k).bind fun j => vs[j]?) := by
  cases dy with
  | tup es =>
    obtain ⟨b, ws, ey, hb, rb⟩ := ry
    have ek := keys_rp rb (show keysOf es = some k from h)
    subst ek
    cases o with
    | false =>
      obtain ⟨e0, a, vs, e, q, ⟨l, _⟩, rr⟩ := r
      exact ⟨a, vs, [], e, rr, ⟨f1, by simp⟩, l, .inr ⟨_, k, b, rd_same s q, ey, s _ _ hb, (valV_zip ks vs k l).symm⟩⟩
    | true =>
      obtain ⟨a, vs, f, e, q, ⟨l, _⟩, e2, rr⟩ := r
      exact ⟨a, vs, f, e, rr, ⟨[a], by rw [e2]; rfl⟩, l, .inr ⟨_, k, b, .inl q, ey, s _ _ hb, (valV_zip ks vs k l).symm⟩⟩
  | _ => cases h
end

/-! ### in, not in -/
def inD (x c : D) : Option Bool := match c with
  | .lst _ ys => (toP x).bind fun p => (toPL ys).bind fun q => if SeqAt.shaped p && SeqAt.shaped (.list q) then some (q.any fun z => PyData.eqv z p) else none
  | .tup ys => (toP x).bind fun p => (toPL ys).bind fun q => if SeqAt.shaped p && SeqAt.shaped (.tuple q) then some (q.any fun z => PyData.eqv z p) else none
  | .str z => match x with
    | .str y => match y.cps.toList with
      | [c] => some (decide (c ∈ z.cps.toList))
      | _ => none
    | _ => none
  | .dk _ ks _ => (keyOf x).map fun k => (posK ks k).isSome
  | .dt _ ks _ => (tkeyOf x).map fun k => (posK ks k).isSome
  | _ => none
def gIn (x c : D) : Res D := match inD x c with
  | some b => .ok (.bl b)
  | none => .bad
def gNotIn (x c : D) : Res D := match inD x c with
  | some b => .ok (.bl (!b))
  | none => .bad
def rInT (K : PySem.W.Frag) (neg : Bool) : R2 := fun x y H Q => ∃ d ds, Dp K H x d ∧ Dp K H y (.tuple ds) ∧ SeqAt.shaped d = true ∧ SeqAt.shaped (.tuple ds) = true ∧ Q (.bl (if neg then !ds.any (fun z => PyData.eqv z d) else ds.any fun z => PyData.eqv z d)) H
def rInK (neg : Bool) : R2 := fun y x H Q => ∃ a o, x = .ref a ∧ DGet H a y o ∧ Q (.bl (if neg then !o.isSome else o.isSome)) H
section
variable {X : Cx}
theorem shaped_tup_list {ds : List PyData} (h : SeqAt.shaped (.tuple ds) = true) : SeqAt.shaped (.list ds) = true := by
  simpa [SeqAt.shaped, PyData.canLay0, PyData.depth] using h
theorem op_inT (hu : X.A.units + 65 < cLine) : OpR X (compareOp .In) (rInT X.K false) := by
  intro pins s σ H x y v u Q I rx ry ⟨d, ds, hd, he, sd, se, q⟩
  obtain ⟨as, r1⟩ := Dp.reads I d x v hd rx
  obtain ⟨bs, r2⟩ := Dp.reads I (.tuple ds) y u he ry
  exact SeqAt.in_tuple_reads r2 r1 (SeqAt.canLay_of_shaped se) (SeqAt.canLay_of_shaped sd) (PyProof.Rows.room_in_shaped sd hu) ⟨.bl _, H, I, rfl, q⟩
theorem op_notInT (hu : X.A.units + 65 < cLine) : OpR X (compareOp .NotIn) (rInT X.K true) := by
  intro pins s σ H x y v u Q I rx ry ⟨d, ds, hd, he, sd, se, q⟩
  obtain ⟨as, r1⟩ := Dp.reads I d x v hd rx
  obtain ⟨bs, r2⟩ := Dp.reads I (.tuple ds) y u he ry
  exact SeqAt.notIn_tuple_reads r2 r1 (SeqAt.canLay_of_shaped se) (SeqAt.canLay_of_shaped sd) (PyProof.Rows.room_in_shaped sd hu) ⟨.bl _, H, I, rfl, q⟩
theorem op_inK (hu : X.A.units + 1 < cLine) : OpR X (compareOp .In) (rInK false) := by
  intro pins s σ H x y v u Q I rx ry ⟨a, o, e, g, q⟩
  subst e
  cases ry
  exact d_in hu I g rx fun s' I' => ⟨.bl _, H, I', rfl, q⟩
theorem op_notInK (hu : X.A.units + 1 < cLine) : OpR X (compareOp .NotIn) (rInK true) := by
  intro pins s σ H x y v u Q I rx ry ⟨a, o, e, g, q⟩
  subst e
  cases ry
  exact d_notIn hu I g rx fun s' I' => ⟨.bl _, H, I', rfl, q⟩
theorem some_bind_isSome {κ : Type} [DecidableEq κ] {ks : List κ} {vs : List V} {k : κ} (l : ks.length = vs.length) : ((posK ks k).bind fun j => vs[j]?).isSome = (posK ks k).isSome := by
  cases e : posK ks k with
  | none => rfl
  | some j =>
    have h := (List.getElem?_eq_some_iff.mp (posK_lt e)).1
    rw [l] at h
    simp [List.getElem?_eq_getElem h]
theorem in_met (hu : X.A.units + 65 < cLine) {F H : Hp} {x y : V} {dx dy : D} {f1 f2 : List Addr} {Q : VK} (s : Same F H) (rx : Rp X.K F H dx x f1) (ry : Rp X.K F H dy y f2) {b : Bool} (e : inD dx dy = some b) (neg : Bool)
    (q : Q (.bl (if neg then !b else b)) H) :
    (if neg then rNotInD X.K x y H Q else rInD X.K x y H Q) ∨ (rInT X.K neg x y H Q ∨ ((∃ (c : Nat) (z : Str), x = .str ⟨#[c]⟩ ∧ y = .str z ∧ Q (.bl (if neg then !decide (c ∈ z.cps.toList) else decide (c ∈ z.cps.toList))) H) ∨ rInK neg x y H Q)) := by
  unfold inD at e
  split at e
  · obtain ⟨p, h1, e⟩ := Option.bind_eq_some_iff.mp e
    obtain ⟨ps, h2, e⟩ := Option.bind_eq_some_iff.mp e
    split at e
    · rename_i c
      simp only [Bool.and_eq_true] at c
      have e := Option.some.inj e
      subst e
      refine .inl ?_
      have dx := Rp.dp s _ _ _ _ rx h1
      have dy := Rp.dp s _ _ _ (.list ps) ry (by show Option.map PyData.list (toPL _) = _; rw [h2]; rfl)
      cases neg with
      | true => exact ⟨p, ps, dx, dy, c.1, c.2, q⟩
      | false => exact ⟨p, ps, dx, dy, c.1, c.2, q⟩
    · cases e
  · obtain ⟨p, h1, e⟩ := Option.bind_eq_some_iff.mp e
    obtain ⟨ps, h2, e⟩ := Option.bind_eq_some_iff.mp e
    split at e
    · rename_i c
      simp only [Bool.and_eq_true] at c
      have e := Option.some.inj e
      subst e
      exact .inr (.inl ⟨p, ps, Rp.dp s _ _ _ _ rx h1, Rp.dp s _ _ _ (.tuple ps) ry (by show Option.map PyData.tuple (toPL _) = _; rw [h2]; rfl), c.1, c.2, q⟩)
    · cases e
  · split at e
    · split at e
      · rename_i y' _ c hc
        have e := Option.some.inj e
        subst e
        refine .inr (.inr (.inl ⟨c, _, ?_, ry.1, q⟩))
        rw [rx.1]
        have : y' = ⟨#[c]⟩ := TL.ext_tl (by rw [show TL.tl y' = y'.cps.toList from rfl, hc])
        rw [this]
      · cases e
    · cases e
  · obtain ⟨k, h1, e⟩ := Option.map_eq_some_iff.mp e
    obtain ⟨a, vs, f, ev, _, _, l, g⟩ := dk_get s ry rx h1
    refine .inr (.inr (.inr ⟨a, _, ev, g, ?_⟩))
    rw [some_bind_isSome l, e]; exact q
  · obtain ⟨k, h1, e⟩ := Option.map_eq_some_iff.mp e
    obtain ⟨a, vs, f, ev, _, _, l, g⟩ := dt_get s ry rx h1
    refine .inr (.inr (.inr ⟨a, _, ev, g, ?_⟩))
    rw [some_bind_isSome l, e]; exact q
  · cases e
theorem rule_in (hu : X.A.units + 65 < cLine) : CmpRule X .In gIn := by
  refine ⟨⟨_, (op_inD hu).or ((op_inT hu).or (op_in_sign.or (op_inK (by omega)))), fun F H x y dx dy f1 f2 Q s rx ry d e k => ?_⟩, fun a b c h => by unfold gIn at h; split at h <;> cases h⟩
  unfold gIn at e
  split at e
  · rename_i b hb
    cases e
    exact in_met hu s rx ry hb false (k _ F H [] (Ex.refl s) fr_nil ⟨rfl, rfl⟩)
  · cases e
theorem rule_notin (hu : X.A.units + 65 < cLine) : CmpRule X .NotIn gNotIn := by
  refine ⟨⟨_, (op_notInD hu).or ((op_notInT hu).or (op_notIn_sign.or (op_notInK (by omega)))), fun F H x y dx dy f1 f2 Q s rx ry d e k => ?_⟩, fun a b c h => by unfold gNotIn at h; split at h <;> cases h⟩
  unfold gNotIn at e
  split at e
  · rename_i b hb
    cases e
    exact in_met hu s rx ry hb true (k _ F H [] (Ex.refl s) fr_nil ⟨rfl, rfl⟩)
  · cases e
end

/-! ### subscripts -/
def kids : D → List D
  | .tup xs => xs
  | .lst _ xs => xs
  | .dk _ _ vs => vs
  | .dt _ _ vs => vs
  | _ => []
def childIx : D → D → Option Nat
  | .tup xs, .int i => ixN xs.length i
  | .lst _ xs, .int i => ixN xs.length i
  | .dk _ ks _, d => (keyOf d).bind (posK ks)
  | .dt _ ks _, d => (tkeyOf d).bind (posK ks)
  | _, _ => none
/-- of a text a sign, of the script an int -/
def leafIx : D → D → Option D
  | .str z, .int i => if fits z.length then (atI z.cps.toList i).map fun c => .str ⟨#[c]⟩ else none
  | .scr ns, .int i => (atI ns i).map .int
  | _, _ => none
/-- the k-th child of what was given -/
def down (x : RV) (dx : D) (k : Nat) : Res RV := match (kids dx)[k]? with
  | some d => if noOwn d then .ok (.val d) else match x with
    | .val _ => .ok (.val d)
    | .lv j p => .ok (.lv j (p ++ [k]))
  | none => .bad
def ixR (x : RV) (dx dy : D) : Res RV := match leafIx dx dy with
  | some d => .ok (.val d)
  | none => match childIx dx dy with
    | some k => down x dx k
    | none => .bad
def dIx (fa fb : Ev → Res RV) : Ev → Res RV := fun ρ => do
  let x ← fa ρ
  let y ← fb ρ
  let dx ← lookD ρ x
  let dy ← lookD ρ y
  ixR x dx dy
theorem ixR_ne {x : RV} {dx dy : D} {c : String} : ixR x dx dy ≠ .exc c := by
  intro h
  unfold ixR at h
  split at h
  · cases h
  · split at h
    · unfold down at h
      split at h
      · split at h
        · cases h
        · split at h <;> cases h
      · cases h
    · cases h
def rIxK : R2 := fun x y H Q => ∃ a v, x = .ref a ∧ DGet H a y (some v) ∧ Q v H
theorem walk_cons {H : Hp} (a : Addr) (k : Nat) (p : List Nat) : walk H (.ref a) (k :: p) = match H a with
    | some (.tup vs) => (vs[k]?).bind fun v => walk H v p
    | some (.lst vs) => (vs[k]?).bind fun v => walk H v p
    | some (.dK kvs) => (kvs[k]?).bind fun v => walk H v.2 p
    | some (.dT kvs) => (kvs[k]?).bind fun v => walk H v.2 p
    | _ => none := rfl
theorem walk_append {H : Hp} : ∀ (p : List Nat) (v w : V) (q : List Nat), walk H v p = some w → walk H v (p ++ q) = walk H w q
  | [], v, w, q, h => by cases h; rfl
  | k :: p, .non, w, q, h => by cases h
  | k :: p, .bl _, w, q, h => by cases h
  | k :: p, .int _, w, q, h => by cases h
  | k :: p, .str _, w, q, h => by cases h
  | k :: p, .byt _, w, q, h => by cases h
  | k :: p, .flt _, w, q, h => by cases h
  | k :: p, .ty _, w, q, h => by cases h
  | k :: p, .ref a, w, q, h => by
    rw [List.cons_append, walk_cons a k (p ++ q)]
    rw [walk_cons] at h
    cases e : H a with
    | none => rw [e] at h; cases h
    | some o =>
      rw [e] at h
      cases o with
      | tup vs =>
        cases ek : vs[k]? with
        | none => simp only [ek] at h; cases h
        | some x => simp only [ek] at h ⊢; exact walk_append p x w q h
      | lst vs =>
        cases ek : vs[k]? with
        | none => simp only [ek] at h; cases h
        | some x => simp only [ek] at h ⊢; exact walk_append p x w q h
      | dK vs =>
        cases ek : vs[k]? with
        | none => simp only [ek] at h; cases h
        | some x => simp only [ek] at h ⊢; exact walk_append p x.2 w q h
      | dT vs =>
        cases ek : vs[k]? with
        | none => simp only [ek] at h; cases h
        | some x => simp only [ek] at h ⊢; exact walk_append p x.2 w q h
      | _ => cases h
section
variable {X : Cx} {E : XK} {e a b : Expr} {pos : Pos} {fa fb : Ev → Res RV}
theorem ix_dict (hu : X.A.units + 1 < cLine) : IxR X rIxK := by
  intro value slice pins s σ H x y v u Q I rx ry ⟨a, w, ex, g, q⟩ hs
  subst ex
  cases rx
  exact PyProof.Rows.tail_any (dict_typeIs I g) PySem.F.slot_dict_getitem.lookup (d_getItem hu I g ry fun w' s3 I3 rw' => ⟨w, H, I3, rw', q⟩) hs
theorem atI_ix {α : Type} {xs : List α} {i : Int} {k : Nat} {v : α} (h : ixN xs.length i = some k) (e : xs[k]? = some v) : atI xs i = some v := by
  unfold atI; rw [h]; exact e
/-- the k-th child of a tree, by the heap -/
theorem kid_rp {K : PySem.W.Frag} {F H : Hp} (s : Same F H) {dx dy : D} {x y : V} {f1 f2 : List Addr} {k : Nat} {d : D} (rx : Rp K F H dx x f1) (ry : Rp K F H dy y f2) (hk : childIx dx dy = some k) (hd : (kids dx)[k]? = some d) :
    ∃ v f c1 c2, f1 = c1 ++ (f ++ c2) ∧ Rp K F H d v f ∧ (∀ Q : VK, Q v H → (rIxL K x y H Q ∨ (rIxT K x y H Q ∨ (rIxS x y H Q ∨ rIxK x y H Q)))) ∧ (∃ a, x = .ref a) ∧ (noOwn d = false → ∀ v2, walk H x [k] = some v2 → v2 = v) ∧ (noOwn d = false → walk H x [k] = some v) := by
  have hw : ∀ {a : Addr} {o : HO}, H a = some o → walk H (.ref a) [k] = (match some o with
    | some (.tup vs) => (vs[k]?).bind fun v => walk H v []
    | some (.lst vs) => (vs[k]?).bind fun v => walk H v []
    | some (.dK kvs) => (kvs[k]?).bind fun v => walk H v.2 []
    | some (.dT kvs) => (kvs[k]?).bind fun v => walk H v.2 []
    | _ => none) := fun {a o} e => by show (match H a with | some (.tup vs) => _ | some (.lst vs) => _ | some (.dK kvs) => _ | some (.dT kvs) => _ | _ => _) = _; rw [e]
  cases dx with
  | tup xs =>
    cases dy with
    | int i =>
      obtain ⟨a, vs, ex, hs, hF, r⟩ := Rp.sqT s rx
      obtain ⟨v, f, c1, c2, ev, ef, rd, _⟩ := RpL.at r hd
      have wk : walk H x [k] = some v := by rw [ex, hw (s _ _ hF)]; show (vs[k]?).bind _ = _; rw [ev]; rfl
      exact ⟨v, f, c1, c2, ef, rd, fun Q q => .inr (.inl ⟨a, vs, i, v, ex, ry.1, hs, atI_ix (by rw [← r.length]; exact hk) ev, q⟩), ⟨a, ex⟩, fun _ v2 h2 => by rw [wk] at h2; exact (Option.some.inj h2).symm, fun _ => wk⟩
    | _ => cases hk
  | lst o xs =>
    cases dy with
    | int i =>
      cases o with
      | false =>
        obtain ⟨e0, a, vs, ex, hq, r⟩ := rx
        obtain ⟨v, f, c1, c2, ev, ef, rd, _⟩ := RpL.at r hd
        have hn : noOwn d = true := sealed_of r hd
        have hf := Rp.noOwn d v f hn rd
        subst hf
        refine ⟨v, [], f1, [], by simp, rd, fun Q q => .inl ⟨a, vs, i, v, ex, ry.1, .inl (rd_same s hq), atI_ix (by rw [← r.length]; exact hk) ev, q⟩, ⟨a, ex⟩, fun h => ?_, fun h => ?_⟩
        · rw [hn] at h; cases h
        · rw [hn] at h; cases h
      | true =>
        obtain ⟨a, vs, f0, ex, hq, e0, r⟩ := rx
        obtain ⟨v, f, c1, c2, ev, ef, rd, _⟩ := RpL.at r hd
        have wk : walk H x [k] = some v := by rw [ex, hw hq]; show (vs[k]?).bind _ = _; rw [ev]; rfl
        exact ⟨v, f, a :: c1, c2, by rw [e0, ef]; rfl, rd, fun Q q => .inl ⟨a, vs, i, v, ex, ry.1, SqL.of hq, atI_ix (by rw [← r.length]; exact hk) ev, q⟩, ⟨a, ex⟩, fun _ v2 h2 => by rw [wk] at h2; exact (Option.some.inj h2).symm, fun _ => wk⟩
    | _ => cases hk
  | dk o ks xs =>
    obtain ⟨ky, h1, h2⟩ := Option.bind_eq_some_iff.mp (show (keyOf dy).bind (posK ks) = some k from hk)
    obtain ⟨a, vs, f0, ex, r, ⟨c0, ec⟩, l, g⟩ := dk_get s rx ry h1
    obtain ⟨v, f, c1, c2, ev, ef, rd, _⟩ := RpL.at r hd
    rw [h2] at g
    have g : DGet H a y (some v) := by rw [← ev]; exact g
    have wk : noOwn d = false → walk H x [k] = some v := fun hn => by
      cases o with
      | false =>
        obtain ⟨_, a', vs', ex', q', ⟨l', _⟩, r'⟩ := rx
        obtain ⟨v', f', _, _, _, _, _, _⟩ := RpL.at r' hd
        rw [sealed_of r' hd] at hn; cases hn
      | true =>
        obtain ⟨a', vs', f', ex', q', ⟨l', _⟩, e2', r'⟩ := rx
        obtain rfl : a = a' := by rw [ex] at ex'; injection ex'
        obtain ⟨v', f2', d1', d2', ev', _, rd', _⟩ := RpL.at r' hd
        obtain ⟨x0, hz, _⟩ := zip_get l' ev'
        rw [ex, hw q']
        show ((ks.zip vs')[k]?).bind _ = _
        rw [hz]
        show some v' = some v
        -- the value that is got is the one that stands there
        rcases g with ⟨kvs, k', hR, ey, hv⟩ | ⟨kvs, k', b, hR, _, _, _⟩
        · have ek : k' = ky := kV_inj (ey.symm.trans (key_rp ry h1))
          subst ek
          rcases hR with hR | ⟨ob, hR⟩
          · rw [q'] at hR
            have e3 : ks.zip vs' = kvs := by injection (Option.some.inj hR)
            rw [← e3, valV_zip ks vs' k' l', h2] at hv
            exact ev'.symm.trans hv.symm
          · rw [q'] at hR; cases hR
        · rcases hR with hR | ⟨ob, hR⟩ <;> (rw [q'] at hR; cases hR)
    exact ⟨v, f, c0 ++ c1, c2, by rw [ec, ef]; simp, rd, fun Q q => .inr (.inr (.inr ⟨a, v, ex, g, q⟩)), ⟨a, ex⟩, fun hn v2 h2 => by rw [wk hn] at h2; exact (Option.some.inj h2).symm, wk⟩
  | dt o ks xs =>
    obtain ⟨ky, h1, h2⟩ := Option.bind_eq_some_iff.mp (show (tkeyOf dy).bind (posK ks) = some k from hk)
    obtain ⟨a, vs, f0, ex, r, ⟨c0, ec⟩, l, g⟩ := dt_get s rx ry h1
    obtain ⟨v, f, c1, c2, ev, ef, rd, _⟩ := RpL.at r hd
    rw [h2] at g
    have g : DGet H a y (some v) := by rw [← ev]; exact g
    have wk : noOwn d = false → walk H x [k] = some v := fun hn => by
      cases o with
      | false =>
        obtain ⟨_, a', vs', ex', q', ⟨l', _⟩, r'⟩ := rx
        rw [sealed_of r' hd] at hn; cases hn
      | true =>
        obtain ⟨a', vs', f', ex', q', ⟨l', _⟩, e2', r'⟩ := rx
        obtain rfl : a = a' := by rw [ex] at ex'; injection ex'
        obtain ⟨v', f2', d1', d2', ev', _, rd', _⟩ := RpL.at r' hd
        obtain ⟨x0, hz, _⟩ := zip_get l' ev'
        rw [ex, hw q']
        show ((ks.zip vs')[k]?).bind _ = _
        rw [hz]
        show some v' = some v
        cases dy with
        | tup es =>
          obtain ⟨bt, ws, ey0, hb0, rb⟩ := ry
          have ek0 := keys_rp rb (show keysOf es = some ky from h1)
          rcases g with ⟨kvs, k', hR, _, _⟩ | ⟨kvs, k', b, hR, ey, hb, hv⟩
          · rcases hR with hR | ⟨ob, hR⟩ <;> (rw [q'] at hR; cases hR)
          · obtain rfl : b = bt := by rw [ey0] at ey; injection ey with e; exact e.symm
            have e5 := s _ _ hb0
            rw [hb] at e5
            have ek : k' = ky := by
              have := Option.some.inj e5
              injection this with this
              rw [ek0] at this
              exact kVs_inj this
            subst ek
            rcases hR with hR | ⟨ob, hR⟩
            · rw [q'] at hR
              have e3 : ks.zip vs' = kvs := by injection (Option.some.inj hR)
              rw [← e3, valV_zip ks vs' k' l', h2] at hv
              exact ev'.symm.trans hv.symm
            · rw [q'] at hR; cases hR
        | _ => cases h1
    exact ⟨v, f, c0 ++ c1, c2, by rw [ec, ef]; simp, rd, fun Q q => .inr (.inr (.inr ⟨a, v, ex, g, q⟩)), ⟨a, ex⟩, fun hn v2 h2 => by rw [wk hn] at h2; exact (Option.some.inj h2).symm, wk⟩
  | _ => cases hk
theorem de_ix (hu : X.A.units + 1 < cLine) (ha : DE X E a fa) (hb : DE X E b fb) (hs : PlainIx b) : DE X E (.Subscript a b pos) (dIx fa fb) := by
  obtain ⟨ta, tb, pa, pb, run⟩ := bin_run ha hb
  refine ⟨_, pe_ix (ix_list.or (ix_tup.or (ix_str.or (ix_dict hu)))) pa pb hs, fun F0 H0 F H σ ρ fr en Q h => run F0 H0 F H σ ρ fr en _ ?_⟩
  unfold dIx at h
  cases ea : fa ρ with
  | bad => rw [ea] at h; exact h
  | exc c => rw [ea] at h; exact h
  | ok x =>
    rw [ea] at h
    cases eb : fb ρ with
    | bad => rw [eb] at h; exact h
    | exc c => rw [eb] at h; exact h
    | ok y =>
      rw [eb] at h
      simp only [ok_bind] at h
      intro v w F' H' f1 f2 x1 r1 q1 q2 en'
      cases ex : lookD ρ x with
      | bad => rw [ex] at h; exact h.elim
      | exc c => exact absurd ex (lookD_ne _ _ _)
      | ok dx =>
        cases ey : lookD ρ y with
        | bad => rw [ex, ey] at h; exact h.elim
        | exc c => exact absurd ey (lookD_ne _ _ _)
        | ok dy =>
          rw [ex, ey] at h
          simp only [ok_bind] at h
          obtain ⟨k2, p2⟩ := look_rp en' q2 ey
          unfold ixR at h
          split at h
          · rename_i d hd
            obtain ⟨k1, p1⟩ := look_rp en' q1 ex
            unfold leafIx at hd
            split at hd
            · split at hd
              · rename_i z i c
                obtain ⟨cc, h1, h2⟩ := Option.map_eq_some_iff.mp hd
                subst h2
                exact .inr (.inr (.inl ⟨z, i, cc, p1.1, p2.1, fits_le c, h1, h _ F' H' [] x1 fr_nil ⟨rfl, rfl⟩⟩))
              · cases hd
            · rename_i ns i
              obtain ⟨n, h1, h2⟩ := Option.map_eq_some_iff.mp hd
              subst h2
              obtain ⟨_, al, el, hq⟩ := p1
              refine .inl ⟨al, _, i, .int n, el, p2.1, (en'.sub).seq hq, ?_, h _ F' H' [] x1 fr_nil ⟨rfl, rfl⟩⟩
              unfold atI at h1 ⊢
              rw [List.length_map]
              obtain ⟨j, j1, j2⟩ := Option.bind_eq_some_iff.mp h1
              rw [j1]
              show (ns.map V.int)[j]? = _
              rw [List.getElem?_map, j2]; rfl
            · cases hd
          · split at h
            · rename_i k hk
              unfold down at h
              split at h
              · rename_i d hd
                cases x with
                | val dv =>
                  cases ex
                  obtain ⟨v2, f, c1, c2, ef, rd, fin, _⟩ := kid_rp en'.sub q1 p2 hk hd
                  have hfr : Fr F' H f := ⟨((List.nodup_append.mp (List.nodup_append.mp (by rw [ef] at r1; exact (List.nodup_append.mp r1.1).1)).2.1).1), fun bb hb => r1.2 bb (List.mem_append_left _ (by rw [ef]; exact List.mem_append_right _ (List.mem_append_left _ hb)))⟩
                  refine fin Q ?_
                  split at h
                  · exact h _ F' H' f x1 hfr rd
                  · exact h _ F' H' f x1 hfr rd
                | lv j p =>
                  obtain ⟨k1, p1⟩ := look_rp en' q1 ex
                  obtain ⟨v2, f, c1, c2, ef, rd, fin, _, _, wk⟩ := kid_rp en'.sub p1 p2 hk hd
                  refine fin Q ?_
                  cases hn : noOwn d with
                  | true =>
                    rw [hn] at h
                    have e0 := Rp.noOwn d v2 f hn rd
                    subst e0
                    exact h _ F' H' [] x1 fr_nil rd
                  | false =>
                    rw [hn] at h
                    obtain ⟨_, vj, h1, h2⟩ := q1
                    exact h _ F' H' [] x1 fr_nil ⟨rfl, vj, h1, by rw [walk_append p vj v [k] h2]; exact wk hn⟩
              · exact h.elim
            · exact h.elim
end
end Dl
set_option Elab.async false
set_option linter.all false
set_option maxRecDepth 100000
set_option maxHeartbeats 4000000
/- D-layer 7: argument lists, displays, calls of built-ins, slices, chains. -/
namespace Dl
open PySem L2

/-! ### argument lists -/
def RvL (K : PySem.W.Frag) (F H : Hp) (σ : St) : List RV → List V → List Addr → Prop
  | [], vs, fp => vs = [] ∧ fp = []
  | r :: rs, vs, fp => ∃ v t f g, vs = v :: t ∧ fp = f ++ g ∧ Rv K F H σ r v f ∧ RvL K F H σ rs t g
section
variable {K : PySem.W.Frag} {F H F' H' : Hp} {σ : St}
theorem RvL.cells : ∀ {rs : List RV} {vs : List V} {fp : List Addr}, RvL K F H σ rs vs fp → ∀ b ∈ fp, Cl H b
  | [], _, _, h, b, z => by rw [h.2] at z; exact nomatch z
  | r :: rs, vs, fp, h, b, z => by
    obtain ⟨v, t, f, g, e1, e2, h1, h2⟩ := h
    subst e2
    rcases List.mem_append.mp z with z | z
    · exact h1.cells b z
    · exact RvL.cells h2 b z
theorem RvL.ext : ∀ {rs : List RV} {vs : List V} {fp : List Addr}, RvL K F H σ rs vs fp → Ex F H F' H' → RvL K F' H' σ rs vs fp
  | [], _, _, h, x => h
  | r :: rs, vs, fp, h, x => by
    obtain ⟨v, t, f, g, e1, e2, h1, h2⟩ := h
    exact ⟨v, t, f, g, e1, e2, h1.ext x, RvL.ext h2 x⟩
end
def AG (K : PySem.W.Frag) (mg : Str → Option Value) (H0 : Hp) (E : XK) (F H : Hp) (σ : St) (r : Res (List RV)) (Q : List V → Hp → Prop) : Prop := match r with
  | .ok rs => ∀ vs F' H' fp, Ex F H F' H' → Fr F' H fp → RvL K F' H' σ rs vs fp → Q vs H'
  | .exc c => XW mg H0 E c
  | .bad => False
structure DA (X : Cx) (E : XK) (es : List Expr) (f : Ev → Res (List RV)) : Prop where
  run : ∃ t, PA X es t ∧ ∀ F0 H0 F H σ ρ fr, En X.K F0 H0 F H σ ρ fr → ∀ Q, AG X.K X.mg H0 E F H σ (f ρ) Q → t σ H Q
  len : ∀ ρ rs, f ρ = .ok rs → rs.length = es.length
def dNil : Ev → Res (List RV) := fun _ => .ok []
def dCons (f : Ev → Res RV) (g : Ev → Res (List RV)) : Ev → Res (List RV) := fun ρ => do
  let r ← f ρ
  let rs ← g ρ
  .ok (r :: rs)
theorem Fr.join {F1 H1 F2 H2 H : Hp} {f1 f2 : List Addr} (r1 : Fr F1 H f1) (x1 : Same H H1) (st : ∀ b ∈ f1, Cl H1 b) (x2 : Ex F1 H1 F2 H2) (r2 : Fr F2 H1 f2) : Fr F2 H (f1 ++ f2) :=
  ⟨List.nodup_append.mpr ⟨r1.1, r2.1, fun p hp q hq e => (st p hp).ne (e ▸ (r2.2 q hq).2)⟩, fun p hp => by
    rcases List.mem_append.mp hp with z | z
    · exact ⟨x2.not (r1.2 p z).1 (st p z), (r1.2 p z).2⟩
    · exact ⟨(r2.2 p z).1, x1.free (r2.2 p z).2⟩⟩
section
variable {X : Cx} {E : XK} {e a b : Expr} {es : List Expr} {pos : Pos} {fa fb : Ev → Res RV} {fs : Ev → Res (List RV)}
theorem da_nil : DA X E [] dNil := ⟨⟨tNil, pa_nil, fun F0 H0 F H σ ρ fr en Q g => g [] F H [] (Ex.refl en.sub) fr_nil ⟨rfl, rfl⟩⟩, fun ρ rs h => by cases h; rfl⟩
theorem da_cons (ha : DE X E e fa) (hs : DA X E es fs) (he : starEach (e :: es) X.env = (false, eval e X.env) :: starEach es X.env := by rfl) : DA X E (e :: es) (dCons fa fs) := by
  obtain ⟨ta, pa, ra⟩ := ha.run
  obtain ⟨⟨ts, ps, rs⟩, hl⟩ := hs
  refine ⟨⟨tCons ta ts, pa_cons pa ps he, fun F0 H0 F H σ ρ fr en Q h => ra F0 H0 F H σ ρ fr en _ ?_⟩, fun ρ l h => ?_⟩
  · unfold dCons at h
    cases ea : fa ρ with
    | bad => rw [ea] at h; exact h
    | exc c => rw [ea] at h; exact h
    | ok x =>
      rw [ea] at h
      intro v F1 H1 f1 x1 r1 q1
      have st := Rv.cells q1
      refine rs F0 H0 F1 H1 σ ρ (f1 ++ fr) (en.add x1 r1 st) _ ?_
      cases eb : fs ρ with
      | bad => rw [eb] at h; exact h.elim
      | exc c => rw [eb] at h; exact h
      | ok l =>
        rw [eb] at h
        intro vs F2 H2 f2 x2 r2 q2
        exact h (v :: vs) F2 H2 (f1 ++ f2) (x1.trans x2) (Fr.join r1 x1.h st x2 r2) ⟨v, vs, f1, f2, rfl, rfl, q1.ext x2, q2⟩
  · unfold dCons at h
    cases ea : fa ρ with
    | bad => rw [ea] at h; cases h
    | exc c => rw [ea] at h; cases h
    | ok x =>
      rw [ea] at h
      cases eb : fs ρ with
      | bad => rw [eb] at h; cases h
      | exc c => rw [eb] at h; cases h
      | ok l' =>
        rw [eb] at h
        have h : Res.ok (x :: l') = Res.ok l := h
        injection h with h
        rw [← h, List.length_cons, List.length_cons, hl ρ l' eb]
/-- the trees of what were given -/
def lookL (ρ : Ev) : List RV → Res (List D)
  | [] => .ok []
  | r :: rs => do
    let d ← lookD ρ r
    let ds ← lookL ρ rs
    .ok (d :: ds)
def valsD : List RV → Res (List D)
  | [] => .ok []
  | .val d :: rs => do
    let ds ← valsD rs
    .ok (d :: ds)
  | .lv _ _ :: _ => .bad
theorem lookL_ne (ρ : Ev) : ∀ (rs : List RV) (c : String), lookL ρ rs ≠ .exc c
  | [], c => by intro h; cases h
  | r :: rs, c => by
    intro h
    unfold lookL at h
    cases e : lookD ρ r with
    | bad => rw [e] at h; cases h
    | exc c' => exact lookD_ne _ _ _ e
    | ok d =>
      rw [e] at h
      cases e2 : lookL ρ rs with
      | bad => rw [e2] at h; cases h
      | exc c' => exact lookL_ne ρ rs _ e2
      | ok ds => rw [e2] at h; cases h
theorem valsD_ne : ∀ (rs : List RV) (c : String), valsD rs ≠ .exc c
  | [], c => by intro h; cases h
  | .lv _ _ :: _, c => by intro h; cases h
  | .val d :: rs, c => by
    intro h
    unfold valsD at h
    cases e2 : valsD rs with
    | bad => rw [e2] at h; cases h
    | exc c' => exact valsD_ne rs _ e2
    | ok ds => rw [e2] at h; cases h
theorem lookL_rp {K : PySem.W.Frag} {F0 H0 F H : Hp} {σ : St} {ρ : Ev} {fr : List Addr} (en : En K F0 H0 F H σ ρ fr) : ∀ {rs : List RV} {vs : List V} {fp : List Addr} {ds : List D}, RvL K F H σ rs vs fp → lookL ρ rs = .ok ds → ∃ f, RpL K F H ds vs f
  | [], vs, fp, ds, h, e => by
    cases e
    exact ⟨[], h.1, rfl⟩
  | r :: rs, vs, fp, ds, h, e => by
    obtain ⟨v, t, f, g, e1, e2, h1, h2⟩ := h
    unfold lookL at e
    cases ed : lookD ρ r with
    | bad => rw [ed] at e; cases e
    | exc c => rw [ed] at e; cases e
    | ok d =>
      rw [ed] at e
      cases el : lookL ρ rs with
      | bad => rw [el] at e; cases e
      | exc c => rw [el] at e; cases e
      | ok ds' =>
        rw [el] at e
        have e : Res.ok (d :: ds') = Res.ok ds := e
        injection e with e
        obtain ⟨k1, p1⟩ := look_rp en h1 ed
        obtain ⟨k2, p2⟩ := lookL_rp en h2 el
        rw [← e]
        exact ⟨k1 ++ k2, v, t, k1, k2, e1, rfl, p1, p2⟩
theorem valsD_rp {K : PySem.W.Frag} {F H : Hp} {σ : St} : ∀ {rs : List RV} {vs : List V} {fp : List Addr} {ds : List D}, RvL K F H σ rs vs fp → valsD rs = .ok ds → RpL K F H ds vs fp
  | [], vs, fp, ds, h, e => by
    cases e
    exact h
  | .lv _ _ :: _, vs, fp, ds, h, e => by cases e
  | .val d :: rs, vs, fp, ds, h, e => by
    obtain ⟨v, t, f, g, e1, e2, h1, h2⟩ := h
    unfold valsD at e
    cases el : valsD rs with
    | bad => rw [el] at e; cases e
    | exc c => rw [el] at e; cases e
    | ok ds' =>
      rw [el] at e
      have e : Res.ok (d :: ds') = Res.ok ds := e
      injection e with e
      rw [← e]
      exact ⟨v, t, f, g, e1, e2, h1, valsD_rp h2 el⟩

/-! ### displays -/
def dTup (fs : Ev → Res (List RV)) : Ev → Res RV := fun ρ => do
  let rs ← fs ρ
  let ds ← valsD rs
  .ok (.val (.tup ds))
def dLst (fs : Ev → Res (List RV)) : Ev → Res RV := fun ρ => do
  let rs ← fs ρ
  let ds ← valsD rs
  .ok (.val (.lst true ds))
theorem RpL.cells' {K : PySem.W.Frag} {F H : Hp} {ds : List D} {vs : List V} {fp : List Addr} (h : RpL K F H ds vs fp) : ∀ b ∈ fp, Cl H b := RpL.cells ds vs fp h
theorem valsD_len : ∀ {rs : List RV} {ds : List D}, valsD rs = .ok ds → ds.length = rs.length
  | [], ds, e => by cases e; rfl
  | .lv _ _ :: _, ds, e => by cases e
  | .val d :: rs, ds, e => by
    unfold valsD at e
    cases el : valsD rs with
    | bad => rw [el] at e; cases e
    | exc c => rw [el] at e; cases e
    | ok ds' =>
      rw [el] at e
      have e : Res.ok (d :: ds') = Res.ok ds := e
      injection e with e
      rw [← e, List.length_cons, List.length_cons, valsD_len el]
theorem de_tup {k : Nat} (hs : DA X E es fs) (hn : es.length ≤ sizeLine := by decide) : DE X E (.Tuple es k pos) (dTup fs) := by
  obtain ⟨⟨t, p, r⟩, hl⟩ := hs
  refine ⟨tTup t, pe_tup p, fun F0 H0 F H σ ρ fr en Q h => r F0 H0 F H σ ρ fr en _ ?_⟩
  unfold dTup at h
  cases ef : fs ρ with
  | bad => rw [ef] at h; exact h
  | exc c => rw [ef] at h; exact h
  | ok rs =>
    rw [ef] at h
    simp only [ok_bind] at h
    intro vs F' H' fp x fr' q
    cases ev : valsD rs with
    | bad => rw [ev] at h; exact h.elim
    | exc c => exact absurd ev (valsD_ne _ _)
    | ok ds =>
      rw [ev] at h
      have rp := valsD_rp q ev
      have len := rp.length
      have len2 := valsD_len ev
      have len3 := hl ρ rs ef
      refine ⟨by omega, fun p hp => ?_⟩
      have hp' : ∀ b ∈ fp, b ≠ p := fun b hb e => (rp.cells' b hb).ne (e ▸ hp)
      refine h (.ref p) _ _ fp (x.trans (ex_tup x.sub hp vs)) ⟨fr'.1, fun b hb => ⟨?_, (fr'.2 b hb).2⟩⟩ (rp_tup x.sub hp rp rp.cells')
      rw [upd_ne (hp' b hb)]; exact (fr'.2 b hb).1
theorem de_lst (hs : DA X E es fs) (hn : es.length ≤ sizeLine := by decide) : DE X E (.List es pos) (dLst fs) := by
  obtain ⟨⟨t, p, r⟩, hl⟩ := hs
  refine ⟨tLst t, pe_lst p, fun F0 H0 F H σ ρ fr en Q h => r F0 H0 F H σ ρ fr en _ ?_⟩
  unfold dLst at h
  cases ef : fs ρ with
  | bad => rw [ef] at h; exact h
  | exc c => rw [ef] at h; exact h
  | ok rs =>
    rw [ef] at h
    simp only [ok_bind] at h
    intro vs F' H' fp x fr' q
    cases ev : valsD rs with
    | bad => rw [ev] at h; exact h.elim
    | exc c => exact absurd ev (valsD_ne _ _)
    | ok ds =>
      rw [ev] at h
      have rp := valsD_rp q ev
      have len := rp.length
      have len2 := valsD_len ev
      have len3 := hl ρ rs ef
      refine ⟨by omega, fun p hp => ?_⟩
      refine h (.ref p) _ _ (p :: fp) (x.trans (ex_own x.sub hp _)) ⟨List.nodup_cons.mpr ⟨fun z => (rp.cells' p z).ne hp, fr'.1⟩, fun b hb => ?_⟩ (rp_lst hp rp rp.cells')
      rcases List.mem_cons.mp hb with z | z
      · rw [z]; exact ⟨x.sub.free hp, x.h.free hp⟩
      · exact fr'.2 b z

/-! ### calls of built-ins by their trees -/
def CalD (X : Cx) (r : List V → Hp → VK → Prop) (g : List D → Res D) : Prop := ∀ (F H : Hp) (vs : List V) (ds : List D) (fs : List Addr) (Q : VK), Same F H → RpL X.K F H ds vs fs → ∀ d, g ds = .ok d →
  (∀ v F' H' fp, Ex F H F' H' → Fr F' H fp → Rp X.K F' H' d v fp → Q v H') → r vs H Q
structure CallRule (X : Cx) (f : Value) (g : List D → Res D) : Prop where
  ex : ∃ r, CallR X f r ∧ CalD X r g
  np : ∀ a c, g a ≠ .exc c
def dFn (g : List D → Res D) (fs : Ev → Res (List RV)) : Ev → Res RV := fun ρ => do
  let rs ← fs ρ
  let ds ← lookL ρ rs
  let d ← g ds
  .ok (.val d)
variable {g : List D → Res D}
theorem fn_met {r : List V → Hp → VK → Prop} {F0 H0 F H : Hp} {σ : St} {ρ : Ev} {fr : List Addr} {Q : VK} {rs : Res (List RV)} (cd : CalD X r g) (np : ∀ a c, g a ≠ .exc c) (en : En X.K F0 H0 F H σ ρ fr)
    (h : EG X.K X.mg H0 E F H σ (do let rs ← rs; let ds ← lookL ρ rs; let d ← g ds; .ok (.val d)) Q) : AG X.K X.mg H0 E F H σ rs fun vs H1 => r vs H1 Q := by
  cases rs with
  | bad => exact h
  | exc c => exact h
  | ok rs =>
    simp only [ok_bind] at h
    intro vs F' H' fp x fr' q
    cases ev : lookL ρ rs with
    | bad => rw [ev] at h; exact h.elim
    | exc c => exact absurd ev (lookL_ne _ _ _)
    | ok ds =>
      rw [ev] at h
      simp only [ok_bind] at h
      cases eg : g ds with
      | bad => rw [eg] at h; exact h.elim
      | exc c => exact absurd eg (np _ _)
      | ok d =>
        rw [eg] at h
        obtain ⟨k, p⟩ := lookL_rp (en.ext x) q ev
        exact cd F' H' vs ds k Q x.sub p d eg fun u F2 H2 f2 x2 r2 q2 => h u F2 H2 f2 (x.trans x2) ⟨r2.1, fun b hb => ⟨(r2.2 b hb).1, x.h.free (r2.2 b hb).2⟩⟩ q2
theorem de_callB {id : String} {x : Str} {p : Pos} (c : CallRule X (.builtin id) g) (hg : Gl X x) (hm : X.mg x = none) (hv : bootBuiltins x = some (.builtin id)) (hs : DA X E (e :: es) fs) (hn : x ≠ "__name__" := by decide) (hdb : (x == ("__debug__" : Str)) = false := by decide)
    (he : starEach (e :: es) X.env = (false, eval e X.env) :: starEach es X.env := by rfl) (hpl : (backTo pos (starEach es X.env)).any (·.1) = false := by rfl) : DE X E (.Call (.Name x p) (e :: es) [] pos) (dFn g fs) := by
  obtain ⟨⟨t, pa, r⟩, _⟩ := hs
  obtain ⟨⟨rr, h1, h2⟩, np⟩ := c
  exact ⟨tCB rr t, pe_callB h1 hg hm hv pa hn hdb he hpl, fun F0 H0 F H σ ρ fr en Q h => r F0 H0 F H σ ρ fr en _ (fn_met h2 np en h)⟩
theorem de_callTy {T : String} {x : Str} {p : Pos} (c : CallRule X (.type T) g) (hg : Gl X x) (hm : X.mg x = none) (hv : bootBuiltins x = some (.type T)) (hs : DA X E (e :: es) fs) (hn : x ≠ "__name__" := by decide) (hdb : (x == ("__debug__" : Str)) = false := by decide)
    (he : starEach (e :: es) X.env = (false, eval e X.env) :: starEach es X.env := by rfl) (hpl : (backTo pos (starEach es X.env)).any (·.1) = false := by rfl) : DE X E (.Call (.Name x p) (e :: es) [] pos) (dFn g fs) := by
  obtain ⟨⟨t, pa, r⟩, _⟩ := hs
  obtain ⟨⟨rr, h1, h2⟩, np⟩ := c
  exact ⟨tCB rr t, pe_callTy h1 hg hm hv pa hn hdb he hpl, fun F0 H0 F H σ ρ fr en Q h => r F0 H0 F H σ ρ fr en _ (fn_met h2 np en h)⟩
/-- methods of built-in types, by their trees: the receiver, the arguments -/
def MetD (X : Cx) (T : String) (r : V → List V → Hp → VK → Prop) (ty : D → Bool) (g : D → List D → Res D) : Prop := ∀ (F H : Hp) (x : V) (dx : D) (f1 : List Addr) (vs : List V) (ds : List D) (f2 : List Addr) (Q : VK), Same F H → Rp X.K F H dx x f1 → RpL X.K F H ds vs f2 →
  ∀ d, g dx ds = .ok d → (∀ v F' H' fp, Ex F H F' H' → Fr F' H fp → Rp X.K F' H' d v fp → Q v H') → r x vs H Q
structure MetRule (X : Cx) (T id : String) (ty : D → Bool) (g : D → List D → Res D) : Prop where
  ex : ∃ r, MtR X id r ∧ MetD X T r ty g
  ty : ∀ F H d v fp, Same F H → Rp X.K F H d v fp → ty d = true → tyV X.K T v H
  np : ∀ a b c, g a b ≠ .exc c
def dMet (ty : D → Bool) (g : D → List D → Res D) (fo : Ev → Res RV) (fs : Ev → Res (List RV)) : Ev → Res RV := fun ρ => do
  let x ← fo ρ
  let dx ← lookD ρ x
  if ty dx then do
    let rs ← fs ρ
    let ds ← lookL ρ rs
    let d ← g dx ds
    .ok (.val d)
  else .bad
theorem tyV_same {K : PySem.W.Frag} {T : String} {v : V} {H H' : Hp} (s : Same H H') (h : tyV K T v H) : tyV K T v H' := by
  cases v with
  | str _ => exact h
  | int _ => exact h
  | ref p =>
    rcases h with ⟨e, xs, h⟩ | h | ⟨e, ⟨kvs, h⟩ | ⟨kvs, h⟩⟩ | ⟨e, S, n, h⟩
    · exact .inl ⟨e, xs, s.seq h⟩
    · exact .inr (.inl h)
    · exact .inr (.inr (.inl ⟨e, .inl ⟨kvs, s _ _ h⟩⟩))
    · exact .inr (.inr (.inl ⟨e, .inr ⟨kvs, s _ _ h⟩⟩))
    · exact .inr (.inr (.inr ⟨e, S, n, s _ _ h⟩))
  | _ => exact h
theorem de_met {T id : String} {name : Str} {apos cpos : Pos} {ty : D → Bool} {gm : D → List D → Res D} {o : Expr} {fo : Ev → Res RV} (c : MetRule X T id ty gm) (pa : PlainAttrs T) (slot : Slot T name id) (hty : typeOf (.builtin id) = pure (.type "method_descriptor"))
    (ho : DE X E o fo) (hs : DA X E (e :: es) fs) (hbase : attributeBase o name X.env (eval o X.env) = eval o X.env := by rfl)
    (hfew : ((backTo cpos (starEach (e :: es) X.env)).all (fun x => !x.1) && (backToKw cpos (keywordEach [] X.env)).all (fun x => x.1.isSome) && decide ((e :: es).length + ([] : List Keyword).length + (if ([] : List Keyword).isEmpty then 0 else 1) < 30)) = true := by rfl)
    (hline : (apos.endLine == cpos.line) = true := by rfl) (he : starEach (e :: es) X.env = (false, eval e X.env) :: starEach es X.env := by rfl) (hpl : (backTo cpos (starEach es X.env)).any (·.1) = false := by rfl) :
    DE X E (.Call (.Attribute o name apos) (e :: es) [] cpos) (dMet ty gm fo fs) := by
  obtain ⟨⟨t, ps, r⟩, _⟩ := hs
  obtain ⟨⟨rr, h1, h2⟩, hyt, np⟩ := c
  obtain ⟨to, po, ro⟩ := ho.run
  refine ⟨_, pe_bm pa slot hty h1 po ps hbase hfew hline he hpl, fun F0 H0 F H σ ρ fr en Q h => ro F0 H0 F H σ ρ fr en _ ?_⟩
  unfold dMet at h
  cases eo : fo ρ with
  | bad => rw [eo] at h; exact h
  | exc c => rw [eo] at h; exact h
  | ok x =>
    rw [eo] at h
    simp only [ok_bind] at h
    intro v F1 H1 f1 x1 r1 q1
    have st := Rv.cells q1
    have en1 := en.add x1 r1 st
    cases ex : lookD ρ x with
    | bad => rw [ex] at h; exact h.elim
    | exc c => exact absurd ex (lookD_ne _ _ _)
    | ok dx =>
      rw [ex] at h
      simp only [ok_bind] at h
      obtain ⟨k, p⟩ := look_rp en1 q1 ex
      cases et : ty dx with
      | false => rw [et] at h; exact h.elim
      | true =>
        rw [et, if_pos rfl] at h
        refine ⟨hyt F1 H1 dx v k x1.sub p et, r F0 H0 F1 H1 σ ρ _ en1 _ ?_⟩
        cases ers : fs ρ with
        | bad => rw [ers] at h; exact h.elim
        | exc c => rw [ers] at h; exact h
        | ok rs =>
          rw [ers] at h
          simp only [ok_bind] at h
          intro vs F' H' fp x2 fr' q
          cases ev : lookL ρ rs with
          | bad => rw [ev] at h; exact h.elim
          | exc c => exact absurd ev (lookL_ne _ _ _)
          | ok ds =>
            rw [ev] at h
            simp only [ok_bind] at h
            cases eg : gm dx ds with
            | bad => rw [eg] at h; exact h.elim
            | exc c => exact absurd eg (np _ _ _)
            | ok d =>
              rw [eg] at h
              obtain ⟨k2, p2⟩ := lookL_rp (en1.ext x2) q ev
              obtain ⟨k3, p3⟩ := look_rp (en1.ext x2) (q1.ext x2) ex
              exact h2 F' H' v dx k3 vs ds k2 Q x2.sub p3 p2 d eg fun u F2 H2 f2 x3 r3 q3 => h u F2 H2 f2 ((x1.trans x2).trans x3) ⟨r3.1, fun b hb => ⟨(r3.2 b hb).1, x1.h.free (x2.h.free (r3.2 b hb).2)⟩⟩ q3
end

/-! ### a chain of two comparisons -/
def dChain (g g' : D → D → Res D) (fa fb fc : Ev → Res RV) : Ev → Res RV := fun ρ => do
  let x ← fa ρ
  let y ← fb ρ
  let dx ← lookD ρ x
  let dy ← lookD ρ y
  let d ← g dx dy
  match d with
  | .bl true => do
    let z ← fc ρ
    let dz ← lookD ρ z
    let d' ← g' dy dz
    .ok (.val d')
  | .bl false => .ok (.val (.bl false))
  | _ => .bad
section
variable {X : Cx} {E : XK} {a b c : Expr} {pos : Pos} {fa fb fc : Ev → Res RV} {g g' : D → D → Res D}
theorem chain_run {op op' : CmpOp} (r : CmpRule X op g) (r' : CmpRule X op' g') (ha : DE X E a fa) (hb : DE X E b fb) (hc : DE X E c fc) : ∃ (R R' : R2) (ta tb tc : TE), OpR X (compareOp op) R ∧ OpR X (compareOp op') R' ∧ PE X a ta ∧ PE X b tb ∧ PE X c tc ∧
    ∀ F0 H0 F H σ ρ fr, En X.K F0 H0 F H σ ρ fr → ∀ Q : VK, EG X.K X.mg H0 E F H σ (dChain g g' fa fb fc ρ) Q → tChain R R' ta tb tc σ H Q := by
  obtain ⟨⟨R, h1, h2⟩, np⟩ := r
  obtain ⟨⟨R', h1', h2'⟩, np'⟩ := r'
  obtain ⟨ta, tb, pa, pb, run⟩ := bin_run ha hb
  obtain ⟨tc, pc, rc⟩ := hc.run
  refine ⟨R, R', ta, tb, tc, h1, h1', pa, pb, pc, fun F0 H0 F H σ ρ fr en Q h => run F0 H0 F H σ ρ fr en _ ?_⟩
  unfold dChain at h
  cases ea : fa ρ with
  | bad => rw [ea] at h; exact h
  | exc c => rw [ea] at h; exact h
  | ok x =>
    rw [ea] at h
    cases eb : fb ρ with
    | bad => rw [eb] at h; exact h
    | exc c => rw [eb] at h; exact h
    | ok y =>
      rw [eb] at h
      simp only [ok_bind] at h
      intro v w F' H' f1 f2 x1 r1 q1 q2 en'
      cases ex : lookD ρ x with
      | bad => rw [ex] at h; exact h.elim
      | exc c => exact absurd ex (lookD_ne _ _ _)
      | ok dx =>
        cases ey : lookD ρ y with
        | bad => rw [ex, ey] at h; exact h.elim
        | exc c => exact absurd ey (lookD_ne _ _ _)
        | ok dy =>
          rw [ex, ey] at h
          simp only [ok_bind] at h
          obtain ⟨k1, p1⟩ := look_rp en' q1 ex
          obtain ⟨k2, p2⟩ := look_rp en' q2 ey
          cases eg : g dx dy with
          | bad => rw [eg] at h; exact h.elim
          | exc c => exact absurd eg (np _ _ _)
          | ok d =>
            rw [eg] at h
            simp only [ok_bind] at h
            cases d with
            | bl k =>
              refine h2 F' H' v w dx dy k1 k2 _ x1.sub p1 p2 _ eg fun u F2 H2 fp x2 r2 q => ⟨k, q.1, ?_⟩
              cases k with
              | false => rw [if_neg Bool.false_ne_true]; exact h _ F2 H2 [] (x1.trans x2) fr_nil ⟨rfl, rfl⟩
              | true =>
                rw [if_pos rfl]
                refine rc F0 H0 F2 H2 σ ρ fr (en'.ext x2) _ ?_
                cases ec : fc ρ with
                | bad => simp only [ec] at h; exact h.elim
                | exc c => simp only [ec] at h; exact h
                | ok z =>
                  simp only [ec, ok_bind] at h
                  intro w2 F3 H3 f3 x3 r3 q3
                  cases ez : lookD ρ z with
                  | bad => rw [ez] at h; exact h.elim
                  | exc c => exact absurd ez (lookD_ne _ _ _)
                  | ok dz =>
                    rw [ez] at h
                    simp only [ok_bind] at h
                    cases eg' : g' dy dz with
                    | bad => rw [eg'] at h; exact h.elim
                    | exc c => exact absurd eg' (np' _ _ _)
                    | ok d' =>
                      rw [eg'] at h
                      have en3 := (en'.ext x2).ext x3
                      obtain ⟨l2, m2⟩ := look_rp en3 ((q2.ext x2).ext x3) ey
                      obtain ⟨l3, m3⟩ := look_rp en3 q3 ez
                      exact h2' F3 H3 w w2 dy dz l2 l3 Q x3.sub m2 m3 d' eg' fun u' F4 H4 fp' x4 r4 q4 =>
                        h u' F4 H4 fp' (((x1.trans x2).trans x3).trans x4) ⟨r4.1, fun bb hb => ⟨(r4.2 bb hb).1, x1.h.free (x2.h.free (x3.h.free (r4.2 bb hb).2))⟩⟩ q4
            | _ => exact h.elim
theorem de_chain {op op' : CmpOp} (r : CmpRule X op g) (r' : CmpRule X op' g') (ha : DE X E a fa) (hb : DE X E b fb) (hc : DE X E c fc) (hm : lastMarks [op, op'] [b, c] = false := by with_unfolding_all rfl) : DE X E (.Compare a [op, op'] [b, c] pos) (dChain g g' fa fb fc) := by
  obtain ⟨R, R', ta, tb, tc, h1, h1', pa, pb, pc, run⟩ := chain_run r r' ha hb hc
  exact ⟨_, pe_chain h1 h1' pa pb pc hm, run⟩
theorem dt_chain {op op' : CmpOp} (r : CmpRule X op g) (r' : CmpRule X op' g') (ha : DE X E a fa) (hb : DE X E b fb) (hc : DE X E c fc) (hm : lastMarks [op, op'] [b, c] = false := by with_unfolding_all rfl) : DT X E (.Compare a [op, op'] [b, c] pos) (dTst (dChain g g' fa fb fc)) := by
  obtain ⟨R, R', ta, tb, tc, h1, h1', pa, pb, pc, run⟩ := chain_run r r' ha hb hc
  exact dt_mk ⟨_, pt_chain h1 h1' pa pb pc hm, run⟩
end

/-! ### slices -/
def OG (mg : Str → Option Value) (H0 : Hp) (E : XK) (F H : Hp) (r : Res (Option Int)) (Q : Option Int → Hp → Prop) : Prop := match r with
  | .ok b => ∀ F' H', Ex F H F' H' → Q b H'
  | .exc c => XW mg H0 E c
  | .bad => False
structure DO (X : Cx) (E : XK) (e : Option Expr) (f : Ev → Res (Option Int)) : Prop where
  run : ∃ t, PO X e t ∧ ∀ F0 H0 F H σ ρ fr, En X.K F0 H0 F H σ ρ fr → ∀ Q, OG X.mg H0 E F H (f ρ) Q → t σ H Q
def dNo : Ev → Res (Option Int) := fun _ => .ok none
def rvI : RV → Res (Option Int)
  | .val (.int i) => .ok (some i)
  | _ => .bad
def dSome (f : Ev → Res RV) : Ev → Res (Option Int) := fun ρ => do
  let v ← f ρ
  rvI v
def cutG {α : Type} (xs : List α) (lo hi : Option Int) : List α := (xs.drop (HT.sIx xs.length 0 lo)).take (HT.sIx xs.length xs.length hi - HT.sIx xs.length 0 lo)
def sliceD (d : D) (lo hi : Option Int) : Res D := match d with
  | .lst _ xs => if noOwnL xs then .ok (.lst true (cutG xs lo hi)) else .bad
  | .tup xs => if noOwnL xs then .ok (.tup (cutG xs lo hi)) else .bad
  | .str z => if fits z.length then .ok (.str (cutS z lo hi)) else .bad
  | .scr ns => .ok (.lst true ((cutG ns lo hi).map .int))
  | _ => .bad
def dSlice (fa : Ev → Res RV) (fl fh : Ev → Res (Option Int)) : Ev → Res RV := fun ρ => do
  let x ← fa ρ
  let l ← fl ρ
  let h ← fh ρ
  let dx ← lookD ρ x
  let d ← sliceD dx l h
  .ok (.val d)
section
variable {X : Cx} {E : XK} {a e : Expr} {lo hi : Option Expr} {pos p2 : Pos} {fa : Ev → Res RV} {fl fh : Ev → Res (Option Int)}
theorem do_none : DO X E none dNo := ⟨tNoPart, po_none, fun F0 H0 F H σ ρ fr en Q g => g F H (Ex.refl en.sub)⟩
theorem do_some (ha : DE X E a fa) : DO X E (some a) (dSome fa) := by
  obtain ⟨t, p, r⟩ := ha.run
  refine ⟨tPart t, po_some p, fun F0 H0 F H σ ρ fr en Q g => r F0 H0 F H σ ρ fr en _ ?_⟩
  unfold dSome at g
  cases ea : fa ρ with
  | bad => rw [ea] at g; exact g
  | exc c => rw [ea] at g; exact g
  | ok v =>
    rw [ea] at g
    simp only [ok_bind] at g
    intro w F' H' fp x fr' q
    cases v with
    | lv j p => exact g.elim
    | val d =>
      cases d with
      | int i => exact ⟨i, q.1, g F' H' x⟩
      | _ => exact g.elim
theorem RpL.drop {K : PySem.W.Frag} {F H : Hp} {ds : List D} {vs : List V} (h : RpL K F H ds vs []) : ∀ n : Nat, RpL K F H (ds.drop n) (vs.drop n) [] := by
  intro n
  induction n generalizing ds vs with
  | zero => exact h
  | succ n ih =>
    cases ds with
    | nil => obtain ⟨rfl, _⟩ := h; exact ⟨rfl, rfl⟩
    | cons d ds =>
      obtain ⟨v, r, f, g, rfl, e2, h1, h2⟩ := h
      obtain ⟨rfl, rfl⟩ := List.append_eq_nil_iff.mp e2.symm
      exact ih h2
theorem RpL.take {K : PySem.W.Frag} {F H : Hp} {ds : List D} {vs : List V} (h : RpL K F H ds vs []) : ∀ n : Nat, RpL K F H (ds.take n) (vs.take n) [] := by
  intro n
  induction n generalizing ds vs with
  | zero => exact ⟨rfl, rfl⟩
  | succ n ih =>
    cases ds with
    | nil => obtain ⟨rfl, _⟩ := h; exact ⟨rfl, rfl⟩
    | cons d ds =>
      obtain ⟨v, r, f, g, rfl, e2, h1, h2⟩ := h
      obtain ⟨rfl, rfl⟩ := List.append_eq_nil_iff.mp e2.symm
      exact ⟨v, r.take n, [], [], rfl, rfl, h1, ih h2⟩
theorem RpL.cut {K : PySem.W.Frag} {F H : Hp} {ds : List D} {vs : List V} (h : RpL K F H ds vs []) (lo hi : Option Int) : RpL K F H (cutG ds lo hi) (cutV vs lo hi) [] := by
  unfold cutG cutV
  rw [h.length]
  exact (h.drop _).take _
theorem rpL_ints {K : PySem.W.Frag} {F H : Hp} : ∀ ns : List Int, RpL K F H (ns.map .int) (ns.map V.int) []
  | [] => ⟨rfl, rfl⟩
  | n :: ns => ⟨.int n, ns.map V.int, [], [], rfl, rfl, ⟨rfl, rfl⟩, rpL_ints ns⟩
theorem cut_map {α β : Type} (f : α → β) (xs : List α) (lo hi : Option Int) : cutG (xs.map f) lo hi = (cutG xs lo hi).map f := by
  unfold cutG
  rw [List.length_map, List.map_take, List.map_drop]
def rSlRd (K : PySem.W.Frag) : V → Option Int → Option Int → Hp → VK → Prop := fun x lo hi H Q => rSlL K x lo hi H Q ∨ (rSlA K x lo hi H Q ∨ rSlS x lo hi H Q)
theorem slice_met {F H : Hp} {x : V} {dx : D} {f1 : List Addr} {Q : VK} {l h : Option Int} {d : D} (s : Same F H) (rx : Rp X.K F H dx x f1) (e : sliceD dx l h = .ok d) (q : ∀ v F' H' fp, Ex F H F' H' → Fr F' H fp → Rp X.K F' H' d v fp → Q v H') : rSlRd X.K x l h H Q := by
  unfold sliceD at e
  split at e
  · split at e
    · rename_i c
      cases e
      obtain ⟨al, vs, g1, e1, h1, h3, _⟩ := Rp.rdL s rx
      exact .inl ⟨al, vs, e1, .inl h1, fun p hp => q _ F _ [p] (ex_own s hp _) (fr_own s hp) (rp_lst hp ((h3.plain c).cut l h) fun _ z => nomatch z)⟩
    · cases e
  · split at e
    · rename_i xs c
      cases e
      obtain ⟨al, vs, e1, hs, hF, h3⟩ := Rp.sqT s rx
      have p1 := h3.plain c
      refine .inr (.inl ⟨al, vs, e1, hs, fun hw => ?_, fun _ p hp => q _ _ _ [] (ex_tup s hp _) fr_nil (rp_tup s hp (p1.cut l h) fun _ z => nomatch z)⟩)
      have ec : cutG xs l h = xs := by
        unfold cutG
        rw [p1.length, hw.1, hw.2, List.drop_zero, Nat.sub_zero, ← p1.length, List.take_length]
      rw [ec] at q
      exact q _ F H [] (Ex.refl s) fr_nil ⟨al, vs, rfl, hF, p1⟩
    · cases e
  · split at e
    · rename_i c
      cases e
      exact .inr (.inr ⟨_, rx.1, fits_le c, q _ F H [] (Ex.refl s) fr_nil ⟨rfl, rfl⟩⟩)
    · cases e
  · rename_i ns
    cases e
    obtain ⟨_, al, el, hq⟩ := rx
    refine .inl ⟨al, _, el, s.seq hq, fun p hp => q _ F _ [p] (ex_own s hp _) (fr_own s hp) (rp_lst hp ?_ fun _ z => nomatch z)⟩
    have : cutV (ns.map V.int) l h = (cutG ns l h).map V.int := cut_map V.int ns l h
    rw [this]
    exact rpL_ints _
  · cases e
theorem sliceD_ne {d : D} {l h : Option Int} {c : String} : sliceD d l h ≠ .exc c := by
  intro e
  unfold sliceD at e
  split at e
  · split at e <;> cases e
  · split at e <;> cases e
  · split at e <;> cases e
  · cases e
  · cases e
theorem de_slice (ha : DE X E a fa) (hl : DO X E lo fl) (hh : DO X E hi fh) : DE X E (.Subscript a (.Slice lo hi none p2) pos) (dSlice fa fl fh) := by
  obtain ⟨ta, pa, ra⟩ := ha.run
  obtain ⟨tl, pl, rl⟩ := hl.run
  obtain ⟨th, ph, rh⟩ := hh.run
  refine ⟨tSl (rSlRd X.K) ta tl th, pe_slice (sl_list.or (sl_tupA.or sl_str)) pa pl ph, fun F0 H0 F H σ ρ fr en Q g => ra F0 H0 F H σ ρ fr en _ ?_⟩
  unfold dSlice at g
  cases ea : fa ρ with
  | bad => rw [ea] at g; exact g
  | exc c => rw [ea] at g; exact g
  | ok x =>
    rw [ea] at g
    simp only [ok_bind] at g
    intro v F1 H1 f1 x1 r1 q1
    have en1 := en.add x1 r1 (Rv.cells q1)
    refine rl F0 H0 F1 H1 σ ρ _ en1 _ ?_
    cases el : fl ρ with
    | bad => rw [el] at g; exact g.elim
    | exc c => rw [el] at g; exact g
    | ok l =>
      rw [el] at g
      simp only [ok_bind] at g
      intro F2 H2 x2
      have en2 := en1.ext x2
      refine rh F0 H0 F2 H2 σ ρ _ en2 _ ?_
      cases eh : fh ρ with
      | bad => rw [eh] at g; exact g.elim
      | exc c => rw [eh] at g; exact g
      | ok h =>
        rw [eh] at g
        simp only [ok_bind] at g
        intro F3 H3 x3
        have en3 := en2.ext x3
        cases ex : lookD ρ x with
        | bad => rw [ex] at g; exact g.elim
        | exc c => exact absurd ex (lookD_ne _ _ _)
        | ok dx =>
          rw [ex] at g
          simp only [ok_bind] at g
          cases es : sliceD dx l h with
          | bad => rw [es] at g; exact g.elim
          | exc c => exact absurd es sliceD_ne
          | ok d =>
            rw [es] at g
            obtain ⟨k, p⟩ := look_rp en3 ((q1.ext x2).ext x3) ex
            exact slice_met x3.sub p es fun u F4 H4 fp x4 r4 q4 => g u F4 H4 fp (((x1.trans x2).trans x3).trans x4) ⟨r4.1, fun b hb => ⟨(r4.2 b hb).1, x1.h.free (x2.h.free (x3.h.free (r4.2 b hb).2))⟩⟩ q4
end
end Dl
set_option Elab.async false
set_option linter.all false
set_option maxRecDepth 100000
set_option maxHeartbeats 4000000
/- D-layer 8: values taken (moved or frozen), statements. -/
namespace Dl
open PySem L2

/-! ### a value that is taken: the slots may lose what is moved -/
def XG (K : PySem.W.Frag) (mg : Str → Option Value) (F0 H0 : Hp) (E : XK) (F H : Hp) (σ : St) (fr : List Addr) (r : Res (D × Ev)) (Q : VK) : Prop := match r with
  | .ok (d, ρ') => ∀ v F' H' fp, En K F0 H0 F' H' σ ρ' (fp ++ fr) → Rp K F' H' d v fp → Same F F' → (∀ b ∈ fr, H' b = H b) → Q v H'
  | .exc c => XW mg H0 E c
  | .bad => False
structure DX (X : Cx) (E : XK) (e : Expr) (f : Ev → Res (D × Ev)) : Prop where
  run : ∃ t, PE X e t ∧ ∀ F0 H0 F H σ ρ fr, En X.K F0 H0 F H σ ρ fr → ∀ Q : VK, XG X.K X.mg F0 H0 E F H σ fr (f ρ) Q → t σ H Q
/-- a place of a slot's tree -/
def placeD (ρ : Ev) (j : Nat) (p : List Nat) : Option (D × D) := match ρ[j]? with
  | some (.val dj) => match getP dj p with
    | some d => if noOwn d then none else some (dj, d)
    | none => none
  | _ => none
/-- what was given is frozen where it stands, and taken -/
def takeF (ρ : Ev) : RV → Res (D × Ev)
  | .val d => .ok (d, ρ)
  | .lv j p => match placeD ρ j p with
    | some (dj, d) => .ok (frz d, ρ.set j (.val (setP dj p (frz d))))
    | none => .bad
/-- what was given is moved out -/
def takeM (ρ : Ev) : RV → Res (D × Ev)
  | .val d => .ok (d, ρ)
  | .lv j p => match placeD ρ j p with
    | some (dj, d) => .ok (d, ρ.set j (.val (setP dj p .dead)))
    | none => .bad
def dXf (f : Ev → Res RV) : Ev → Res (D × Ev) := fun ρ => do
  let v ← f ρ
  takeF ρ v
def dXm (f : Ev → Res RV) : Ev → Res (D × Ev) := fun ρ => do
  let v ← f ρ
  takeM ρ v
section
variable {K : PySem.W.Frag} {F0 H0 F H F' H' : Hp} {σ : St} {ρ : Ev} {fr : List Addr}
theorem place_some {j : Nat} {p : List Nat} {dj d : D} (h : placeD ρ j p = some (dj, d)) : ρ[j]? = some (.val dj) ∧ getP dj p = some d ∧ noOwn d = false := by
  unfold placeD at h
  cases ej : ρ[j]? with
  | none => rw [ej] at h; cases h
  | some s =>
    cases s with
    | none => rw [ej] at h; cases h
    | val x =>
      rw [ej] at h
      cases ep : getP x p with
      | none => simp only [ep] at h; cases h
      | some y =>
        simp only [ep] at h
        cases en : noOwn y with
        | true => rw [en] at h; cases h
        | false => rw [en] at h; cases h; exact ⟨rfl, ep, en⟩
theorem swap2 (a c x : List Addr) : (a ++ (c ++ x)).Perm (c ++ (a ++ x)) := by
  rw [← List.append_assoc, ← List.append_assoc c a x]
  exact List.perm_append_comm.append_right x
theorem perm_mid {a b c d : List Addr} : (a ++ (b ++ (c ++ d))).Perm (c ++ (a ++ (b ++ d))) :=
  ((swap2 b c d).append_left a).trans (swap2 a c (b ++ d))
/-- a place opened: its value, its cells, the rest; what is put there closes it again -/
theorem En.place (en : En K F0 H0 F H σ ρ fr) {j : Nat} {p : List Nat} {dj d : D} (h : placeD ρ j p = some (dj, d)) : ∃ vj v f rest, σ[j]? = some (some vj) ∧ walk H vj p = some v ∧ Rp K F H d v f ∧ Wd F0 H0 F H (f ++ (fr ++ rest)) ∧
    ∀ (F' H' : Hp) (d2 : D) (f2 : List Addr), Same F F' → (∀ b ∈ rest, H' b = H b) → Rp K F' H' d2 v f2 → ∃ cs, EnR K F' H' (ρ.set j (.val (setP dj p d2))) σ cs ∧ cs.Perm (f2 ++ rest) := by
  obtain ⟨ej, ep, hn⟩ := place_some h
  obtain ⟨cs, w, r⟩ := en
  obtain ⟨o, f, c1, c2, x1, x2, x3, put⟩ := EnR.at r ej
  obtain ⟨vj, y1, y2⟩ := x3
  subst y1
  obtain ⟨v, f', g1, g2, z1, z2, z3, put2⟩ := Rp.at w.sub p dj vj f d y2 ep hn
  subst z2
  have e1 : cs = c1 ++ (g1 ++ (f' ++ (g2 ++ c2))) := by rw [x2]; simp
  refine ⟨vj, v, f', c1 ++ (g1 ++ (g2 ++ c2)), x1, z1, z3, ?_, fun F' H' d2 f2 s hb h2 => ?_⟩
  · refine w.perm ?_
    rw [e1]
    have q : (c1 ++ (g1 ++ (f' ++ (g2 ++ c2)))).Perm (f' ++ (c1 ++ (g1 ++ (g2 ++ c2)))) := perm_mid
    exact List.Perm.symm ((q.append_left fr).trans (swap2 fr f' _))
  · have hb' : ∀ b, b ∈ c1 ∨ b ∈ g1 ∨ b ∈ g2 ∨ b ∈ c2 → H' b = H b := fun b z => hb b (by simp only [List.mem_append]; exact z)
    have q := put F' H' (.val (setP dj p d2)) (some vj) (g1 ++ (f2 ++ g2)) s (fun b z => hb' b (z.elim .inl fun y => .inr (.inr (.inr y))))
      ⟨vj, rfl, put2 F' H' d2 f2 s (fun b z => hb' b (z.elim (fun y => .inr (.inl y)) fun y => .inr (.inr (.inl y)))) h2⟩
    rw [set_id x1] at q
    refine ⟨_, q, ?_⟩
    have e2 : c1 ++ (g1 ++ (f2 ++ g2) ++ c2) = c1 ++ (g1 ++ (f2 ++ (g2 ++ c2))) := by simp
    rw [e2]
    exact perm_mid
theorem lv_is {j : Nat} {p : List Nat} {v v' vj : V} {fp : List Addr} (h : Rv K F H σ (.lv j p) v fp) (h1 : σ[j]? = some (some vj)) (h2 : walk H vj p = some v') : v = v' := by
  obtain ⟨_, w, e1, e2⟩ := h
  rw [h1] at e1; cases e1
  rw [h2] at e2; exact (Option.some.inj e2).symm
end
section
variable {X : Cx} {E : XK} {e a b : Expr} {pos : Pos} {fa fb : Ev → Res RV}
theorem dx_f (ha : DE X E e fa) : DX X E e (dXf fa) := by
  obtain ⟨t, p, r⟩ := ha.run
  refine ⟨t, p, fun F0 H0 F H σ ρ fr en Q h => r F0 H0 F H σ ρ fr en _ ?_⟩
  unfold dXf at h
  cases ea : fa ρ with
  | bad => rw [ea] at h; exact h
  | exc c => rw [ea] at h; exact h
  | ok x =>
    rw [ea] at h
    simp only [ok_bind] at h
    intro v F' H' fp x1 fr' q
    have hk : ∀ b ∈ fr, H' b = H b := fun b hb => by
      obtain ⟨cs, w, _⟩ := en
      exact x1.keep (w.own b (List.mem_append_left _ hb)).2.2
    cases x with
    | val d => exact h v F' H' fp (en.add x1 fr' (Rv.cells q)) q x1.f hk
    | lv j p =>
      simp only [takeF] at h
      cases ep : placeD ρ j p with
      | none => simp only [ep] at h; exact h.elim
      | some dd =>
        obtain ⟨dj, d⟩ := dd
        simp only [ep] at h
        obtain ⟨vj, w, f, rest, h1, h2, h3, h4, h5⟩ := (en.ext x1).place ep
        have ev := lv_is q h1 h2
        subst ev
        have h3' := Rp.freeze (l := f) h4.sub d v f (fun _ z => z) h3
        have h4' := Wd.frz h4
        obtain ⟨cs, e1, e2⟩ := h5 (addF F' H' f) H' (frz d) [] (addF_same h4.sub) (fun _ _ => rfl) h3'
        exact h v _ H' [] ⟨cs, h4'.perm (by rw [List.nil_append] at e2 ⊢; exact e2.append_left fr), e1⟩ h3' (x1.f.trans (addF_same h4.sub)) hk
theorem dx_m (ha : DE X E e fa) : DX X E e (dXm fa) := by
  obtain ⟨t, p, r⟩ := ha.run
  refine ⟨t, p, fun F0 H0 F H σ ρ fr en Q h => r F0 H0 F H σ ρ fr en _ ?_⟩
  unfold dXm at h
  cases ea : fa ρ with
  | bad => rw [ea] at h; exact h
  | exc c => rw [ea] at h; exact h
  | ok x =>
    rw [ea] at h
    simp only [ok_bind] at h
    intro v F' H' fp x1 fr' q
    have hk : ∀ b ∈ fr, H' b = H b := fun b hb => by
      obtain ⟨cs, w, _⟩ := en
      exact x1.keep (w.own b (List.mem_append_left _ hb)).2.2
    cases x with
    | val d => exact h v F' H' fp (en.add x1 fr' (Rv.cells q)) q x1.f hk
    | lv j p =>
      simp only [takeM] at h
      cases ep : placeD ρ j p with
      | none => simp only [ep] at h; exact h.elim
      | some dd =>
        obtain ⟨dj, d⟩ := dd
        simp only [ep] at h
        obtain ⟨vj, w, f, rest, h1, h2, h3, h4, h5⟩ := (en.ext x1).place ep
        have ev := lv_is q h1 h2
        subst ev
        obtain ⟨cs, e1, e2⟩ := h5 F' H' .dead [] (Same.refl F') (fun _ _ => rfl) rfl
        refine h v F' H' f ⟨cs, h4.perm ?_, e1⟩ h3 x1.f hk
        rw [List.nil_append] at e2
        rw [List.append_assoc]
        exact (e2.append_left fr).append_left f
/-- lists of taken values -/
def XLG (K : PySem.W.Frag) (mg : Str → Option Value) (F0 H0 : Hp) (E : XK) (F H : Hp) (σ : St) (fr : List Addr) (r : Res (List D × Ev)) (Q : List V → Hp → Prop) : Prop := match r with
  | .ok (ds, ρ') => ∀ vs F' H' fp, En K F0 H0 F' H' σ ρ' (fp ++ fr) → RpL K F' H' ds vs fp → Same F F' → (∀ b ∈ fr, H' b = H b) → Q vs H'
  | .exc c => XW mg H0 E c
  | .bad => False
structure DXL (X : Cx) (E : XK) (es : List Expr) (f : Ev → Res (List D × Ev)) : Prop where
  run : ∃ t, PA X es t ∧ ∀ F0 H0 F H σ ρ fr, En X.K F0 H0 F H σ ρ fr → ∀ Q, XLG X.K X.mg F0 H0 E F H σ fr (f ρ) Q → t σ H Q
  len : ∀ ρ ds ρ', f ρ = .ok (ds, ρ') → ds.length = es.length
def dXnil : Ev → Res (List D × Ev) := fun ρ => .ok ([], ρ)
def dXcons (f : Ev → Res (D × Ev)) (g : Ev → Res (List D × Ev)) : Ev → Res (List D × Ev) := fun ρ => do
  let x ← f ρ
  let y ← g x.2
  .ok (x.1 :: y.1, y.2)
variable {fx : Ev → Res (D × Ev)} {fl : Ev → Res (List D × Ev)} {es : List Expr}
theorem dxl_nil : DXL X E [] dXnil := ⟨⟨tNil, pa_nil, fun F0 H0 F H σ ρ fr en Q g => g [] F H [] en ⟨rfl, rfl⟩ (Same.refl F) fun _ _ => rfl⟩, fun ρ ds ρ' h => by cases h; rfl⟩
theorem dxl_cons (ha : DX X E e fx) (hs : DXL X E es fl) (he : starEach (e :: es) X.env = (false, eval e X.env) :: starEach es X.env := by rfl) : DXL X E (e :: es) (dXcons fx fl) := by
  obtain ⟨ta, pa, ra⟩ := ha.run
  obtain ⟨⟨ts, ps, rs⟩, hl⟩ := hs
  refine ⟨⟨tCons ta ts, pa_cons pa ps he, fun F0 H0 F H σ ρ fr en Q h => ra F0 H0 F H σ ρ fr en _ ?_⟩, fun ρ l ρ' h => ?_⟩
  · unfold dXcons at h
    cases ea : fx ρ with
    | bad => rw [ea] at h; exact h
    | exc c => rw [ea] at h; exact h
    | ok x =>
      rw [ea] at h
      obtain ⟨d, ρ1⟩ := x
      simp only [ok_bind] at h
      intro v F1 H1 f1 en1 r1 s1 k1
      refine rs F0 H0 F1 H1 σ ρ1 (f1 ++ fr) en1 _ ?_
      cases eb : fl ρ1 with
      | bad => rw [eb] at h; exact h.elim
      | exc c => rw [eb] at h; exact h
      | ok y =>
        obtain ⟨ds, ρ2⟩ := y
        rw [eb] at h
        intro vs F2 H2 f2 en2 r2 s2 k2
        have r1' := Rp.mono s2 d v f1 (fun b hb => k2 b (List.mem_append_left _ hb)) r1
        refine h (v :: vs) F2 H2 (f1 ++ f2) ?_ ⟨v, vs, f1, f2, rfl, rfl, r1', r2⟩ (s1.trans s2) fun b hb => (k2 b (List.mem_append_right _ hb)).trans (k1 b hb)
        obtain ⟨cs, w, r⟩ := en2
        refine ⟨cs, w.perm ?_, r⟩
        refine List.Perm.append_right cs ?_
        rw [List.append_assoc, ← List.append_assoc f2 f1 fr]
        rw [← List.append_assoc f1 f2 fr]
        exact List.perm_append_comm.append_right fr
  · unfold dXcons at h
    cases ea : fx ρ with
    | bad => rw [ea] at h; cases h
    | exc c => rw [ea] at h; cases h
    | ok x =>
      rw [ea] at h
      simp only [ok_bind] at h
      cases eb : fl x.2 with
      | bad => rw [eb] at h; cases h
      | exc c => rw [eb] at h; cases h
      | ok y =>
        rw [eb] at h
        have h : Res.ok (x.1 :: y.1, y.2) = Res.ok (l, ρ') := h
        injection h with h
        injection h with h1 h2
        rw [← h1, List.length_cons, List.length_cons, hl x.2 y.1 y.2 eb]
def dXtup (f : Ev → Res (List D × Ev)) : Ev → Res (D × Ev) := fun ρ => do
  let x ← f ρ
  .ok (.tup x.1, x.2)
def dXlst (f : Ev → Res (List D × Ev)) : Ev → Res (D × Ev) := fun ρ => do
  let x ← f ρ
  .ok (.lst true x.1, x.2)
theorem ext_put {F H : Hp} {p : Addr} {o : HO} {K : PySem.W.Frag} {F0 H0 : Hp} {σ : St} {ρ : Ev} {fr : List Addr} (en : En K F0 H0 F H σ ρ fr) {F' : Hp} (x : Ex F H F' (upd H p o)) : En K F0 H0 F' (upd H p o) σ ρ fr := en.ext x
theorem dx_tup {k : Nat} (hs : DXL X E es fl) (hn : es.length ≤ sizeLine := by decide) : DX X E (.Tuple es k pos) (dXtup fl) := by
  obtain ⟨⟨t, p, r⟩, hl⟩ := hs
  refine ⟨tTup t, pe_tup p, fun F0 H0 F H σ ρ fr en Q h => r F0 H0 F H σ ρ fr en _ ?_⟩
  unfold dXtup at h
  cases ef : fl ρ with
  | bad => rw [ef] at h; exact h
  | exc c => rw [ef] at h; exact h
  | ok y =>
    obtain ⟨ds, ρ1⟩ := y
    rw [ef] at h
    intro vs F1 H1 fp en1 rp s1 k1
    have len := rp.length
    have len3 := hl ρ ds ρ1 ef
    refine ⟨by omega, fun p hp => ?_⟩
    have x := ex_tup (F := F1) en1.sub hp vs
    refine h (.ref p) _ _ fp (en1.ext x) (rp_tup en1.sub hp rp rp.cells') (s1.trans x.f) fun b hb => ?_
    rw [← k1 b hb]
    obtain ⟨cs, w, _⟩ := en1
    exact x.keep (w.own b (List.mem_append_left _ (List.mem_append_right _ hb))).2.2
theorem dx_lst (hs : DXL X E es fl) (hn : es.length ≤ sizeLine := by decide) : DX X E (.List es pos) (dXlst fl) := by
  obtain ⟨⟨t, p, r⟩, hl⟩ := hs
  refine ⟨tLst t, pe_lst p, fun F0 H0 F H σ ρ fr en Q h => r F0 H0 F H σ ρ fr en _ ?_⟩
  unfold dXlst at h
  cases ef : fl ρ with
  | bad => rw [ef] at h; exact h
  | exc c => rw [ef] at h; exact h
  | ok y =>
    obtain ⟨ds, ρ1⟩ := y
    rw [ef] at h
    intro vs F1 H1 fp en1 rp s1 k1
    have len := rp.length
    have len3 := hl ρ ds ρ1 ef
    refine ⟨by omega, fun p hp => ?_⟩
    have x := ex_own (F := F1) en1.sub hp (.lst vs)
    refine h (.ref p) F1 _ (p :: fp) ?_ (rp_lst hp rp rp.cells') s1 fun b hb => ?_
    · obtain ⟨cs, w, r⟩ := en1
      refine ⟨cs, ?_, r.mono x.f fun b hb => x.keep (w.own b (List.mem_append_right _ hb)).2.2⟩
      exact w.add x (fr_own w.sub hp) fun b hb => by
        have e : b = p := by simpa using hb
        rw [e]; exact ⟨_, upd_same, fun _ z => by cases z⟩
    · rw [← k1 b hb]
      obtain ⟨cs, w, _⟩ := en1
      exact x.keep (w.own b (List.mem_append_left _ (List.mem_append_right _ hb))).2.2

/-- the last item is taken off a list that a slot owns -/
def unsnoc {α : Type} : List α → Option (List α × α)
  | [] => none
  | x :: r => match unsnoc r with
    | none => some ([], x)
    | some (l, y) => some (x :: l, y)
theorem unsnoc_some {α : Type} : ∀ {l : List α} {k : List α} {y : α}, unsnoc l = some (k, y) → l = k ++ [y]
  | [], k, y, h => by cases h
  | x :: r, k, y, h => by
    unfold unsnoc at h
    split at h
    · rename_i e
      cases h
      cases r with
      | nil => rfl
      | cons z t => unfold unsnoc at e; split at e <;> cases e
    · rename_i l z e
      cases h
      rw [unsnoc_some e]; rfl
def dXpop (i : Nat) : Ev → Res (D × Ev) := fun ρ => match ρ[i]? with
  | some (.val (.lst true xs)) => match unsnoc xs with
    | some (ys, d) => .ok (d, ρ.set i (.val (.lst true ys)))
    | none => .bad
  | _ => .bad
theorem RpL.snoc {K : PySem.W.Frag} {F H : Hp} {ds : List D} {d : D} {vs : List V} {fp : List Addr} (h : RpL K F H (ds ++ [d]) vs fp) : ∃ ws v f g, vs = ws ++ [v] ∧ fp = f ++ g ∧ RpL K F H ds ws f ∧ Rp K F H d v g := by
  induction ds generalizing vs fp with
  | nil =>
    obtain ⟨v, r, f, g, e1, e2, h1, h2, h3⟩ := h
    exact ⟨[], v, [], f, by rw [e1, h2]; rfl, by rw [e2, h3]; simp, ⟨rfl, rfl⟩, h1⟩
  | cons x ds ih =>
    obtain ⟨v, r, f, g, e1, e2, h1, h2⟩ := h
    obtain ⟨ws, w, f2, g2, k1, k2, k3, k4⟩ := ih h2
    exact ⟨v :: ws, w, f ++ f2, g2, by rw [e1, k1]; rfl, by rw [e2, k2, List.append_assoc], ⟨v, ws, f, f2, rfl, rfl, h1, k3⟩, k4⟩
theorem dx_pop {i : Nat} {x : Str} {p apos cpos : Pos} (h : PE X (.Name x p) (tVar i)) (hbase : attributeBase (.Name x p) "pop" X.env (eval (.Name x p) X.env) = eval (.Name x p) X.env := by rfl) (hline : (apos.endLine == cpos.line) = true := by rfl) :
    DX X E (.Call (.Attribute (.Name x p) "pop" apos) [] [] cpos) (dXpop i) := by
  refine ⟨_, pe_bm0 PySem.F.plainAttrs_list PySem.F.slot_list_pop PySem.F.type_list_pop mt_pop h hbase hline, fun F0 H0 F H σ ρ fr en Q g => ?_⟩
  unfold dXpop at g
  split at g
  · rename_i xs ei
    split at g
    · rename_i ys d eu
      have exs := unsnoc_some eu
      subst exs
      have sub := en.sub
      obtain ⟨cs, w, r⟩ := en
      obtain ⟨o, f, c1, c2, x1, x2, x3, put⟩ := EnR.at r ei
      obtain ⟨v, e1, y2⟩ := x3
      subst e1
      obtain ⟨l, vs, f0, ev, hl, ef, rl⟩ := y2
      subst ev ef
      obtain ⟨ws, z, f1, g1, k1, k2, k3, k4⟩ := rl.snoc
      subst k1 k2 x2
      have hlen : (ws ++ [z])[(ws ++ [z]).length - 1]? = some z := by simp
      refine ⟨.ref l, x1, .inl ⟨rfl, _, SqL.of hl⟩, l, ws ++ [z], z, rfl, rfl, hl, hlen, ?_⟩
      rw [List.dropLast_concat]
      have hmem : l ∈ fr ++ (c1 ++ (l :: (f1 ++ g1) ++ c2)) := List.mem_append_right _ (List.mem_append_right _ (List.mem_append_left _ List.mem_cons_self))
      have w2 := w.put (a := l) (o := .lst ws) hmem (fun _ z => by cases z)
      have nd := w.nod
      have ne : ∀ b, b ∈ fr ∨ b ∈ c1 ∨ b ∈ f1 ∨ b ∈ g1 ∨ b ∈ c2 → b ≠ l := by
        intro b hb e
        subst e
        have q1 : (b :: (fr ++ (c1 ++ (f1 ++ (g1 ++ c2))))).Nodup := by
          refine (List.Perm.nodup_iff ?_).mp nd
          have : fr ++ (c1 ++ (b :: (f1 ++ g1) ++ c2)) = fr ++ (c1 ++ ([b] ++ (f1 ++ (g1 ++ c2)))) := by simp
          rw [this]
          exact perm_mid
        have q2 := (List.nodup_cons.mp q1).1
        apply q2
        simp only [List.mem_append]
        exact hb
      have keep : ∀ b, b ∈ fr ∨ b ∈ c1 ∨ b ∈ f1 ∨ b ∈ g1 ∨ b ∈ c2 → (upd H l (.lst ws)) b = H b := fun b hb => upd_ne (ne b hb)
      have r2 := put F (upd H l (.lst ws)) (.val (.lst true ys)) (some (.ref l)) (l :: f1) (Same.refl F) (fun b hb => keep b (hb.elim (fun y => .inr (.inl y)) fun y => .inr (.inr (.inr (.inr y)))))
        ⟨.ref l, rfl, l, ws, f1, rfl, upd_same, rfl, RpL.mono (Same.refl F) ys ws f1 (fun b hb => keep b (.inr (.inr (.inl hb)))) k3⟩
      rw [set_id x1] at r2
      refine g z F (upd H l (.lst ws)) g1 ⟨_, w2.perm ?_, r2⟩ (Rp.mono (Same.refl F) d z g1 (fun b hb => keep b (.inr (.inr (.inr (.inl hb))))) k4) (Same.refl F) fun b hb => keep b (.inl hb)
      have e1 : fr ++ (c1 ++ (l :: (f1 ++ g1) ++ c2)) = fr ++ ((c1 ++ (l :: f1)) ++ (g1 ++ c2)) := by simp
      have e2 : g1 ++ fr ++ (c1 ++ (l :: f1 ++ c2)) = g1 ++ (fr ++ ((c1 ++ (l :: f1)) ++ c2)) := by simp
      rw [e1, e2]
      exact perm_mid.symm
    · exact g.elim
  · exact g.elim
end

/-! ### statements -/
inductive Out where
  | nx (ρ : Ev)
  | rt (d : D)
  | bk (ρ : Ev)
  | ct (ρ : Ev)
def SG (K : PySem.W.Frag) (mg : Str → Option Value) (F0 H0 : Hp) (E : XK) (r : Res Out) (D : Ends) : Prop := match r with
  | .ok (.nx ρ') => ∀ F' H' σ', En K F0 H0 F' H' σ' ρ' [] → D.nx σ' H'
  | .ok (.rt d) => ∀ v F' H' fp, Wd F0 H0 F' H' fp → Rp K F' H' d v fp → D.rt v H'
  | .ok (.bk ρ') => ∀ F' H' σ', En K F0 H0 F' H' σ' ρ' [] → D.bk σ' H'
  | .ok (.ct ρ') => ∀ F' H' σ', En K F0 H0 F' H' σ' ρ' [] → D.ct σ' H'
  | .exc c => XW mg H0 E c
  | .bad => False
structure DS (X : Cx) (E : XK) (st : Stmt) (f : Ev → Res Out) : Prop where
  run : ∃ t, PS X st t ∧ ∀ F0 H0 F H σ ρ, En X.K F0 H0 F H σ ρ [] → ∀ D : Ends, SG X.K X.mg F0 H0 E (f ρ) D → t D σ H
structure DB (X : Cx) (E : XK) (sts : List Stmt) (f : Ev → Res Out) : Prop where
  run : ∃ t, PSs X sts t ∧ ∀ F0 H0 F H σ ρ, En X.K F0 H0 F H σ ρ [] → ∀ D : Ends, SG X.K X.mg F0 H0 E (f ρ) D → t D σ H
def dNext : Ev → Res Out := fun ρ => .ok (.nx ρ)
def dSeq (f g : Ev → Res Out) : Ev → Res Out := fun ρ => do
  let o ← f ρ
  match o with
  | .nx ρ' => g ρ'
  | o => .ok o
section
variable {X : Cx} {E : XK} {e a b : Expr} {pos : Pos} {st : Stmt} {sts : List Stmt} {f g : Ev → Res Out} {fa fb : Ev → Res RV} {fx : Ev → Res (D × Ev)}
theorem db_nil : DB X E [] dNext := ⟨tNext, pss_nil, fun F0 H0 F H σ ρ en D g => g F H σ en⟩
theorem SG.nx {K : PySem.W.Frag} {mg : Str → Option Value} {F0 H0 : Hp} {r : Res Out} {D D' : Ends} (h : SG K mg F0 H0 E r D) (hx : ∀ ρ', r = .ok (.nx ρ') → ∀ F' H' σ', En K F0 H0 F' H' σ' ρ' [] → D'.nx σ' H') (h1 : D'.rt = D.rt) (h2 : D'.bk = D.bk) (h3 : D'.ct = D.ct) : SG K mg F0 H0 E r D' := by
  cases r with
  | bad => exact h
  | exc c => exact h
  | ok o =>
    cases o with
    | nx ρ' => exact fun F' H' σ' en => hx ρ' rfl F' H' σ' en
    | rt d => intro v F' H' fp w r; rw [h1]; exact h v F' H' fp w r
    | bk ρ' => intro F' H' σ' en; rw [h2]; exact h F' H' σ' en
    | ct ρ' => intro F' H' σ' en; rw [h3]; exact h F' H' σ' en
theorem db_cons (h1 : DS X E st f) (h2 : DB X E sts g) : DB X E (st :: sts) (dSeq f g) := by
  obtain ⟨t, p, r⟩ := h1.run
  obtain ⟨u, q, s⟩ := h2.run
  refine ⟨tSeq t u, pss_cons p q, fun F0 H0 F H σ ρ en D h => r F0 H0 F H σ ρ en _ ?_⟩
  unfold dSeq at h
  cases ef : f ρ with
  | bad => rw [ef] at h; exact h
  | exc c => rw [ef] at h; exact h
  | ok o =>
    rw [ef] at h
    simp only [ok_bind] at h
    cases o with
    | nx ρ' => exact fun F' H' σ' en' => s F0 H0 F' H' σ' ρ' en' D h
    | rt d => exact h
    | bk ρ' => exact h
    | ct ρ' => exact h
theorem db_one (h1 : DS X E st f) : DB X E [st] f := let ⟨t, p, r⟩ := h1.run; ⟨t, pss_one p, r⟩
theorem ds_pass : DS X E (.Pass pos) dNext := ⟨tNext, ps_pass, fun F0 H0 F H σ ρ en D g => g F H σ en⟩
theorem ds_doc {x j p} : DS X E (.Expr (.Constant (.str x) j p) pos) dNext := ⟨tNext, ps_doc, fun F0 H0 F H σ ρ en D g => g F H σ en⟩
def dBreak : Ev → Res Out := fun ρ => .ok (.bk ρ)
def dContinue : Ev → Res Out := fun ρ => .ok (.ct ρ)
theorem ds_break : DS X E (.Break pos) dBreak := ⟨tBreak, ps_break, fun F0 H0 F H σ ρ en D g => g F H σ en⟩
theorem ds_continue : DS X E (.Continue pos) dContinue := ⟨tCont, ps_continue, fun F0 H0 F H σ ρ en D g => g F H σ en⟩
/-- return e -/
def dRet (fx : Ev → Res (D × Ev)) : Ev → Res Out := fun ρ => do
  let x ← fx ρ
  .ok (.rt x.1)
theorem XG.bind {K : PySem.W.Frag} {mg : Str → Option Value} {F0 H0 F H : Hp} {σ : St} {r : Res (D × Ev)} {k : D × Ev → Res Out} {D : Ends} {fr : List Addr} {Q : VK} (h : SG K mg F0 H0 E (r >>= k) D)
    (go : ∀ d ρ', r = .ok (d, ρ') → SG K mg F0 H0 E (k (d, ρ')) D → ∀ v F' H' fp, En K F0 H0 F' H' σ ρ' (fp ++ fr) → Rp K F' H' d v fp → Q v H') : XG K mg F0 H0 E F H σ fr r Q := by
  cases r with
  | bad => exact h
  | exc c => exact h
  | ok x =>
    obtain ⟨d, ρ'⟩ := x
    exact fun v F' H' fp en rp _ _ => go d ρ' rfl h v F' H' fp en rp
theorem ds_ret (hx : DX X E e fx) : DS X E (.Return (some e) pos) (dRet fx) := by
  obtain ⟨t, p, r⟩ := hx.run
  refine ⟨tRet t, ps_ret p, fun F0 H0 F H σ ρ en D h => r F0 H0 F H σ ρ [] en _ ?_⟩
  refine XG.bind (k := fun x => .ok (.rt x.1)) h fun d ρ' _ h v F' H' fp en' rp => h v F' H' fp ?_ rp
  obtain ⟨cs, w, _⟩ := en'
  rw [List.append_nil] at w
  exact w.less (List.sublist_append_left fp cs)
def dRetN : Ev → Res Out := fun _ => .ok (.rt .non)
theorem ds_retN : DS X E (.Return none pos) dRetN := ⟨tRetN, ps_retN, fun F0 H0 F H σ ρ en D h => h .non F H [] (by
  obtain ⟨cs, w, _⟩ := en
  exact w.less (List.nil_sublist _)) ⟨rfl, rfl⟩⟩
/-- x = e -/
def dSet (i : Nat) (fx : Ev → Res (D × Ev)) : Ev → Res Out := fun ρ => do
  let x ← fx ρ
  .ok (.nx (x.2.set i (.val x.1)))
theorem En.set {K : PySem.W.Frag} {F0 H0 F H : Hp} {σ : St} {ρ : Ev} {fp fr : List Addr} {d : D} {v : V} (i : Nat) (en : En K F0 H0 F H σ ρ (fp ++ fr)) (r : Rp K F H d v fp) : En K F0 H0 F H (σ.set i (some v)) (ρ.set i (.val d)) fr := by
  obtain ⟨cs, w, q⟩ := en
  by_cases hi : i < ρ.length
  · obtain ⟨o, f, c1, c2, x1, x2, x3, put⟩ := EnR.at q (List.getElem?_eq_getElem hi)
    subst x2
    refine ⟨_, w.less (M := fp ++ (fr ++ (c1 ++ c2))) ?_ |>.perm ?_, put F H (.val d) (some v) fp (Same.refl F) (fun _ _ => rfl) ⟨v, rfl, r⟩⟩
    · rw [List.append_assoc]
      refine List.Sublist.append_left (List.Sublist.append_left ?_ fr) fp
      exact List.Sublist.append_left (List.sublist_append_right f c2) c1
    · exact perm_mid
  · have hi2 : σ.length ≤ i := by rw [← q.length]; exact Nat.not_lt.mp hi
    rw [List.set_eq_of_length_le (Nat.not_lt.mp hi), List.set_eq_of_length_le hi2]
    refine ⟨cs, w.less ?_, q⟩
    rw [List.append_assoc]
    exact List.sublist_append_right fp _
theorem ds_set {i : Nat} {x : Str} {pos' : Pos} (hN : X.N.Nodup) (hi : X.N[i]? = some x) (hx : Loc X.env.scope x) (he : DX X E e fx) (hs : swapsWith e (some (.Name x pos')) pos.line X.env = pure false := by rfl)
    (hf : X.fn x = true ∨ X.env.scope.names.lookup x = some .local := by first | exact .inl rfl | exact .inr rfl | assumption) : DS X E (.Assign [.Name x pos'] e pos) (dSet i fx) := by
  obtain ⟨t, p, r⟩ := he.run
  refine ⟨tAsg t (gName i), ps_set hN hi hx p hs hf, fun F0 H0 F H σ ρ en D h => r F0 H0 F H σ ρ [] en _ ?_⟩
  exact XG.bind (k := fun x => .ok (.nx (x.2.set i (.val x.1)))) h fun d ρ' e1 h v F' H' fp en' rp => h F' H' _ (en'.set i rp)
end
end Dl
set_option Elab.async false
set_option linter.all false
set_option maxRecDepth 100000
set_option maxHeartbeats 4000000
/- D-layer 9: statements that change lists and dicts that a slot owns; if, loops. -/
namespace Dl
open PySem L2

/-! ### a cell that a slot's tree holds is written -/
section
variable {K : PySem.W.Frag} {F0 H0 F H F' H' : Hp} {σ : St} {ρ : Ev} {fr : List Addr}
theorem En.cell {j : Nat} {p : List Nat} {dj d : D} (en : En K F0 H0 F H σ ρ fr) (hp : placeD ρ j p = some (dj, d)) : ∃ vj v f, σ[j]? = some (some vj) ∧ walk H vj p = some v ∧ Rp K F H d v f ∧ (f ++ fr).Nodup ∧
    ∀ (a : Addr) (f0 : List Addr), v = .ref a → f = a :: f0 → ∀ (o : HO) (d2 : D) (f2 fr' l : List Addr), (∀ xs, o ≠ .tup xs) → Rp K F (upd H a o) d2 (.ref a) (a :: f2) → ((f2 ++ fr') ++ l).Perm (f0 ++ fr) → En K F0 H0 F (upd H a o) σ (ρ.set j (.val (setP dj p d2))) fr' := by
  obtain ⟨vj, v, f, rest, h1, hw, h3, w, close⟩ := en.place hp
  have nd := w.nod
  rw [← List.append_assoc] at nd
  refine ⟨vj, v, f, h1, hw, h3, (List.nodup_append.mp nd).1, fun a f0 ev ef o d2 f2 fr' l ho h2 pm => ?_⟩
  subst ev ef
  have hm : a ∈ (a :: f0) ++ (fr ++ rest) := List.mem_append_left _ List.mem_cons_self
  have w2 := w.put (o := o) hm ho
  have ne : ∀ b, b ∈ rest → b ≠ a := fun b hb e => by
    have q := w.nod
    rw [List.cons_append] at q
    exact (List.nodup_cons.mp q).1 (e ▸ List.mem_append_right _ (List.mem_append_right _ hb))
  obtain ⟨cs, e1, e2⟩ := close F (upd H a o) d2 (a :: f2) (Same.refl F) (fun b hb => upd_ne (ne b hb)) h2
  refine ⟨cs, ?_, e1⟩
  have q1 : (fr' ++ cs).Perm (a :: ((f2 ++ fr') ++ rest)) := by
    refine (e2.append_left fr').trans ?_
    rw [List.cons_append]
    refine List.Perm.trans (List.perm_middle) (List.Perm.cons a ?_)
    rw [← List.append_assoc]
    exact List.perm_append_comm.append_right rest
  have q2 : (a :: (((f2 ++ fr') ++ l) ++ rest)).Perm (a :: f0 ++ (fr ++ rest)) := by
    rw [List.cons_append, ← List.append_assoc f0 fr rest]
    exact List.Perm.cons a (pm.append_right rest)
  have w3 := w2.perm q2
  refine (w3.less (M := a :: ((f2 ++ fr') ++ rest)) ?_).perm q1
  refine List.Sublist.cons_cons a ?_
  rw [List.append_assoc (f2 ++ fr') l rest]
  exact List.Sublist.append_left (List.sublist_append_right l rest) _
/-- a list that is owned, opened -/
theorem En.listAt {j : Nat} {p : List Nat} {dj : D} {xs : List D} (en : En K F0 H0 F H σ ρ fr) (hp : placeD ρ j p = some (dj, .lst true xs)) : ∃ vj a vs f0, σ[j]? = some (some vj) ∧ walk H vj p = some (.ref a) ∧ H a = some (.lst vs) ∧ RpL K F H xs vs f0 ∧ (∀ b ∈ f0 ++ fr, b ≠ a) ∧
    ∀ (ws : List V) (ys : List D) (f2 fr' l : List Addr), RpL K F H ys ws f2 → ((f2 ++ fr') ++ l).Perm (f0 ++ fr) → En K F0 H0 F (upd H a (.lst ws)) σ (ρ.set j (.val (setP dj p (.lst true ys)))) fr' := by
  obtain ⟨vj, v, f, h1, hw, h3, nd, close⟩ := en.cell hp
  obtain ⟨a, vs, f0, ev, ha, ef, hr⟩ := h3
  have ne : ∀ b ∈ f0 ++ fr, b ≠ a := fun b hb e => by
    rw [ef, List.cons_append] at nd
    exact (List.nodup_cons.mp nd).1 (e ▸ hb)
  refine ⟨vj, a, vs, f0, h1, by rw [hw, ev], ha, hr, ne, fun ws ys f2 fr' l h2 pm => ?_⟩
  refine close a f0 ev ef (.lst ws) (.lst true ys) f2 fr' l (fun _ z => by cases z) ⟨a, ws, f2, rfl, upd_same, rfl, RpL.mono (Same.refl F) ys ws f2 (fun b z => upd_ne (ne b ?_)) h2⟩ pm
  exact pm.mem_iff.mp (List.mem_append_left _ (List.mem_append_left _ z))
/-- a dict that is owned, opened -/
theorem En.dkAt {j : Nat} {p : List Nat} {dj : D} {ks : List Key} {xs : List D} (en : En K F0 H0 F H σ ρ fr) (hp : placeD ρ j p = some (dj, .dk true ks xs)) : ∃ vj a vs f0, σ[j]? = some (some vj) ∧ walk H vj p = some (.ref a) ∧ H a = some (.dK (ks.zip vs)) ∧ (ks.length = vs.length ∧ ks.Nodup) ∧ RpL K F H xs vs f0 ∧ (∀ b ∈ f0 ++ fr, b ≠ a) ∧
    ∀ (kt : List Key) (ws : List V) (ys : List D) (f2 fr' l : List Addr), RpL K F H ys ws f2 → (kt.length = ws.length ∧ kt.Nodup) → ((f2 ++ fr') ++ l).Perm (f0 ++ fr) → En K F0 H0 F (upd H a (.dK (kt.zip ws))) σ (ρ.set j (.val (setP dj p (.dk true kt ys)))) fr' := by
  obtain ⟨vj, v, f, h1, hw, h3, nd, close⟩ := en.cell hp
  obtain ⟨a, vs, f0, ev, ha, hl, ef, hr⟩ := h3
  have ne : ∀ b ∈ f0 ++ fr, b ≠ a := fun b hb e => by
    rw [ef, List.cons_append] at nd
    exact (List.nodup_cons.mp nd).1 (e ▸ hb)
  refine ⟨vj, a, vs, f0, h1, by rw [hw, ev], ha, hl, hr, ne, fun kt ws ys f2 fr' l h2 hk pm => ?_⟩
  refine close a f0 ev ef (.dK (kt.zip ws)) (.dk true kt ys) f2 fr' l (fun _ z => by cases z) ⟨a, ws, f2, rfl, upd_same, hk, rfl, RpL.mono (Same.refl F) ys ws f2 (fun b z => upd_ne (ne b ?_)) h2⟩ pm
  exact pm.mem_iff.mp (List.mem_append_left _ (List.mem_append_left _ z))
theorem En.dtAt {j : Nat} {p : List Nat} {dj : D} {ks : List (List Key)} {xs : List D} (en : En K F0 H0 F H σ ρ fr) (hp : placeD ρ j p = some (dj, .dt true ks xs)) : ∃ vj a vs f0, σ[j]? = some (some vj) ∧ walk H vj p = some (.ref a) ∧ H a = some (.dT (ks.zip vs)) ∧ (ks.length = vs.length ∧ ks.Nodup) ∧ RpL K F H xs vs f0 ∧ (∀ b ∈ f0 ++ fr, b ≠ a) ∧
    ∀ (kt : List (List Key)) (ws : List V) (ys : List D) (f2 fr' l : List Addr), RpL K F H ys ws f2 → (kt.length = ws.length ∧ kt.Nodup) → ((f2 ++ fr') ++ l).Perm (f0 ++ fr) → En K F0 H0 F (upd H a (.dT (kt.zip ws))) σ (ρ.set j (.val (setP dj p (.dt true kt ys)))) fr' := by
  obtain ⟨vj, v, f, h1, hw, h3, nd, close⟩ := en.cell hp
  obtain ⟨a, vs, f0, ev, ha, hl, ef, hr⟩ := h3
  have ne : ∀ b ∈ f0 ++ fr, b ≠ a := fun b hb e => by
    rw [ef, List.cons_append] at nd
    exact (List.nodup_cons.mp nd).1 (e ▸ hb)
  refine ⟨vj, a, vs, f0, h1, by rw [hw, ev], ha, hl, hr, ne, fun kt ws ys f2 fr' l h2 hk pm => ?_⟩
  refine close a f0 ev ef (.dT (kt.zip ws)) (.dt true kt ys) f2 fr' l (fun _ z => by cases z) ⟨a, ws, f2, rfl, upd_same, hk, rfl, RpL.mono (Same.refl F) ys ws f2 (fun b z => upd_ne (ne b ?_)) h2⟩ pm
  exact pm.mem_iff.mp (List.mem_append_left _ (List.mem_append_left _ z))
theorem place_var {j : Nat} {d : D} (h : ρ[j]? = some (.val d)) (hn : noOwn d = false) : placeD ρ j [] = some (d, d) := by
  unfold placeD
  rw [h]
  show (if noOwn d then none else some (d, d)) = _
  rw [hn]; rfl
theorem lst_own {xs : List D} : noOwn (.lst true xs) = false := rfl
end

/-! ### x.append(e) -/
def dApp (i : Nat) (fx : Ev → Res (D × Ev)) : Ev → Res Out := fun ρ => match ρ[i]? with
  | some (.val (.lst true _)) => do
    let x ← fx ρ
    match x.2[i]? with
    | some (.val (.lst true xs)) => if xs.length < sizeLine then .ok (.nx (x.2.set i (.val (.lst true (xs ++ [x.1]))))) else .bad
    | _ => .bad
  | _ => .bad
section
variable {X : Cx} {E : XK} {e a b : Expr} {pos : Pos} {st : Stmt} {sts : List Stmt} {f g : Ev → Res Out} {fa fb fo : Ev → Res RV} {fx : Ev → Res (D × Ev)}
theorem En.at_var {K : PySem.W.Frag} {F0 H0 F H : Hp} {σ : St} {ρ : Ev} {fr : List Addr} {i : Nat} {xs : List D} (en : En K F0 H0 F H σ ρ fr) (h : ρ[i]? = some (.val (.lst true xs))) : ∃ a vs, σ[i]? = some (some (.ref a)) ∧ H a = some (.lst vs) := by
  obtain ⟨vj, a, vs, f0, h1, hw, ha, _⟩ := en.listAt (place_var h lst_own)
  cases hw
  exact ⟨a, vs, h1, ha⟩
theorem ds_app {i : Nat} {x : Str} {p apos cpos : Pos} (h : PE X (.Name x p) (tVar i)) (hx : DX X E e fx) (hbase : attributeBase (.Name x p) "append" X.env (eval (.Name x p) X.env) = eval (.Name x p) X.env := by rfl)
    (hfew : ((backTo cpos (starEach (e :: []) X.env)).all (fun x => !x.1) && (backToKw cpos (keywordEach [] X.env)).all (fun x => x.1.isSome) && decide ((e :: []).length + ([] : List Keyword).length + (if ([] : List Keyword).isEmpty then 0 else 1) < 30)) = true := by rfl)
    (hline : (apos.endLine == cpos.line) = true := by rfl) (he : starEach (e :: []) X.env = (false, eval e X.env) :: starEach [] X.env := by rfl) (hpl : (backTo cpos (starEach [] X.env)).any (·.1) = false := by rfl)
    (hs : swapsWith (.Call (.Attribute (.Name x p) "append" apos) [e] [] cpos) none pos.line X.env = pure false := by rfl) :
    DS X E (.Expr (.Call (.Attribute (.Name x p) "append" apos) [e] [] cpos) pos) (dApp i fx) := by
  obtain ⟨t, pt, r⟩ := hx.run
  refine ⟨_, ps_expr (pe_bm PySem.F.plainAttrs_list PySem.F.slot_list_append PySem.F.type_list_append mt_append h (pa_cons pt pa_nil he) hbase hfew hline he hpl) hs, fun F0 H0 F H σ ρ en D g => ?_⟩
  unfold dApp at g
  split at g
  · rename_i xs0 ei
    obtain ⟨a0, vs0, hv, ha0⟩ := en.at_var ei
    refine ⟨.ref a0, hv, .inl ⟨rfl, _, SqL.of ha0⟩, r F0 H0 F H σ ρ [] en _ ?_⟩
    refine XG.bind (k := fun x => match x.2[i]? with
      | some (.val (.lst true xs)) => if xs.length < sizeLine then .ok (.nx (x.2.set i (.val (.lst true (xs ++ [x.1]))))) else .bad
      | _ => .bad) g fun d ρ' _ g v F' H' fp en' rp => ?_
    simp only at g
    split at g
    · rename_i xs ei'
      split at g
      · rename_i hlt
        obtain ⟨vj, a, vs, f0, h1, hw, ha, hr, ne, close⟩ := en'.listAt (place_var ei' lst_own)
        cases hw
        rw [hv] at h1
        cases h1
        refine ⟨a0, vs, v, rfl, rfl, ha, by rw [← hr.length]; exact hlt, ?_⟩
        have q := close (vs ++ [v]) (xs ++ [d]) (f0 ++ fp) [] [] (hr.append (RpL.one rp)) (by simp)
        exact g F' _ σ q
      · exact g.elim
    · exact g.elim
  · exact g.elim

/-! ### o.append(e), o.clear() at a place -/
def dAppP (fo fa : Ev → Res RV) : Ev → Res Out := fun ρ => do
  let o ← fo ρ
  match o with
  | .lv j p => match placeD ρ j p with
    | some (dj, .lst true xs) => do
      let v ← fa ρ
      match v with
      | .val d => if xs.length < sizeLine then .ok (.nx (ρ.set j (.val (setP dj p (.lst true (xs ++ [d])))))) else .bad
      | _ => .bad
    | _ => .bad
  | _ => .bad
theorem ds_appP {o : Expr} {apos cpos : Pos} (ho : DE X E o fo) (hx : DE X E e fa) (hbase : attributeBase o "append" X.env (eval o X.env) = eval o X.env := by rfl)
    (hfew : ((backTo cpos (starEach (e :: []) X.env)).all (fun x => !x.1) && (backToKw cpos (keywordEach [] X.env)).all (fun x => x.1.isSome) && decide ((e :: []).length + ([] : List Keyword).length + (if ([] : List Keyword).isEmpty then 0 else 1) < 30)) = true := by rfl)
    (hline : (apos.endLine == cpos.line) = true := by rfl) (he : starEach (e :: []) X.env = (false, eval e X.env) :: starEach [] X.env := by rfl) (hpl : (backTo cpos (starEach [] X.env)).any (·.1) = false := by rfl)
    (hs : swapsWith (.Call (.Attribute o "append" apos) [e] [] cpos) none pos.line X.env = pure false := by rfl) :
    DS X E (.Expr (.Call (.Attribute o "append" apos) [e] [] cpos) pos) (dAppP fo fa) := by
  obtain ⟨to, po, ro⟩ := ho.run
  obtain ⟨t, pt, r⟩ := hx.run
  refine ⟨_, ps_expr (pe_bm PySem.F.plainAttrs_list PySem.F.slot_list_append PySem.F.type_list_append mt_append po (pa_cons pt pa_nil he) hbase hfew hline he hpl) hs, fun F0 H0 F H σ ρ en D g => ro F0 H0 F H σ ρ [] en _ ?_⟩
  unfold dAppP at g
  cases eo : fo ρ with
  | bad => rw [eo] at g; exact g
  | exc c => rw [eo] at g; exact g
  | ok x =>
    rw [eo] at g
    simp only [ok_bind] at g
    intro v F1 H1 f1 x1 r1 q1
    cases x with
    | val _ => exact g.elim
    | lv j p =>
      have e1 : f1 = [] := q1.1
      subst e1
      have en1 := en.ext x1
      simp only at g
      cases ep : placeD ρ j p with
      | none => simp only [ep] at g; exact g.elim
      | some dd =>
        obtain ⟨dj, dl⟩ := dd
        cases dl with
        | lst o xs =>
          cases o with
          | false => simp only [ep] at g; exact g.elim
          | true =>
            simp only [ep] at g
            obtain ⟨vj, a, vs, f0, h1, hw, ha, hr, ne, _⟩ := en1.listAt ep
            have ev := lv_is q1 h1 hw
            subst ev
            refine ⟨.inl ⟨rfl, _, SqL.of ha⟩, r F0 H0 F1 H1 σ ρ [] en1 _ ?_⟩
            cases ea : fa ρ with
            | bad => rw [ea] at g; exact g.elim
            | exc c => rw [ea] at g; exact g
            | ok y =>
              rw [ea] at g
              simp only [ok_bind] at g
              intro w F2 H2 f2 x2 r2 q2
              cases y with
              | lv _ _ => exact g.elim
              | val d =>
                simp only at g
                split at g
                · rename_i hlt
                  have en2 : En X.K F0 H0 F2 H2 σ ρ f2 := by
                    have q := en1.add x2 r2 (Rv.cells q2)
                    rw [List.append_nil] at q
                    exact q
                  obtain ⟨vj', a', vs', f0', h1', hw', ha', hr', ne', close⟩ := en2.listAt ep
                  rw [h1] at h1'; cases h1'
                  rw [walk_mono x2.h p vj _ hw] at hw'
                  cases hw'
                  refine ⟨a, vs', w, rfl, rfl, ha', by rw [← hr'.length]; exact hlt, ?_⟩
                  exact g F2 _ σ (close (vs' ++ [w]) (xs ++ [d]) (f0' ++ f2) [] [] (hr'.append (RpL.one q2)) (by simp))
                · exact g.elim
        | _ => simp only [ep] at g; exact g.elim
/-- methods of a list that a slot owns which take nothing and answer None: clear, reverse -/
def dMut0 (m : List D → List D) (fo : Ev → Res RV) : Ev → Res Out := fun ρ => do
  let o ← fo ρ
  match o with
  | .lv j p => match placeD ρ j p with
    | some (dj, .lst true xs) => .ok (.nx (ρ.set j (.val (setP dj p (.lst true (m xs))))))
    | _ => .bad
  | _ => .bad
theorem ds_mut0 {o : Expr} {name : Str} {id : String} {apos cpos : Pos} {m : List D → List D} {mv : List V → List V} (slot : Slot "list" name id) (hty : typeOf (.builtin id) = pure (.type "method_descriptor"))
    (hm : MtR X id (fun x vs H Q => ∃ l xs, x = .ref l ∧ vs = [] ∧ H l = some (.lst xs) ∧ Q .non (upd H l (.lst (mv xs)))))
    (hmv : ∀ (F H : Hp) (ds : List D) (vs : List V) (f : List Addr), RpL X.K F H ds vs f → ∃ f' l, RpL X.K F H (m ds) (mv vs) f' ∧ (f' ++ l).Perm f)
    (ho : DE X E o fo) (hbase : attributeBase o name X.env (eval o X.env) = eval o X.env := by rfl) (hline : (apos.endLine == cpos.line) = true := by rfl)
    (hs : swapsWith (.Call (.Attribute o name apos) [] [] cpos) none pos.line X.env = pure false := by rfl) : DS X E (.Expr (.Call (.Attribute o name apos) [] [] cpos) pos) (dMut0 m fo) := by
  obtain ⟨to, po, ro⟩ := ho.run
  refine ⟨_, ps_expr (pe_bm0 PySem.F.plainAttrs_list slot hty hm po hbase hline) hs, fun F0 H0 F H σ ρ en D g => ro F0 H0 F H σ ρ [] en _ ?_⟩
  unfold dMut0 at g
  cases eo : fo ρ with
  | bad => rw [eo] at g; exact g
  | exc c => rw [eo] at g; exact g
  | ok x =>
    rw [eo] at g
    simp only [ok_bind] at g
    intro v F1 H1 f1 x1 r1 q1
    cases x with
    | val _ => exact g.elim
    | lv j p =>
      have en1 := en.ext x1
      simp only at g
      cases ep : placeD ρ j p with
      | none => simp only [ep] at g; exact g.elim
      | some dd =>
        obtain ⟨dj, dl⟩ := dd
        cases dl with
        | lst o xs =>
          cases o with
          | false => simp only [ep] at g; exact g.elim
          | true =>
            simp only [ep] at g
            obtain ⟨vj, a, vs, f0, h1, hw, ha, hr, ne, close⟩ := en1.listAt ep
            have ev := lv_is q1 h1 hw
            subst ev
            obtain ⟨f', l, hr', pm⟩ := hmv F1 H1 xs vs f0 hr
            refine ⟨.inl ⟨rfl, _, SqL.of ha⟩, a, vs, rfl, rfl, ha, ?_⟩
            exact g F1 _ σ (close (mv vs) (m xs) f' [] l hr' (by simpa using pm))
        | _ => simp only [ep] at g; exact g.elim
theorem RpL.reverse {K : PySem.W.Frag} {F H : Hp} : ∀ {ds : List D} {vs : List V} {f : List Addr}, RpL K F H ds vs f → ∃ f', RpL K F H ds.reverse vs.reverse f' ∧ f'.Perm f
  | [], vs, f, h => by obtain ⟨rfl, rfl⟩ := h; exact ⟨[], ⟨rfl, rfl⟩, .refl _⟩
  | d :: ds, vs, f, h => by
    obtain ⟨v, r, f1, g1, rfl, rfl, h1, h2⟩ := h
    obtain ⟨f', h3, pm⟩ := RpL.reverse h2
    refine ⟨f' ++ f1, ?_, ?_⟩
    · rw [List.reverse_cons, List.reverse_cons]
      exact h3.append (RpL.one h1)
    · exact List.perm_append_comm.trans (pm.append_left f1)
theorem ds_clear {o : Expr} {apos cpos : Pos} (ho : DE X E o fo) (hbase : attributeBase o "clear" X.env (eval o X.env) = eval o X.env := by rfl) (hline : (apos.endLine == cpos.line) = true := by rfl)
    (hs : swapsWith (.Call (.Attribute o "clear" apos) [] [] cpos) none pos.line X.env = pure false := by rfl) : DS X E (.Expr (.Call (.Attribute o "clear" apos) [] [] cpos) pos) (dMut0 (fun _ => []) fo) :=
  ds_mut0 PySem.F.slot_list_clear PySem.F.type_list_clear mt_clear (mv := fun _ => []) (fun F H ds vs f _ => ⟨[], f, ⟨rfl, rfl⟩, .refl _⟩) ho hbase hline hs
theorem ds_reverse {o : Expr} {apos cpos : Pos} (ho : DE X E o fo) (hbase : attributeBase o "reverse" X.env (eval o X.env) = eval o X.env := by rfl) (hline : (apos.endLine == cpos.line) = true := by rfl)
    (hs : swapsWith (.Call (.Attribute o "reverse" apos) [] [] cpos) none pos.line X.env = pure false := by rfl) : DS X E (.Expr (.Call (.Attribute o "reverse" apos) [] [] cpos) pos) (dMut0 List.reverse fo) :=
  ds_mut0 PySem.F.slot_list_reverse PySem.F.type_list_reverse mt_reverse (mv := List.reverse) (fun F H ds vs f h => by
    obtain ⟨f', h1, h2⟩ := h.reverse
    exact ⟨f', [], h1, by simpa using h2⟩) ho hbase hline hs

/-! ### x[i] = e, x[k] = e -/
/-- keys and values behind a store -/
def putKs {κ α : Type} [DecidableEq κ] (ks : List κ) (xs : List α) (y : κ) (x : α) : List κ × List α := match posK ks y with
  | some n => (ks, xs.set n x)
  | none => (ks ++ [y], xs ++ [x])
def putAt (d : D) (k x : D) : Option D := match d with
  | .lst true xs => match k with
    | .int i => (ixN xs.length i).map fun n => .lst true (xs.set n x)
    | _ => none
  | .dk true ks xs => if ks.length < sizeLine then (keyOf k).map fun y => .dk true (putKs ks xs y x).1 (putKs ks xs y x).2 else none
  | .dt true ks xs => if ks.length < sizeLine then (tkeyOf k).map fun y => .dt true (putKs ks xs y x).1 (putKs ks xs y x).2 else none
  | _ => none
/-- a list's item; a dict's key -/
def dPut (i : Nat) (fk : Ev → Res RV) (fx : Ev → Res (D × Ev)) : Ev → Res Out := fun ρ => do
  let x ← fx ρ
  match x.2[i]? with
  | some (.val d) => if noOwn d then .bad else do
    let k ← fk x.2
    match k with
    | .val k => match putAt d k x.1 with
      | some d' => .ok (.nx (x.2.set i (.val d')))
      | none => .bad
    | _ => .bad
  | _ => .bad
theorem posK_ne {κ : Type} [DecidableEq κ] : ∀ {ks : List κ} {k : κ} {n : Nat}, posK ks k = some n → ks.Nodup → ∀ (j : Nat) (x : κ), ks[j]? = some x → (x = k ↔ j = n)
  | [], k, n, h, nd, j, x, e => by cases h
  | y :: r, k, n, h, nd, j, x, e => by
    rw [posK_cons] at h
    split at h
    · rename_i ey
      cases h
      cases j with
      | zero =>
        have e : y = x := by simpa using e
        subst e
        simp [ey]
      | succ j =>
        have e : r[j]? = some x := by simpa using e
        constructor
        · intro hx
          exact absurd (List.mem_of_getElem? e) (by rw [hx, ← ey]; exact (List.nodup_cons.mp nd).1)
        · intro z; cases z
    · rename_i ey
      obtain ⟨m, h1, h2⟩ := Option.map_eq_some_iff.mp h
      subst h2
      cases j with
      | zero =>
        have e : y = x := by simpa using e
        subst e
        simp [ey]
      | succ j =>
        have e : r[j]? = some x := by simpa using e
        rw [posK_ne h1 (List.nodup_cons.mp nd).2 j x e]
        omega
theorem putK_zip {κ : Type} [DecidableEq κ] (ks : List κ) (vs : List V) (k : κ) (v : V) (l : ks.length = vs.length) (nd : ks.Nodup) : putK (ks.zip vs) k v = match posK ks k with
    | some n => ks.zip (vs.set n v)
    | none => (ks ++ [k]).zip (vs ++ [v]) := by
  cases e : posK ks k with
  | none =>
    have hv : valV (ks.zip vs) k = none := by rw [valV_zip ks vs k l, e]; rfl
    rw [putK_new v hv]
    show ks.zip vs ++ [(k, v)] = (ks ++ [k]).zip (vs ++ [v])
    rw [List.zip_append l]; rfl
  | some n =>
    show putK (ks.zip vs) k v = ks.zip (vs.set n v)
    have hn := posK_lt e
    have hany : ((ks.zip vs).any fun kv => decide (kv.1 = k)) = true := by
      rw [valV_any, valV_zip ks vs k l, e]
      have hlt := (List.getElem?_eq_some_iff.mp hn).1
      rw [l] at hlt
      simp [List.getElem?_eq_getElem hlt]
    unfold putK
    rw [if_pos hany]
    apply List.ext_getElem?
    intro j
    rw [List.getElem?_map]
    cases ej : (ks.zip vs)[j]? with
    | none =>
      have h1 : (ks.zip vs).length ≤ j := List.getElem?_eq_none_iff.mp ej
      have h2 : (ks.zip (vs.set n v)).length ≤ j := by
        rw [List.length_zip, List.length_set] at *
        exact h1
      rw [List.getElem?_eq_none_iff.mpr h2]; rfl
    | some kv =>
      obtain ⟨k', v'⟩ := kv
      obtain ⟨h1, h2⟩ := List.getElem?_zip_eq_some.mp ej
      have hj := posK_ne e nd j k' h1
      show some (if k' = k then (k', v) else (k', v')) = (ks.zip (vs.set n v))[j]?
      symm
      rw [List.getElem?_zip_eq_some (z := if k' = k then (k', v) else (k', v'))]
      split
      · rename_i c
        have := hj.mp c
        subst this
        exact ⟨h1, by rw [List.getElem?_set_self (List.getElem?_eq_some_iff.mp h2).1]⟩
      · rename_i c
        exact ⟨h1, by rw [List.getElem?_set_ne (fun z => c (hj.mpr z.symm))]; exact h2⟩
theorem RpL.set' {K : PySem.W.Frag} {F H : Hp} {ds : List D} {vs : List V} {f0 : List Addr} {n : Nat} {x : D} {v : V} {fp : List Addr} (h : RpL K F H ds vs f0) (r : Rp K F H x v fp) (hn : n < ds.length) : ∃ f2 l, RpL K F H (ds.set n x) (vs.set n v) f2 ∧ (f2 ++ l).Perm (f0 ++ fp) := by
  obtain ⟨w, f, c1, c2, e1, e2, e3, put⟩ := RpL.at h (List.getElem?_eq_getElem hn)
  refine ⟨c1 ++ (fp ++ c2), f, put F H x v fp (Same.refl F) (fun _ _ => rfl) r, ?_⟩
  rw [e2]
  have h1 : (c1 ++ (fp ++ c2) ++ f).Perm (c1 ++ (f ++ (fp ++ c2))) := by
    rw [List.append_assoc]
    exact List.perm_append_comm.append_left c1
  have h2 : (c1 ++ (f ++ c2) ++ fp).Perm (c1 ++ (f ++ (fp ++ c2))) := by
    rw [List.append_assoc, List.append_assoc]
    exact (List.perm_append_comm.append_left f).append_left c1
  exact h1.trans h2.symm
theorem nodup_snoc {κ : Type} [DecidableEq κ] {ks : List κ} {k : κ} (h : ks.Nodup) (n : posK ks k = none) : (ks ++ [k]).Nodup :=
  List.nodup_append.mpr ⟨h, by simp, fun a ha b hb e => by
    have : b = k := by simpa using hb
    rw [e, this] at ha
    exact posK_none.mp n ha⟩
/-- keys and values behind a store, as they lie -/
theorem putKs_rp {κ : Type} [DecidableEq κ] {K : PySem.W.Frag} {F H : Hp} {ks : List κ} {ds : List D} {vs : List V} {f0 fp : List Addr} {x : D} {v : V} {y : κ} (h : RpL K F H ds vs f0) (r : Rp K F H x v fp) (l : ks.length = vs.length) (nd : ks.Nodup) :
    ∃ f2 l', RpL K F H (putKs ks ds y x).2 (putKs ks vs y v).2 f2 ∧ (putKs ks ds y x).1 = (putKs ks vs y v).1 ∧ ((putKs ks vs y v).1.length = (putKs ks vs y v).2.length ∧ (putKs ks vs y v).1.Nodup) ∧ (f2 ++ l').Perm (f0 ++ fp) ∧ putK (ks.zip vs) y v = (putKs ks vs y v).1.zip (putKs ks vs y v).2 := by
  have zip := putK_zip ks vs y v l nd
  unfold putKs
  cases e : posK ks y with
  | some n =>
    rw [e] at zip
    have hn := (List.getElem?_eq_some_iff.mp (posK_lt e)).1
    obtain ⟨f3, l', hr3, pm⟩ := h.set' r (by rw [h.length, ← l]; exact hn)
    exact ⟨f3, l', hr3, rfl, ⟨by rw [List.length_set]; exact l, nd⟩, pm, zip⟩
  | none =>
    rw [e] at zip
    exact ⟨f0 ++ fp, [], h.append (RpL.one r), rfl, ⟨by simp [l], nodup_snoc nd e⟩, by simp, zip⟩
def rSetK : V → V → V → Hp → (Hp → Prop) → Prop := fun o i v H Q => ∃ a H4, o = .ref a ∧ DPut H a i v H4 ∧ Q H4
theorem set_dict (hu : X.A.units + 1 < cLine) : PSet X rSetK := by
  intro pins s σ H o i v ov iv u Q I ro ri rv ⟨a, H4, e, g, q⟩
  subst e
  cases ro
  exact d_setItem hu I g ri rv fun s' I' => ⟨H4, I', q⟩
theorem PSet.or {r r' : TSet} (h : PSet X r) (h' : PSet X r') : PSet X (fun o i v H Q => r o i v H Q ∨ r' o i v H Q) := by
  intro pins s σ H o i v ov iv u Q I ro ri rv q
  rcases q with q | q
  · exact h pins s σ H o i v ov iv u Q I ro ri rv q
  · exact h' pins s σ H o i v ov iv u Q I ro ri rv q
theorem ds_put (hu : X.A.units + 1 < cLine) {i : Nat} {x : Str} {k : Expr} {p spos : Pos} {fk : Ev → Res RV} (h : PE X (.Name x p) (tVar i)) (hk : DE X E k fk) (hx : DX X E e fx)
    (ha : ∀ v, assign (.Subscript (.Name x p) k spos) X.env v = (do
      let ov ← holding [v] (eval (.Name x p) X.env)
      let iv ← holding [v, ov] (eval k X.env)
      standAt spos
      holding [v, ov, iv] (setItem ov iv v)
      release [v, ov, iv] []) := by intro _; rfl)
    (hs : swapsWithSole [.Subscript (.Name x p) k spos] e pos.line X.env = pure false := by rfl) (hw : swappedStores [.Subscript (.Name x p) k spos] e X.env = pure none := by rfl) (h1 : (assignEach [.Subscript (.Name x p) k spos] X.env).map (·.2) = [assign (.Subscript (.Name x p) k spos) X.env] := by rfl) :
    DS X E (.Assign [.Subscript (.Name x p) k spos] e pos) (dPut i fk fx) := by
  obtain ⟨t, pt, r⟩ := hx.run
  obtain ⟨tk, pk, rk⟩ := hk.run
  refine ⟨_, ps_asg pt (pg_sub h pk (PSet.or set_list (set_dict hu)) ha) hs hw h1, fun F0 H0 F H σ ρ en D g => r F0 H0 F H σ ρ [] en _ ?_⟩
  unfold dPut at g
  refine XG.bind (k := fun x => match x.2[i]? with
    | some (.val d) => if noOwn d then .bad else do
      let k ← fk x.2
      match k with
      | .val k => match putAt d k x.1 with
        | some d' => .ok (.nx (x.2.set i (.val d')))
        | none => .bad
      | _ => .bad
    | _ => .bad) g fun d ρ' _ g v F1 H1 fp en1 rp => ?_
  simp only at g
  split at g
  · rename_i d0 ei
    split at g
    · exact g.elim
    · rename_i hn
      have hn : noOwn d0 = false := by simpa using hn
      have ep := place_var (ρ := ρ') ei hn
      obtain ⟨vj, v0, f0, h1', hw', h3, _, _⟩ := en1.cell ep
      cases hw'
      refine ⟨vj, h1', rk F0 H0 F1 H1 σ ρ' (fp ++ []) en1 _ ?_⟩
      cases ek : fk ρ' with
      | bad => rw [ek] at g; exact g.elim
      | exc c => rw [ek] at g; exact g
      | ok y =>
        rw [ek] at g
        simp only [ok_bind] at g
        intro kv F2 H2 f2 x2 r2 q2
        cases y with
        | lv _ _ => exact g.elim
        | val kd =>
          simp only at g
          have q2 : Rp X.K F2 H2 kd kv f2 := q2
          have en2 : En X.K F0 H0 F2 H2 σ ρ' fp := by
            have q := en1.ext x2
            rw [List.append_nil] at q
            exact q
          have rp2 : Rp X.K F2 H2 d v fp := Rp.mono x2.f d v fp (fun b hb => x2.keep (by
            obtain ⟨cs, w, _⟩ := en1
            exact (w.own b (List.mem_append_left _ (List.mem_append_left _ hb))).2.2)) rp
          cases eput : putAt d0 kd d with
          | none => rw [eput] at g; exact g.elim
          | some d' =>
            rw [eput] at g
            cases d0 with
            | lst o xs =>
              cases o with
              | false => cases eput
              | true =>
                cases kd with
                | int n =>
                  obtain ⟨m, hm, em⟩ := Option.map_eq_some_iff.mp (show (ixN xs.length n).map _ = some d' from eput)
                  subst em
                  obtain ⟨vj', a, vs, f0', z1, z2, ha', hr, ne, close⟩ := en2.listAt ep
                  rw [h1'] at z1; cases z1
                  cases z2
                  obtain ⟨f3, l, hr3, pm⟩ := hr.set' rp2 (ixN_seq hm).2.1
                  refine .inl ⟨a, vs, n, m, rfl, q2.1, ha', by rw [← hr.length]; exact hm, ?_⟩
                  exact g F2 _ σ (close (vs.set m v) (xs.set m d) f3 [] l hr3 (by simpa using pm))
                | _ => cases eput
            | dk o ks xs =>
              cases o with
              | false => cases eput
              | true =>
                simp only [putAt] at eput
                split at eput
                · rename_i hlt
                  obtain ⟨y, hy, eput⟩ := Option.map_eq_some_iff.mp eput
                  subst eput
                  obtain ⟨vj', a, vs, f0', z1, z2, ha', ⟨hl, nd⟩, hr, ne, close⟩ := en2.dkAt ep
                  rw [h1'] at z1; cases z1
                  cases z2
                  have ey := key_rp q2 hy
                  obtain ⟨f3, l, hr3, e3, hk3, pm, zip⟩ := putKs_rp (y := y) hr rp2 hl nd
                  refine .inr ⟨a, _, rfl, .inl ⟨_, y, ha', ey, by rw [List.length_zip, ← hl, Nat.min_self]; exact hlt, rfl⟩, ?_⟩
                  rw [zip]
                  refine g F2 _ σ ?_
                  rw [e3]
                  exact close _ _ _ f3 [] l hr3 hk3 (by simpa using pm)
                · cases eput
            | dt o ks xs =>
              cases o with
              | false => cases eput
              | true =>
                simp only [putAt] at eput
                split at eput
                · rename_i hlt
                  obtain ⟨y, hy, eput⟩ := Option.map_eq_some_iff.mp eput
                  subst eput
                  obtain ⟨vj', a, vs, f0', z1, z2, ha', ⟨hl, nd⟩, hr, ne, close⟩ := en2.dtAt ep
                  rw [h1'] at z1; cases z1
                  cases z2
                  cases kd with
                  | tup es =>
                    obtain ⟨b, ws, ey0, hb0, rb⟩ := q2
                    have ek0 := keys_rp rb (show keysOf es = some y from hy)
                    subst ek0
                    obtain ⟨f3, l, hr3, e3, hk3, pm, zip⟩ := putKs_rp (y := y) hr rp2 hl nd
                    refine .inr ⟨a, _, rfl, .inr ⟨_, y, b, ha', ey0, x2.sub _ _ hb0, by rw [List.length_zip, ← hl, Nat.min_self]; exact hlt, rfl⟩, ?_⟩
                    rw [zip]
                    refine g F2 _ σ ?_
                    rw [e3]
                    exact close _ _ _ f3 [] l hr3 hk3 (by simpa using pm)
                  | _ => cases hy
                · cases eput
            | _ => cases eput
  · exact g.elim
end
end Dl
set_option Elab.async false
set_option linter.all false
set_option maxRecDepth 100000
set_option maxHeartbeats 4000000
/- D-layer 10: if, targets, iterators, for, while, comprehensions. -/
namespace Dl
open PySem L2

section
variable {X : Cx} {E : XK} {e a b c : Expr} {pos : Pos} {st : Stmt} {sts p q : List Stmt} {f g : Ev → Res Out} {fa fb fo : Ev → Res RV} {fx : Ev → Res (D × Ev)} {gc : Ev → Res Bool}
/-! ### if, a value dropped -/
def dIf (c : Ev → Res Bool) (f g : Ev → Res Out) : Ev → Res Out := fun ρ => do
  let b ← c ρ
  if b then f ρ else g ρ
theorem ds_if (hc : DT X E c gc) (ha : DB X E p f) (hb : DB X E q g) : DS X E (.If c p q pos) (dIf gc f g) := by
  obtain ⟨tc, pc, rc⟩ := hc.run
  obtain ⟨t, pt, rt⟩ := ha.run
  obtain ⟨u, pu, ru⟩ := hb.run
  refine ⟨tIfS tc t u, ps_if pc pt pu, fun F0 H0 F H σ ρ en D h => rc F0 H0 F H σ ρ [] en _ ?_⟩
  unfold dIf at h
  cases ec : gc ρ with
  | bad => rw [ec] at h; exact h
  | exc c => rw [ec] at h; exact h
  | ok b =>
    rw [ec] at h
    simp only [ok_bind] at h
    intro F' H' x
    cases b with
    | true => exact rt F0 H0 F' H' σ ρ (en.ext x) D h
    | false => exact ru F0 H0 F' H' σ ρ (en.ext x) D h
def dDrop (fa : Ev → Res RV) : Ev → Res Out := fun ρ => do
  let _ ← fa ρ
  .ok (.nx ρ)
theorem ds_drop (ha : DE X E e fa) (hs : swapsWith e none pos.line X.env = pure false := by rfl) : DS X E (.Expr e pos) (dDrop fa) := by
  obtain ⟨t, pt, r⟩ := ha.run
  refine ⟨tDrop t, ps_expr pt hs, fun F0 H0 F H σ ρ en D h => r F0 H0 F H σ ρ [] en _ ?_⟩
  unfold dDrop at h
  cases ea : fa ρ with
  | bad => rw [ea] at h; exact h
  | exc c => rw [ea] at h; exact h
  | ok x =>
    rw [ea] at h
    exact fun v F' H' fp x1 _ _ => h F' H' σ (en.ext x1)

end
/-! ### targets -/
structure DG (X : Cx) (tg : Expr) (is : List Nat) (h : D → Ev → Option Ev) : Prop where
  run : ∃ g, PG X tg g ∧ ∀ F0 H0 F H σ ρ fr fp d v, En X.K F0 H0 F H σ ρ (fp ++ fr) → Rp X.K F H d v fp → ∀ ρ', h d ρ = some ρ' → ∀ Q : St → Hp → Prop,
    (∀ σ', En X.K F0 H0 F H σ' ρ' fr → (∀ vs, (∀ i ∈ is, i ∈ vs) → wipe σ' vs = wipe σ vs) → Q σ' H) → g v σ H Q
structure DGs (X : Cx) (ts : List Expr) (is : List Nat) (h : List D → Ev → Option Ev) : Prop where
  run : ∃ g, PGs X ts g ∧ ∀ F0 H0 F H σ ρ fr fp ds vs, En X.K F0 H0 F H σ ρ (fp ++ fr) → RpL X.K F H ds vs fp → ∀ ρ', h ds ρ = some ρ' → ∀ Q : St → Hp → Prop,
    (∀ σ', En X.K F0 H0 F H σ' ρ' fr → (∀ vs, (∀ i ∈ is, i ∈ vs) → wipe σ' vs = wipe σ vs) → Q σ' H) → g vs σ H Q
  len : ∀ ds ρ ρ', h ds ρ = some ρ' → ds.length = ts.length
def hN (i : Nat) : D → Ev → Option Ev := fun d ρ => some (ρ.set i (.val d))
def hNil : List D → Ev → Option Ev := fun ds ρ => match ds with
  | [] => some ρ
  | _ => none
def hCons (h : D → Ev → Option Ev) (hs : List D → Ev → Option Ev) : List D → Ev → Option Ev := fun ds ρ => match ds with
  | d :: r => (h d ρ).bind fun ρ' => hs r ρ'
  | [] => none
def hTup (hs : List D → Ev → Option Ev) : D → Ev → Option Ev := fun d ρ => match d with
  | .tup ds => hs ds ρ
  | _ => none
theorem wipe_set_out {σ : St} {i : Nat} {x : Option V} : ∀ {vs : List Nat}, i ∉ vs → wipe (σ.set i x) vs = (wipe σ vs).set i x
  | [], _ => rfl
  | v :: vs, h => by
    have h1 : i ≠ v := fun e => h (e ▸ List.mem_cons_self)
    have h2 : i ∉ vs := fun z => h (List.mem_cons_of_mem _ z)
    show (wipe (σ.set i x) vs).set v none = ((wipe σ vs).set v none).set i x
    rw [wipe_set_out h2, List.set_comm _ _ h1]
theorem wipe_set {σ : St} {i : Nat} {x : Option V} : ∀ {vs : List Nat}, i ∈ vs → wipe (σ.set i x) vs = wipe σ vs
  | [], h => nomatch h
  | v :: vs, h => by
    show (wipe (σ.set i x) vs).set v none = (wipe σ vs).set v none
    by_cases h2 : i ∈ vs
    · rw [wipe_set h2]
    · have e : i = v := by
        rcases List.mem_cons.mp h with z | z
        · exact z
        · exact absurd z h2
      rw [wipe_set_out h2, e, List.set_set]
section
variable {X : Cx} {pos : Pos} {e : Expr} {es : List Expr} {is js : List Nat} {h : D → Ev → Option Ev} {hs : List D → Ev → Option Ev}
theorem dg_name {i : Nat} {x : Str} (hN' : X.N.Nodup) (hi : X.N[i]? = some x) (hx : Loc X.env.scope x) (hf : X.fn x = true ∨ X.env.scope.names.lookup x = some .local := by first | exact .inl rfl | exact .inr rfl | assumption) : DG X (.Name x pos) [i] (hN i) :=
  ⟨gName i, pg_name hN' hi hx hf, fun F0 H0 F H σ ρ fr fp d v en r ρ' e Q q => by
    have e : ρ.set i (.val d) = ρ' := Option.some.inj e
    subst e
    exact q _ (En.set i en r) fun vs hv => wipe_set (hv i (by simp))⟩
theorem dgs_nil : DGs X [] [] hNil := by
  refine ⟨⟨gNil, pgs_nil, fun F0 H0 F H σ ρ fr fp ds vs en r ρ' e Q q => ?_⟩, fun ds ρ ρ' e => ?_⟩
  · unfold hNil at e
    split at e
    · cases e
      obtain ⟨rfl, rfl⟩ := r
      exact ⟨rfl, q _ en fun _ _ => rfl⟩
    · cases e
  · unfold hNil at e
    split at e
    · rfl
    · cases e
theorem dgs_cons (h1 : DG X e is h) (h2 : DGs X es js hs) (hst : (assignEach (e :: es) X.env).map (·.2) = assign e X.env :: (assignEach es X.env).map (·.2) := by rfl) : DGs X (e :: es) (is ++ js) (hCons h hs) := by
  obtain ⟨g, pg, rg⟩ := h1.run
  obtain ⟨⟨g2, pg2, rg2⟩, hl⟩ := h2
  refine ⟨⟨gCons g g2, pgs_cons pg pg2 hst, fun F0 H0 F H σ ρ fr fp ds vs en r ρ' e Q q => ?_⟩, fun ds ρ ρ' e => ?_⟩
  · unfold hCons at e
    split at e
    · rename_i d rest
      obtain ⟨v, t, f, f2, rfl, rfl, r1, r2⟩ := r
      obtain ⟨ρ1, e1, e2⟩ := Option.bind_eq_some_iff.mp e
      refine ⟨v, t, rfl, rg F0 H0 F H σ ρ (f2 ++ fr) f d v (by rw [← List.append_assoc]; exact en) r1 ρ1 e1 _ fun σ1 en1 w1 => ?_⟩
      refine rg2 F0 H0 F H σ1 ρ1 fr f2 rest t en1 r2 ρ' e2 Q fun σ2 en2 w2 => q σ2 en2 fun vs hv => ?_
      rw [w2 vs fun i hi => hv i (List.mem_append_right _ hi), w1 vs fun i hi => hv i (List.mem_append_left _ hi)]
    · cases e
  · unfold hCons at e
    split at e
    · rename_i d rest
      obtain ⟨ρ1, e1, e2⟩ := Option.bind_eq_some_iff.mp e
      rw [List.length_cons, List.length_cons, hl _ _ _ e2]
    · cases e
theorem dg_tup {k n : Nat} (hc : X.calm = true) (h1 : DGs X es js hs) (hn : (assignEach es X.env).length = es.length := by rfl) (hst : (assignEach es X.env).findIdx? (·.1) = none := by rfl) : DG X (.Tuple es k pos) js (hTup hs) := by
  obtain ⟨⟨g, pg, rg⟩, hl⟩ := h1
  refine ⟨gTup X.K es.length g, pg_tup hc pg hn hst, fun F0 H0 F H σ ρ fr fp d v en r ρ' e Q q => ?_⟩
  unfold hTup at e
  split at e
  · rename_i ds
    obtain ⟨a, vs, ev, hq, _, r1⟩ := Rp.sqT en.sub r
    exact ⟨a, vs, ev, hq, by rw [← r1.length, hl _ _ _ e], rg F0 H0 F H σ ρ fr fp ds vs en r1 ρ' e Q q⟩
  · cases e
end
/-- target = e -/
def dAsg (h : D → Ev → Option Ev) (fx : Ev → Res (D × Ev)) : Ev → Res Out := fun ρ => do
  let x ← fx ρ
  match h x.1 x.2 with
  | some ρ' => .ok (.nx ρ')
  | none => .bad
section
variable {X : Cx} {E : XK} {e a b c tg : Expr} {pos : Pos} {is : List Nat} {h : D → Ev → Option Ev} {fx : Ev → Res (D × Ev)}
theorem ds_asg (hx : DX X E e fx) (hg : DG X tg is h) (hs : swapsWithSole [tg] e pos.line X.env = pure false := by rfl) (hw : swappedStores [tg] e X.env = pure none := by rfl)
    (h1 : (assignEach [tg] X.env).map (·.2) = [assign tg X.env] := by rfl) : DS X E (.Assign [tg] e pos) (dAsg h fx) := by
  obtain ⟨t, p, r⟩ := hx.run
  obtain ⟨g, pg, rg⟩ := hg.run
  refine ⟨tAsg t g, ps_asg p pg hs hw h1, fun F0 H0 F H σ ρ en D q => r F0 H0 F H σ ρ [] en _ ?_⟩
  refine XG.bind (k := fun x => match h x.1 x.2 with
    | some ρ' => .ok (.nx ρ')
    | none => .bad) q fun d ρ' _ q v F1 H1 fp en1 rp => ?_
  cases eh : h d ρ' with
  | none => simp only [eh] at q; exact q.elim
  | some ρ2 =>
    simp only [eh] at q
    exact rg F0 H0 F1 H1 σ ρ' [] fp d v en1 rp ρ2 eh _ fun σ' en' _ => q F1 H1 σ' en'
end

/-! ### what a loop or a comprehension walks -/
def ItOk (K : PySem.W.Frag) (S : Hp → Hp → Prop) (J : It) (ds : List D) : Prop :=
  ∀ i F H, S F H → Same F H → (∀ d, ds[i]? = some d → J.go i H ∧ ∀ x H', J.yld i H x H' → ∃ F', Ex F H F' H' ∧ Rp K F' H' d x []) ∧ (ds.length ≤ i → J.stop i H)
def IG (K : PySem.W.Frag) (mg : Str → Option Value) (H0 : Hp) (E : XK) (F H : Hp) (r : Res (List D)) (R : It → Hp → Prop) : Prop := match r with
  | .ok ds => ∀ J F' H', Ex F H F' H' → ItOk K (Ex F' H') J ds → R J H'
  | .exc c => XW mg H0 E c
  | .bad => False
/-- while only new things come -/
structure DIp (X : Cx) (E : XK) (tg it : Expr) (f : Ev → Res (List D)) : Prop where
  run : ∃ wi, PI X tg it wi ∧ ∀ F0 H0 F H σ ρ fr, En X.K F0 H0 F H σ ρ fr → ∀ R, IG X.K X.mg H0 E F H (f ρ) R → wi σ H R
def ISG (K : PySem.W.Frag) (mg : Str → Option Value) (F0 H0 : Hp) (E : XK) (F H : Hp) (σ : St) (r : Res (List D × Ev)) (R : It → Hp → Prop) : Prop := match r with
  | .ok (ds, ρ') => ∀ J F' H', En K F0 H0 F' H' σ ρ' [] → ItOk K (fun F2 _ => Same F' F2) J ds → R J H'
  | .exc c => XW mg H0 E c
  | .bad => False
/-- while what is frozen stays -/
structure DIs (X : Cx) (E : XK) (tg it : Expr) (f : Ev → Res (List D × Ev)) : Prop where
  run : ∃ wi, PI X tg it wi ∧ ∀ F0 H0 F H σ ρ, En X.K F0 H0 F H σ ρ [] → ∀ R, ISG X.K X.mg F0 H0 E F H σ (f ρ) R → wi σ H R
section
variable {K : PySem.W.Frag} {S : Hp → Hp → Prop}
theorem ItOk.list {a : Addr} {vs : List V} {ds : List D} (hl : ∀ F H, S F H → Same F H → SqL K H a vs) (hr : ∀ F H, S F H → Same F H → RpL K F H ds vs []) : ItOk K S (Itl K a) ds := by
  intro i F H s sub
  have q := hl F H s sub
  have r := hr F H s sub
  refine ⟨fun d hd => ?_, fun hi => ⟨vs, q, by rw [← r.length]; exact hi⟩⟩
  obtain ⟨v, f, c1, c2, h1, h2, h3, _⟩ := RpL.at r hd
  have ef : f = [] := by
    have := List.append_eq_nil_iff.mp h2.symm
    exact (List.append_eq_nil_iff.mp this.2).1
  subst ef
  refine ⟨⟨vs, v, q, h1⟩, fun x H' y => ?_⟩
  obtain ⟨e, y⟩ := y
  subst e
  have ex := y vs q
  rw [h1] at ex
  cases ex
  exact ⟨F, Ex.refl sub, h3⟩
theorem ItOk.tup {a : Addr} {vs : List V} {ds : List D} (hl : ∀ F H, S F H → Same F H → SqT K H a vs) (hr : ∀ F H, S F H → Same F H → RpL K F H ds vs []) : ItOk K S (Itt K a) ds := by
  intro i F H s sub
  have q := hl F H s sub
  have r := hr F H s sub
  refine ⟨fun d hd => ?_, fun hi => ⟨vs, q, by rw [← r.length]; exact hi⟩⟩
  obtain ⟨v, f, c1, c2, h1, h2, h3, _⟩ := RpL.at r hd
  have ef : f = [] := by
    have := List.append_eq_nil_iff.mp h2.symm
    exact (List.append_eq_nil_iff.mp this.2).1
  subst ef
  refine ⟨⟨vs, v, q, h1⟩, fun x H' y => ?_⟩
  obtain ⟨e, y⟩ := y
  subst e
  have ex := y vs q
  rw [h1] at ex
  cases ex
  exact ⟨F, Ex.refl sub, h3⟩
theorem ItOk.str {x : Str} : ItOk K S (Its x) (x.cps.toList.map fun c => D.str ⟨#[c]⟩) := by
  intro i F H s sub
  refine ⟨fun d hd => ?_, fun hi => (by simpa using hi : x.cps.size ≤ i)⟩
  rw [List.getElem?_map] at hd
  obtain ⟨c, hc, e⟩ := Option.map_eq_some_iff.mp hd
  rw [Array.getElem?_toList] at hc
  subst e
  refine ⟨(Array.getElem?_eq_some_iff.mp hc).1, fun v H' y => ?_⟩
  obtain ⟨e, c', hc', ev⟩ := y
  subst e
  rw [hc] at hc'
  cases hc'
  exact ⟨F, Ex.refl sub, ev, rfl⟩
theorem ItOk.range {lo : Int} {n : Nat} : ItOk K S (Itr lo n) ((List.range n).map fun (k : Nat) => D.int (lo + (k : Int))) := by
  intro i F H s sub
  refine ⟨fun d hd => ?_, fun hi => (by simpa using hi : n ≤ i)⟩
  rw [List.getElem?_map] at hd
  obtain ⟨c, hc, e⟩ := Option.map_eq_some_iff.mp hd
  have hlt : i < n := by
    have := (List.getElem?_eq_some_iff.mp hc).1
    simpa using this
  have ec : c = i := by
    rw [List.getElem?_range hlt] at hc
    exact (Option.some.inj hc).symm
  subst ec e
  refine ⟨hlt, fun v H' y => ?_⟩
  obtain ⟨e, ev⟩ := y
  subst e
  exact ⟨F, Ex.refl sub, ev, rfl⟩
end
/-- the items of a thing -/
def itemsD : D → Option (List D)
  | .lst _ xs => if noOwnL xs then some xs else none
  | .tup xs => if noOwnL xs then some xs else none
  | .str x => some (x.cps.toList.map fun c => D.str ⟨#[c]⟩)
  | .scr ns => some (ns.map .int)
  | _ => none
def iAny (K : PySem.W.Frag) (te : TE) : TI := fun σ H R => te σ H fun x H1 => (∃ a, x = .ref a ∧ (∃ xs, SqL K H1 a xs) ∧ R (Itl K a) H1) ∨ (∃ a, x = .ref a ∧ (∃ xs, SqT K H1 a xs) ∧ R (Itt K a) H1) ∨ ∃ y, x = .str y ∧ R (Its y) H1
section
variable {X : Cx} {tg : Expr} {pins : List (Addr × Obj)} {σ : St} {H : Hp} {s : Shared} {R : It → Hp → Prop}
theorem it_list {a : Addr} {xs : List V} (I : Inv X pins σ H s) (hq : SqL X.K H a xs) (q : R (Itl X.K a) H) : wpAny (model X.prog X.w) X.A (pyIter (.ref a)) (PIE X pins σ tg R) X.xe s := by
  obtain ⟨its, _, p, _⟩ := I.list hq
  exact wpAny_pyIter_list p.isList (pi_one (tk := s.toks) I _ (turn_list a _) ⟨_, Heap.get?_push_size _ rfl, rfl, rfl⟩ q)
theorem it_tup {a : Addr} {xs : List V} (I : Inv X pins σ H s) (hq : SqT X.K H a xs) (q : R (Itt X.K a) H) : wpAny (model X.prog X.w) X.A (pyIter (.ref a)) (PIE X pins σ tg R) X.xe s := by
  obtain ⟨its, _, p, _⟩ := I.tuple hq
  exact wpAny_pyIter_tuple (show s.heap.IsTuple a its.toArray from p) (pi_one (tk := s.toks) I _ (turn_tuple a _) ⟨_, Heap.get?_push_size _ rfl, rfl, rfl⟩ q)
theorem it_str {x : Str} {t : Tok} (I : Inv X pins σ H s) (q : R (Its x) H) : wpAny (model X.prog X.w) X.A (pyIter (.str x t)) (PIE X pins σ tg R) X.xe s := by
  cases ha : x.cps.all (· < 128)
  · exact wpAny_pyIter_wide ha (pi_one (tk := s.toks) I _ (turn_str _ x t "str_iterator" (.inr rfl)) ⟨_, Heap.get?_push_size _ rfl, rfl, rfl⟩ q)
  · exact wpAny_pyIter_ascii ha (pi_one (tk := s.toks) I _ (turn_str _ x t "str_ascii_iterator" (.inl rfl)) ⟨_, Heap.get?_push_size _ rfl, rfl, rfl⟩ q)
end
theorem pi_any {X : Cx} {tg e : Expr} {te : TE} (he : PE X e te) : PI X tg e (iAny X.K te) := by
  refine ⟨fun pins s σ H R I h => thn (he.run pins s σ H _ I h) fun v s1 ⟨x, H1, I1, r1, q1⟩ => ?_⟩
  rcases q1 with ⟨a, e, ⟨xs, hx⟩, q⟩ | ⟨a, e, ⟨xs, hx⟩, q⟩ | ⟨y, e, q⟩
  · subst e
    cases r1
    exact it_list I1 hx q
  · subst e
    cases r1
    exact it_tup I1 hx q
  · subst e
    obtain ⟨t, rfl⟩ := r1
    exact it_str I1 q

/-! ### iterators over values -/
def dItems (fa : Ev → Res RV) : Ev → Res (List D) := fun ρ => do
  let x ← fa ρ
  let d ← lookD ρ x
  Res.ofOpt (itemsD d)
def dItemsS (fx : Ev → Res (D × Ev)) : Ev → Res (List D × Ev) := fun ρ => do
  let x ← fx ρ
  match itemsD (frz x.1) with
  | some ds => .ok (ds, x.2)
  | none => .bad
theorem Rp.rdSame {F F' H' : Hp} (s1 : Same F F') (s2 : Same F' H') {a : Addr} {u : HO} (h : Rd F a u) : Rd H' a u := rd_same s2 (rd_same s1 h)
theorem items_frozen {K : PySem.W.Frag} {F H : Hp} {d : D} {v : V} {ds : List D} {R : It → Hp → Prop} (sub : Same F H) (r : Rp K F H d v []) (hn : noOwn d = true) (e : itemsD d = some ds) (S : Hp → Hp → Prop) (hS : ∀ F2 H2, S F2 H2 → Same F F2)
    (q : ∀ J, ItOk K S J ds → R J H) : (∃ a, v = .ref a ∧ (∃ xs, SqL K H a xs) ∧ R (Itl K a) H) ∨ (∃ a, v = .ref a ∧ (∃ xs, SqT K H a xs) ∧ R (Itt K a) H) ∨ ∃ y, v = .str y ∧ R (Its y) H := by
  cases d with
  | lst o xs =>
    cases o with
    | true => cases hn
    | false =>
      simp only [itemsD] at e
      split at e
      · cases e
        obtain ⟨_, a, vs, ev, hr, hl⟩ := r
        refine .inl ⟨a, ev, ⟨vs, .inl (rd_same sub hr)⟩, q _ (ItOk.list (vs := vs) (fun F2 H2 s s2 => .inl (rd_same s2 (rd_same (hS F2 H2 s) hr))) fun F2 H2 s s2 => ?_)⟩
        exact RpL.mono (hS F2 H2 s) _ _ [] (fun _ z => nomatch z) hl
      · cases e
  | tup xs =>
    simp only [itemsD] at e
    split at e
    · cases e
      obtain ⟨a, vs, ev, hr, hl⟩ := r
      refine .inr (.inl ⟨a, ev, ⟨vs, SqT.of (sub _ _ hr)⟩, q _ (ItOk.tup (vs := vs) (fun F2 H2 s s2 => SqT.of (s2 _ _ (hS F2 H2 s _ _ hr))) fun F2 H2 s s2 => ?_)⟩)
      exact RpL.mono (hS F2 H2 s) _ _ [] (fun _ z => nomatch z) hl
    · cases e
  | str x =>
    cases e
    exact .inr (.inr ⟨x, r.1, q _ ItOk.str⟩)
  | scr ns =>
    cases e
    obtain ⟨_, a, ev, hq⟩ := r
    refine .inl ⟨a, ev, ⟨_, sub.seq hq⟩, q _ (ItOk.list (vs := ns.map V.int) (fun F2 H2 s s2 => s2.seq ((hS F2 H2 s).seq hq)) fun F2 H2 s s2 => rpL_ints ns)⟩
  | _ => cases e
section
variable {X : Cx} {E : XK} {e a b c tg : Expr} {pos : Pos} {fa : Ev → Res RV} {fx : Ev → Res (D × Ev)} {fs : Ev → Res (List RV)}
theorem dip_any (ha : DE X E e fa) : DIp X E tg e (dItems fa) := by
  obtain ⟨t, p, r⟩ := ha.run
  refine ⟨iAny X.K t, pi_any p, fun F0 H0 F H σ ρ fr en R h => r F0 H0 F H σ ρ fr en _ ?_⟩
  unfold dItems at h
  cases ea : fa ρ with
  | bad => rw [ea] at h; exact h
  | exc c => rw [ea] at h; exact h
  | ok x =>
    rw [ea] at h
    simp only [ok_bind] at h
    intro v F' H' fp x1 fr' q
    cases ex : lookD ρ x with
    | bad => rw [ex] at h; exact h.elim
    | exc c => exact absurd ex (lookD_ne _ _ _)
    | ok d =>
      rw [ex] at h
      simp only [ok_bind] at h
      cases ei : itemsD d with
      | none => rw [ei] at h; exact h.elim
      | some ds =>
        rw [ei] at h
        have h : ∀ J F2 H2, Ex F H F2 H2 → ItOk X.K (Ex F2 H2) J ds → R J H2 := h
        obtain ⟨f, rp⟩ := look_rp (en.ext x1) q ex
        have sub := x1.sub
        by_cases hn : noOwn d = true
        · exact items_frozen sub (rp.plain hn) hn ei (Ex F' H') (fun F2 H2 s => s.f) fun J => h J F' H' x1
        · cases d with
          | lst o xs =>
            simp only [itemsD] at ei
            split at ei
            · rename_i hx
              cases ei
              obtain ⟨a, vs, f', ev, hr, hl, _⟩ := Rp.rdL sub rp
              have pl := hl.plain hx
              refine .inl ⟨a, ev, ⟨vs, .inl hr⟩, h _ F' H' x1 (ItOk.list (vs := vs) (fun F2 H2 s s2 => .inl (rd_same s.h hr)) fun F2 H2 s s2 => ?_)⟩
              exact RpL.mono s.f _ _ [] (fun _ z => nomatch z) pl
            · cases ei
          | tup xs =>
            simp only [itemsD] at ei
            split at ei
            · rename_i hx
              exact absurd hx hn
            · cases ei
          | str x => exact absurd rfl hn
          | scr x => exact absurd rfl hn
          | _ => cases ei
theorem dis_any (hx : DX X E e fx) : DIs X E tg e (dItemsS fx) := by
  obtain ⟨t, p, r⟩ := hx.run
  refine ⟨iAny X.K t, pi_any p, fun F0 H0 F H σ ρ en R h => r F0 H0 F H σ ρ [] en _ ?_⟩
  unfold dItemsS at h
  cases ea : fx ρ with
  | bad => rw [ea] at h; exact h
  | exc c => rw [ea] at h; exact h
  | ok x =>
    obtain ⟨d, ρ'⟩ := x
    rw [ea] at h
    simp only [ok_bind] at h
    intro v F' H' fp en1 rp s1 _
    cases ei : itemsD (frz d) with
    | none => rw [ei] at h; exact h.elim
    | some ds =>
      rw [ei] at h
      obtain ⟨cs, w, er⟩ := en1
      have rp' := Rp.freeze (l := fp) w.sub d v fp (fun _ z => z) rp
      have w' : Wd F0 H0 (addF F' H' fp) H' ([] ++ cs) := by
        have w : Wd F0 H0 F' H' (fp ++ ([] ++ cs)) := by simpa using w
        exact Wd.frz w
      have en2 : En X.K F0 H0 (addF F' H' fp) H' σ ρ' [] := ⟨cs, w', er.mono (addF_same w.sub) fun _ _ => rfl⟩
      exact items_frozen w'.sub rp' (noOwn_frz d) ei (fun F2 _ => Same (addF F' H' fp) F2) (fun F2 H2 s => s) fun J => h J _ H' en2
/-! ### ranges -/
structure DIr (X : Cx) (E : XK) (tg it : Expr) (f : Ev → Res (List D)) : Prop where
  run : ∃ wi, PI X tg it wi ∧ ∀ F0 H0 F H σ ρ fr, En X.K F0 H0 F H σ ρ fr → ∀ R : It → Hp → Prop, (match f ρ with
    | .ok ds => ∀ J F' H', Ex F H F' H' → (∀ S, ItOk X.K S J ds) → R J H'
    | .exc c => XW X.mg H0 E c
    | .bad => False) → wi σ H R
def dKeep (f : Ev → Res (List D)) : Ev → Res (List D × Ev) := fun ρ => do
  let ds ← f ρ
  .ok (ds, ρ)
variable {fi : Ev → Res (List D)}
theorem DIr.p (h : DIr X E tg e fi) : DIp X E tg e fi := by
  obtain ⟨wi, p, r⟩ := h.run
  refine ⟨wi, p, fun F0 H0 F H σ ρ fr en R q => r F0 H0 F H σ ρ fr en R ?_⟩
  cases ef : fi ρ with
  | bad => rw [ef] at q; exact q
  | exc c => rw [ef] at q; exact q
  | ok ds => rw [ef] at q; exact fun J F' H' x k => q J F' H' x (k _)
theorem DIr.s (h : DIr X E tg e fi) : DIs X E tg e (dKeep fi) := by
  obtain ⟨wi, p, r⟩ := h.run
  refine ⟨wi, p, fun F0 H0 F H σ ρ en R q => r F0 H0 F H σ ρ [] en R ?_⟩
  unfold dKeep at q
  cases ef : fi ρ with
  | bad => rw [ef] at q; exact q
  | exc c => rw [ef] at q; exact q
  | ok ds => rw [ef] at q; exact fun J F' H' x k => q J F' H' (en.ext x) (k _)
def rangeD (lo hi : Int) : List D := (List.range (hi - lo).toNat).map fun (k : Nat) => D.int (lo + (k : Int))
noncomputable def ranD : List RV → Option (List D)
  | [.val (.int j)] => if clD (-(2 ^ 62) ≤ j ∧ j < 2 ^ 62) then some (rangeD 0 j) else none
  | [.val (.int i), .val (.int j)] => if clD (-(2 ^ 62) ≤ i ∧ i < 2 ^ 62 ∧ -(2 ^ 62) ≤ j ∧ j < 2 ^ 62) then some (rangeD i j) else none
  | _ => none
noncomputable def dRan (fs : Ev → Res (List RV)) : Ev → Res (List D) := fun ρ => do
  let rs ← fs ρ
  Res.ofOpt (ranD rs)
theorem dir_range1 {p : Pos} (hg : Gl X "range") (hm : X.mg "range" = none) (ha : DA X E [a] fs) (hs : starEach [a] X.env = [(false, eval a X.env)] := by rfl) : DIr X E tg (.Call (.Name "range" p) [a] [] pos) (dRan fs) := by
  obtain ⟨⟨t, pt, r⟩, hl⟩ := ha
  refine ⟨iRng1 t, pi_range1 hg hm pt hs, fun F0 H0 F H σ ρ fr en R q => r F0 H0 F H σ ρ fr en _ ?_⟩
  unfold dRan at q
  cases ef : fs ρ with
  | bad => rw [ef] at q; exact q
  | exc c => rw [ef] at q; exact q
  | ok rs =>
    rw [ef] at q
    simp only [ok_bind] at q
    intro vs F' H' fp x _ rl
    have l := hl ρ rs ef
    cases er : ranD rs with
    | none => rw [er] at q; exact q.elim
    | some ds =>
      rw [er] at q
      have q : ∀ J F2 H2, Ex F H F2 H2 → (∀ S, ItOk X.K S J ds) → R J H2 := q
      unfold ranD at er
      split at er
      · rename_i j
        split at er
        · rename_i c
          cases er
          obtain ⟨v, t, f, g, e1, e2, h1, h2, _⟩ := rl
          have c := of_clD c
          subst e1 h2
          refine ⟨j, by rw [show v = V.int j from h1.1], c.1, c.2, q _ F' H' x fun S => ?_⟩
          have := ItOk.range (K := X.K) (S := S) (lo := 0) (n := j.toNat)
          unfold rangeD
          simpa using this
        · cases er
      · cases l
      · cases er
theorem dir_range2 {p : Pos} (hg : Gl X "range") (hm : X.mg "range" = none) (ha : DA X E [a, b] fs) (hs : starEach [a, b] X.env = [(false, eval a X.env), (false, eval b X.env)] := by rfl) (hs2 : starEach [b] X.env = [(false, eval b X.env)] := by rfl) :
    DIr X E tg (.Call (.Name "range" p) [a, b] [] pos) (dRan fs) := by
  obtain ⟨⟨t, pt, r⟩, hl⟩ := ha
  refine ⟨iRng2 t, pi_range2 hg hm pt hs hs2, fun F0 H0 F H σ ρ fr en R q => r F0 H0 F H σ ρ fr en _ ?_⟩
  unfold dRan at q
  cases ef : fs ρ with
  | bad => rw [ef] at q; exact q
  | exc c => rw [ef] at q; exact q
  | ok rs =>
    rw [ef] at q
    simp only [ok_bind] at q
    intro vs F' H' fp x _ rl
    have l := hl ρ rs ef
    cases er : ranD rs with
    | none => rw [er] at q; exact q.elim
    | some ds =>
      rw [er] at q
      have q : ∀ J F2 H2, Ex F H F2 H2 → (∀ S, ItOk X.K S J ds) → R J H2 := q
      unfold ranD at er
      split at er
      · cases l
      · rename_i i j
        split at er
        · rename_i c
          cases er
          obtain ⟨v, t, f, g, e1, e2, h1, v2, t2, f2, g2, e3, e4, h2, h3, _⟩ := rl
          have c := of_clD c
          subst e1 e3 h3
          exact ⟨i, j, by rw [show v = V.int i from h1.1, show v2 = V.int j from h2.1], c, q _ F' H' x fun S => ItOk.range⟩
        · cases er
      · cases er
end
end Dl
set_option Elab.async false
set_option linter.all false
set_option maxRecDepth 100000
set_option maxHeartbeats 4000000
/- D-layer 11: for, while, list comprehensions. -/
namespace Dl
open PySem L2

/-! ### for -/
def forL (h : D → Ev → Option Ev) (f : Ev → Res Out) : List D → Ev → Res Out
  | [], ρ => .ok (.nx ρ)
  | d :: ds, ρ => match h d ρ with
    | none => .bad
    | some ρ1 => do
      let o ← f ρ1
      match o with
      | .nx ρ2 => forL h f ds ρ2
      | .ct ρ2 => forL h f ds ρ2
      | .bk ρ2 => .ok (.nx ρ2)
      | .rt d => .ok (.rt d)
def dFor (fi : Ev → Res (List D × Ev)) (h : D → Ev → Option Ev) (f : Ev → Res Out) : Ev → Res Out := fun ρ => do
  let x ← fi ρ
  forL h f x.1 x.2
section
variable {K : PySem.W.Frag} {F0 H0 F1 H1 F H : Hp} {σ : St} {ρ : Ev} {fr L M : List Addr} {mg : Str → Option Value} {E : XK}
theorem Wd.base (w : Wd F0 H0 F H L) : Wd F H0 F H L := ⟨w.sub, w.ent, Same.refl F, fun _ z => .inl z, w.nod, w.own⟩
theorem Wd.unbase (w1 : Wd F0 H0 F1 H1 M) (w : Wd F1 H0 F H L) : Wd F0 H0 F H L := ⟨w.sub, w.ent, w1.bas.trans w.bas, fun b z => by
  rcases w.frs b z with q | q
  · exact w1.frs b q
  · exact .inr q, w.nod, w.own⟩
theorem En.base (en : En K F0 H0 F H σ ρ fr) : En K F H0 F H σ ρ fr := let ⟨cs, w, r⟩ := en; ⟨cs, w.base, r⟩
theorem En.unbase (w1 : Wd F0 H0 F1 H1 M) (en : En K F1 H0 F H σ ρ fr) : En K F0 H0 F H σ ρ fr := let ⟨cs, w, r⟩ := en; ⟨cs, Wd.unbase w1 w, r⟩
theorem En.wd (en : En K F0 H0 F H σ ρ fr) : ∃ L, Wd F0 H0 F H L := let ⟨_, w, _⟩ := en; ⟨_, w⟩
theorem SG.base (w1 : Wd F0 H0 F1 H1 M) {r : Res Out} {D : Ends} (h : SG K mg F0 H0 E r D) : SG K mg F1 H0 E r D := by
  cases r with
  | bad => exact h
  | exc c => exact h
  | ok o =>
    cases o with
    | nx ρ' => exact fun F' H' σ' en => h F' H' σ' (en.unbase w1)
    | rt d => exact fun v F' H' fp w r => h v F' H' fp (Wd.unbase w1 w) r
    | bk ρ' => exact fun F' H' σ' en => h F' H' σ' (en.unbase w1)
    | ct ρ' => exact fun F' H' σ' en => h F' H' σ' (en.unbase w1)
end
/-- what the body of a loop is to reach -/
theorem SG.turn {K : PySem.W.Frag} {F0 H0 : Hp} {mg : Str → Option Value} {E : XK} {r : Res Out} {D : Ends} {N : St → Hp → Prop} {k : Ev → Res Out} (h : SG K mg F0 H0 E (r >>= fun o => match o with
      | .nx ρ2 => k ρ2
      | .ct ρ2 => k ρ2
      | .bk ρ2 => .ok (.nx ρ2)
      | .rt d => .ok (.rt d)) D) (hN : ∀ ρ, SG K mg F0 H0 E (k ρ) D → ∀ F H σ, En K F0 H0 F H σ ρ [] → N σ H) : SG K mg F0 H0 E r { D with nx := N, ct := N, bk := D.nx } := by
  cases r with
  | bad => exact h
  | exc c => exact h
  | ok o =>
    cases o with
    | nx ρ' => exact fun F' H' σ' en => hN ρ' h F' H' σ' en
    | rt d => exact h
    | bk ρ' => exact h
    | ct ρ' => exact fun F' H' σ' en => hN ρ' h F' H' σ' en
section
variable {X : Cx} {E : XK} {e a b c tg iter : Expr} {pos : Pos} {is : List Nat} {h : D → Ev → Option Ev} {fi : Ev → Res (List D × Ev)} {f : Ev → Res Out} {body : List Stmt} {gc : Ev → Res Bool}
theorem ds_for (hp : PassesOwn (model X.prog X.w) X.A X.env X.xe) (hc : X.calm = true) (hi : DIs X E tg iter fi) (hg : DG X tg is h) (hb : DB X E body f) (hs : ∀ x, foldedSetIterable iter X.env x = pure x := by intro _; rfl) : DS X E (.For tg iter body [] pos) (dFor fi h f) := by
  obtain ⟨wi, pi, ri⟩ := hi.run
  obtain ⟨g, pg, rg⟩ := hg.run
  obtain ⟨tb, pb, rb⟩ := hb.run
  refine ⟨tFor wi g tb, ps_for hp hc pi pg pb hs, fun F0 H0 F H σ ρ en D q => ri F0 H0 F H σ ρ en _ ?_⟩
  unfold dFor at q
  cases ef : fi ρ with
  | bad => rw [ef] at q; exact q
  | exc c => rw [ef] at q; exact q
  | ok x =>
    obtain ⟨ds, ρ'⟩ := x
    rw [ef] at q
    simp only [ok_bind] at q
    intro J F1 H1 en1 it
    obtain ⟨L1, w1⟩ := en1.wd
    refine ⟨fun i m σ H => m = ds.length - i ∧ i ≤ ds.length ∧ ∃ F ρ, En X.K F1 H0 F H σ ρ [] ∧ SG X.K X.mg F1 H0 E (forL h f (ds.drop i) ρ) D, ⟨ds.length, by simp, Nat.zero_le _, F1, ρ', en1.base, by simpa using q.base w1⟩, ?_⟩
    rintro i m σ2 H2 ⟨hm, hi', F2, ρ2, en2, q2⟩
    have t := it i F2 H2 (let ⟨_, w, _⟩ := en2; w.bas) en2.sub
    by_cases hlt : i < ds.length
    · obtain ⟨go, yld⟩ := t.1 ds[i] (List.getElem?_eq_getElem hlt)
      refine .inr ⟨go, fun σ' H' => (m - 1 = ds.length - (i + 1) ∧ i + 1 ≤ ds.length ∧ ∃ F ρ, En X.K F1 H0 F H' σ' ρ [] ∧ SG X.K X.mg F1 H0 E (forL h f (ds.drop (i + 1)) ρ) D), fun σ' H' w => ⟨m - 1, by omega, w⟩, fun x H' y => ?_⟩
      obtain ⟨F3, x3, r3⟩ := yld x H' y
      rw [List.drop_eq_getElem_cons hlt, forL] at q2
      cases eh : h ds[i] ρ2 with
      | none => rw [eh] at q2; exact q2.elim
      | some ρ3 =>
        rw [eh] at q2
        refine rg F1 H0 F3 H' σ2 ρ2 [] [] ds[i] x (en2.ext x3) r3 ρ3 eh _ fun σ4 en4 _ => ?_
        refine rb F1 H0 F3 H' σ4 ρ3 en4 _ ?_
        exact SG.turn (k := forL h f (ds.drop (i + 1))) q2 fun ρ5 q5 F5 H5 σ5 en5 => ⟨by omega, hlt, F5, ρ5, en5, q5⟩
    · have e : i = ds.length := by omega
      subst e
      rw [List.drop_length] at q2
      exact .inl ⟨t.2 (Nat.le_refl _), q2 F2 H2 σ2 en2⟩
/-! ### while -/
def whileL (c : Ev → Res Bool) (f : Ev → Res Out) : Nat → Ev → Res Out
  | 0, _ => .bad
  | n + 1, ρ => do
    let b ← c ρ
    if b then do
      let o ← f ρ
      match o with
      | .nx ρ2 => whileL c f n ρ2
      | .ct ρ2 => whileL c f n ρ2
      | .bk ρ2 => .ok (.nx ρ2)
      | .rt d => .ok (.rt d)
    else .ok (.nx ρ)
open Classical in
noncomputable def dWhile (c : Ev → Res Bool) (f : Ev → Res Out) : Ev → Res Out := fun ρ =>
  if h : ∃ n, whileL c f n ρ ≠ .bad then whileL c f (Classical.choose h) ρ else .bad
theorem whileL_more {c : Ev → Res Bool} {f : Ev → Res Out} : ∀ {n m : Nat} {ρ : Ev}, n ≤ m → whileL c f n ρ ≠ .bad → whileL c f m ρ = whileL c f n ρ
  | 0, _, _, _, h => absurd rfl h
  | n + 1, 0, _, l, _ => by omega
  | n + 1, m + 1, ρ, l, h => by
    unfold whileL at h ⊢
    cases ec : c ρ with
    | bad => rfl
    | exc x => rfl
    | ok b =>
      rw [ec] at h
      cases b with
      | false => rfl
      | true =>
        simp only [ok_bind, if_true] at h ⊢
        cases ef : f ρ with
        | bad => rfl
        | exc x => rfl
        | ok o =>
          rw [ef] at h
          cases o with
          | nx ρ2 => exact whileL_more (Nat.le_of_succ_le_succ l) h
          | ct ρ2 => exact whileL_more (Nat.le_of_succ_le_succ l) h
          | bk ρ2 => rfl
          | rt d => rfl
theorem dWhile_is {c : Ev → Res Bool} {f : Ev → Res Out} {n : Nat} {ρ : Ev} {r : Res Out} (h : whileL c f n ρ = r) (nb : r ≠ .bad) : dWhile c f ρ = r := by
  have hx : ∃ n, whileL c f n ρ ≠ .bad := ⟨n, by rw [h]; exact nb⟩
  unfold dWhile
  rw [dif_pos hx]
  have h2 := Classical.choose_spec hx
  rcases Nat.le_total n (Classical.choose hx) with l | l
  · rw [whileL_more l (by rw [h]; exact nb), h]
  · rw [← whileL_more l h2, h]
theorem ds_while (hp : PassesOwn (model X.prog X.w) X.A X.env X.xe) (hc : DT X E c gc) (hb : DB X E body f) : DS X E (.While c body [] pos) (dWhile gc f) := by
  obtain ⟨tc, pc, rc⟩ := hc.run
  obtain ⟨tb, pb, rb⟩ := hb.run
  refine ⟨tWhile tc tb, ps_while hp pc pb, fun F0 H0 F H σ ρ en D q => ?_⟩
  unfold dWhile at q
  split at q
  · rename_i hx
    refine ⟨fun m σ H => ∃ F ρ, En X.K F0 H0 F H σ ρ [] ∧ SG X.K X.mg F0 H0 E (whileL gc f m ρ) D, ⟨_, F, ρ, en, q⟩, ?_⟩
    rintro m σ1 H1 ⟨F1, ρ1, en1, q1⟩
    cases m with
    | zero => exact q1.elim
    | succ m =>
      refine rc F0 H0 F1 H1 σ1 ρ1 [] en1 _ ?_
      unfold whileL at q1
      cases ec : gc ρ1 with
      | bad => rw [ec] at q1; exact q1
      | exc x => rw [ec] at q1; exact q1
      | ok b =>
        rw [ec] at q1
        simp only [ok_bind] at q1
        intro F2 H2 x2
        cases b with
        | false => exact q1 F2 H2 σ1 (en1.ext x2)
        | true =>
          rw [if_pos rfl] at q1 ⊢
          refine ⟨fun σ' H' => ∃ F ρ, En X.K F0 H0 F H' σ' ρ [] ∧ SG X.K X.mg F0 H0 E (whileL gc f m ρ) D, fun σ' H' w => ⟨m, Nat.lt_succ_self m, w⟩, ?_⟩
          exact rb F0 H0 F2 H2 σ1 ρ1 (en1.ext x2) _ (SG.turn (k := whileL gc f m) q1 fun ρ5 q5 F5 H5 σ5 en5 => ⟨F5, ρ5, en5, q5⟩)
  · exact q.elim
end
end Dl
set_option Elab.async false
set_option linter.all false
set_option maxRecDepth 100000
set_option maxHeartbeats 4000000
/- D-layer 12: list comprehensions. -/
namespace Dl
open PySem L2

/-! ### readings that do not name a context -/
section
variable {X : Cx} {E : XK} {e tg : Expr} {f : Ev → Res RV} {is : List Nat} {h : D → Ev → Option Ev}
def tSem (K : PySem.W.Frag) (mg : Str → Option Value) (E : XK) (f : Ev → Res RV) : TE := fun σ H Q => ∃ F0 H0 F ρ fr, En K F0 H0 F H σ ρ fr ∧ EG K mg H0 E F H σ (f ρ) Q
theorem DE.sem (h : DE X E e f) : PE X e (tSem X.K X.mg E f) := by
  obtain ⟨t, p, r⟩ := h.run
  exact ⟨fun pins s σ H Q I ⟨F0, H0, F, ρ, fr, en, g⟩ => p.run pins s σ H Q I (r F0 H0 F H σ ρ fr en Q g)⟩
def gSem (K : PySem.W.Frag) (is : List Nat) (h : D → Ev → Option Ev) : TG := fun v σ H Q => ∃ F0 H0 F ρ fr fp d ρ', En K F0 H0 F H σ ρ (fp ++ fr) ∧ Rp K F H d v fp ∧ h d ρ = some ρ' ∧
  ∀ σ', En K F0 H0 F H σ' ρ' fr → (∀ vs, (∀ i ∈ is, i ∈ vs) → wipe σ' vs = wipe σ vs) → Q σ' H
theorem DG.sem (hg : DG X tg is h) : PG X tg (gSem X.K is h) := by
  obtain ⟨t, p, r⟩ := hg.run
  exact ⟨fun pins s σ H v u Q I rv ⟨F0, H0, F, ρ, fr, fp, d, ρ', en, rp, e, g⟩ => p.run pins s σ H v u Q I rv (r F0 H0 F H σ ρ fr fp d v en rp ρ' e Q g)⟩
def bSem (K : PySem.W.Frag) (mg : Str → Option Value) (E : XK) (f : Ev → Res Bool) : TT := fun σ H Q => ∃ F0 H0 F ρ fr, En K F0 H0 F H σ ρ fr ∧ TGo mg H0 E F H (f ρ) Q
structure DTs (X : Cx) (E : XK) (ifs : List Expr) (f : Ev → Res Bool) : Prop where
  run : ∃ t, PTs X ifs t ∧ ∀ F0 H0 F H σ ρ fr, En X.K F0 H0 F H σ ρ fr → ∀ Q, TGo X.mg H0 E F H (f ρ) Q → t σ H Q
theorem DTs.sem {ifs : List Expr} {f : Ev → Res Bool} (h : DTs X E ifs f) : PTs X ifs (bSem X.K X.mg E f) := by
  obtain ⟨t, p, r⟩ := h.run
  exact ⟨fun pins s σ H Q I ⟨F0, H0, F, ρ, fr, en, g⟩ => p.run pins s σ H Q I (r F0 H0 F H σ ρ fr en Q g)⟩
def dYes : Ev → Res Bool := fun _ => .ok true
theorem dts_nil : DTs X E [] dYes := ⟨tYes, pts_nil, fun F0 H0 F H σ ρ fr en Q g => g F H (Ex.refl en.sub)⟩
theorem dts_one {f : Ev → Res Bool} (h : DT X E e f) : DTs X E [e] f := let ⟨t, p, r⟩ := h.run; ⟨t, pts_one p, r⟩
end
/-! ### the slots of a block's own names forgotten -/
def wipeE (ρ : Ev) : List Nat → Ev
  | [] => ρ
  | v :: vs => (wipeE ρ vs).set v .none
theorem wipe_wipe (σ : St) : ∀ vs ws : List Nat, (∀ i ∈ vs, i ∈ ws) → wipe (wipe σ vs) ws = wipe σ ws
  | [], ws, _ => rfl
  | v :: vs, ws, h => by
    show wipe ((wipe σ vs).set v none) ws = _
    rw [wipe_set (h v List.mem_cons_self), wipe_wipe σ vs ws fun i hi => h i (List.mem_cons_of_mem _ hi)]
section
variable {K : PySem.W.Frag} {F0 H0 F H F' H' : Hp} {σ : St} {ρ : Ev} {fr fp : List Addr} {a : Addr} {o : HO}
theorem En.unset (en : En K F0 H0 F H σ ρ fr) (i : Nat) : En K F0 H0 F H (σ.set i none) (ρ.set i .none) fr := by
  obtain ⟨cs, w, q⟩ := en
  by_cases hi : i < ρ.length
  · obtain ⟨o, f, c1, c2, x1, x2, x3, put⟩ := EnR.at q (List.getElem?_eq_getElem hi)
    subst x2
    refine ⟨c1 ++ ([] ++ c2), w.less ?_, put F H .none none [] (Same.refl F) (fun _ _ => rfl) rfl⟩
    exact List.Sublist.append_left (List.Sublist.append_left (List.Sublist.append_right (List.nil_sublist f) c2) c1) fr
  · have hi2 : σ.length ≤ i := by rw [← q.length]; exact Nat.not_lt.mp hi
    rw [List.set_eq_of_length_le (Nat.not_lt.mp hi), List.set_eq_of_length_le hi2]
    exact ⟨cs, w, q⟩
theorem En.wipe (en : En K F0 H0 F H σ ρ fr) : ∀ vs : List Nat, En K F0 H0 F H (wipe σ vs) (wipeE ρ vs) fr
  | [] => en
  | v :: vs => (En.wipe en vs).unset v
/-- a cell of what is being made is written -/
theorem En.putFr (en : En K F0 H0 F H σ ρ (a :: fr)) (ho : ∀ xs, o ≠ .tup xs) : En K F0 H0 F (upd H a o) σ ρ (a :: fr) := by
  obtain ⟨cs, w, q⟩ := en
  refine ⟨cs, w.put (by simp) ho, q.mono (Same.refl F) fun b hb => upd_ne fun e => ?_⟩
  have nd := w.nod
  rw [List.cons_append] at nd
  exact (List.nodup_cons.mp nd).1 (e ▸ List.mem_append_right _ hb)
theorem En.permFr {gr : List Addr} (en : En K F0 H0 F H σ ρ fr) (p : gr.Perm fr) : En K F0 H0 F H σ ρ gr := let ⟨cs, w, q⟩ := en; ⟨cs, w.perm (p.append_right cs), q⟩
end

/-! ### [e for x in it if c] -/
def lcL (h : D → Ev → Option Ev) (ft : Ev → Res Bool) (fe : Ev → Res RV) (ρ : Ev) : List D → Res (List D)
  | [] => .ok []
  | d :: ds => match h d ρ with
    | none => .bad
    | some ρ2 => match ft ρ2 with
      | .ok true => match fe ρ2 with
        | .ok (.val y) => match lcL h ft fe ρ ds with
          | .ok r => .ok (y :: r)
          | _ => .bad
        | _ => .bad
      | .ok false => lcL h ft fe ρ ds
      | _ => .bad
def dLc (fi : Ev → Res (List D)) (h : D → Ev → Option Ev) (ft : Ev → Res Bool) (fe : Ev → Res RV) (vs : List Nat) : Ev → Res RV := fun ρ => do
  let ds ← fi ρ
  match lcL h ft fe (wipeE ρ vs) ds with
  | .ok r => if fits r.length then .ok (.val (.lst true r)) else .bad
  | _ => .bad
section
variable {X : Cx} {E E' : XK} {elt tg iter : Expr} {ifs : List Expr} {scope : Scope} {own : List (Str × Nat)} {pos : Pos} {fi : Ev → Res (List D)} {h : D → Ev → Option Ev} {is : List Nat} {ft : Ev → Res Bool} {fe : Ev → Res RV}
theorem lc_run {wi : TI} (ri : ∀ F0 H0 F H σ ρ fr, En X.K F0 H0 F H σ ρ fr → ∀ R, IG X.K X.mg H0 E F H (fi ρ) R → wi σ H R) (hv : ∀ i ∈ is, i ∈ own.map (·.2)) {F0 H0 F H : Hp} {σ : St} {ρ : Ev} {fr : List Addr} (en : En X.K F0 H0 F H σ ρ fr) {Q : VK}
    (q : EG X.K X.mg H0 E F H σ (dLc fi h ft fe (own.map (·.2)) ρ) Q) : tLc wi (gSem X.K is h) (bSem X.K X.mg E' ft) (tSem X.K X.mg E' fe) (own.map (·.2)) σ H Q := by
  refine ri F0 H0 F H σ ρ fr en _ ?_
  unfold dLc at q
  cases ef : fi ρ with
  | bad => rw [ef] at q; exact q
  | exc c => rw [ef] at q; exact q
  | ok ds =>
    rw [ef] at q
    simp only [ok_bind] at q
    generalize hvs : own.map (·.2) = vs at q hv ⊢
    intro J F1 H1 x1 it D hD
    cases el : lcL h ft fe (wipeE ρ vs) ds with
    | bad => rw [el] at q; exact q.elim
    | exc c => rw [el] at q; exact q.elim
    | ok total =>
      rw [el] at q
      simp only at q
      split at q
      · rename_i hfit
        have en1 : En X.K F0 H0 F1 (upd H1 D (.lst [])) (wipe σ vs) (wipeE ρ vs) (D :: fr) := by
          have x := ex_own x1.sub hD (.lst [])
          have y := ((en.ext x1).wipe vs).add x (fr_own x1.sub hD) fun b hb => by
            have e : b = D := by simpa using hb
            rw [e]; exact ⟨_, upd_same, fun _ z => by cases z⟩
          exact y
        have fD : F1 D = none := x1.sub.free hD
        refine ⟨fun i m H => m = ds.length - i ∧ i ≤ ds.length ∧ ∃ F acc accD fp r, Ex F1 H1 F H ∧ En X.K F0 H0 F H (wipe σ vs) (wipeE ρ vs) (D :: (fp ++ fr)) ∧ Fr F H1 (D :: fp) ∧ H D = some (.lst acc) ∧ RpL X.K F H accD acc fp ∧ lcL h ft fe (wipeE ρ vs) (ds.drop i) = .ok r ∧ total = accD ++ r,
          ⟨ds.length, by simp, Nat.zero_le _, F1, [], [], [], total, ex_own x1.sub hD _, en1, ⟨by simp, fun b hb => by
            have e : b = D := by simpa using hb
            rw [e]; exact ⟨fD, hD⟩⟩, upd_same, ⟨rfl, rfl⟩, by simpa using el, rfl⟩, ?_⟩
        rintro i m H2 ⟨hm, hi, F2, acc, accD, fp, r, x2, en2, f2, hacc, racc, er, et⟩
        have t := it i F2 H2 x2 en2.sub
        by_cases hlt : i < ds.length
        · obtain ⟨go, yld⟩ := t.1 ds[i] (List.getElem?_eq_getElem hlt)
          refine .inr ⟨go, fun H => (m - 1 = ds.length - (i + 1) ∧ i + 1 ≤ ds.length ∧ ∃ F acc accD fp r, Ex F1 H1 F H ∧ En X.K F0 H0 F H (wipe σ vs) (wipeE ρ vs) (D :: (fp ++ fr)) ∧ Fr F H1 (D :: fp) ∧ H D = some (.lst acc) ∧ RpL X.K F H accD acc fp ∧ lcL h ft fe (wipeE ρ vs) (ds.drop (i + 1)) = .ok r ∧ total = accD ++ r),
            fun H' w => ⟨m - 1, by omega, w⟩, fun x H3 y => ?_⟩
          obtain ⟨F3, x3, r3⟩ := yld x H3 y
          rw [List.drop_eq_getElem_cons hlt, lcL] at er
          -- what stays through new things
          have stay : ∀ {F4 H4 : Hp}, Ex F2 H2 F4 H4 → Ex F1 H1 F4 H4 ∧ En X.K F0 H0 F4 H4 (wipe σ vs) (wipeE ρ vs) (D :: (fp ++ fr)) ∧ Fr F4 H1 (D :: fp) ∧ H4 D = some (.lst acc) ∧ RpL X.K F4 H4 accD acc fp := fun {F4 H4} x => by
            have cl : ∀ b ∈ D :: fp, Cl H2 b := fun b hb => by
              rcases List.mem_cons.mp hb with z | z
              · rw [z]; exact ⟨_, hacc, fun _ z => by cases z⟩
              · exact racc.cells' b z
            refine ⟨x2.trans x, en2.ext x, ⟨f2.1, fun b hb => ⟨x.not (f2.2 b hb).1 (cl b hb), (f2.2 b hb).2⟩⟩, x.h _ _ hacc, ?_⟩
            exact RpL.mono x.f _ _ _ (fun b hb => x.keep (racc.cells' b hb)) racc
          cases eh : h ds[i] (wipeE ρ vs) with
          | none => rw [eh] at er; cases er
          | some ρ2 =>
            rw [eh] at er
            simp only at er
            have en3 := en2.ext x3
            refine ⟨F0, H0, F3, wipeE ρ vs, D :: (fp ++ fr), [], ds[i], ρ2, en3, r3, eh, fun σ4 en4 w4 => ?_⟩
            refine ⟨by rw [w4 vs hv]; exact wipe_wipe σ vs vs fun _ z => z, ?_⟩
            cases eb : ft ρ2 with
            | bad => rw [eb] at er; cases er
            | exc c => rw [eb] at er; cases er
            | ok b =>
              rw [eb] at er
              refine ⟨F0, H0, F3, ρ2, D :: (fp ++ fr), en4, ?_⟩
              rw [eb]
              intro F4 H4 x4
              have x24 := x3.trans x4
              cases b with
              | false =>
                simp only at er
                simp only [Bool.false_eq_true, if_false]
                obtain ⟨k1, k2, k3, k4, k5⟩ := stay x24
                exact ⟨by omega, hlt, F4, acc, accD, fp, r, k1, k2, k3, k4, k5, er, et⟩
              | true =>
                simp only at er
                simp only [if_true]
                refine ⟨F0, H0, F4, ρ2, D :: (fp ++ fr), en4.ext x4, ?_⟩
                cases ee : fe ρ2 with
                | bad => rw [ee] at er; cases er
                | exc c => rw [ee] at er; cases er
                | ok rv =>
                  rw [ee] at er
                  cases rv with
                  | lv j p => cases er
                  | val yd =>
                    simp only at er
                    cases el2 : lcL h ft fe (wipeE ρ vs) (ds.drop (i + 1)) with
                    | bad => rw [el2] at er; cases er
                    | exc c => rw [el2] at er; cases er
                    | ok r' =>
                      rw [el2] at er
                      have er : Res.ok (yd :: r') = Res.ok r := er
                      injection er with er
                      subst er
                      intro v F5 H5 f5 x5 fr5 q5
                      have q5 : Rp X.K F5 H5 yd v f5 := q5
                      obtain ⟨k1, k2, k3, k4, k5⟩ := stay (x24.trans x5)
                      have cl5 : ∀ b ∈ f5, Cl H5 b := fun b hb => Rp.cells yd v f5 q5 b hb
                      have cl4 : ∀ b ∈ D :: fp, Cl H2 b := fun b hb => by
                        rcases List.mem_cons.mp hb with z | z
                        · rw [z]; exact ⟨_, hacc, fun _ z => by cases z⟩
                        · exact racc.cells' b z
                      have neD : ∀ b, b ∈ fp ++ f5 → b ≠ D := fun b hb e => by
                        subst e
                        rcases List.mem_append.mp hb with z | z
                        · exact (List.nodup_cons.mp f2.1).1 z
                        · exact (x24.cl (cl4 b List.mem_cons_self)).ne (fr5.2 b z).2
                      have len : acc.length < sizeLine := by
                        have := fits_le hfit
                        rw [et, List.length_append, List.length_cons] at this
                        rw [← racc.length]
                        omega
                      refine ⟨acc, k4, len, by omega, hlt, F5, acc ++ [v], accD ++ [yd], fp ++ f5, r', ?_, ?_, ?_, upd_same, ?_, rfl, by rw [et, List.append_assoc]; rfl⟩
                      · have F5D : F5 D = none := (k3.2 D List.mem_cons_self).1
                        refine ⟨k1.f, fun b u e => ?_, fun b u e => ?_, k1.new⟩
                        · rw [upd_ne (ne_of_none e hD)]; exact k1.h b u e
                        · rw [upd_ne (ne_of_none e F5D)]; exact k1.sub b u e
                      · have a1 : En X.K F0 H0 F5 H5 (wipe σ vs) (wipeE ρ vs) (f5 ++ (D :: (fp ++ fr))) := (stay x24).2.1.add x5 fr5 cl5
                        have a2 : En X.K F0 H0 F5 H5 (wipe σ vs) (wipeE ρ vs) (D :: ((fp ++ f5) ++ fr)) := a1.permFr (by
                          rw [List.append_assoc]
                          refine List.Perm.trans (List.Perm.cons D ?_) List.perm_middle.symm
                          exact swap2 fp f5 fr)
                        exact a2.putFr fun _ z => by cases z
                      · refine ⟨?_, fun b hb => ?_⟩
                        · have nd : ((D :: fp) ++ f5).Nodup := List.nodup_append.mpr ⟨f2.1, fr5.1, fun p hp q hq e => by
                            subst e
                            exact (x24.cl (cl4 p hp)).ne (fr5.2 p hq).2⟩
                          exact nd
                        · have hb : b ∈ (D :: fp) ++ f5 := hb
                          rcases List.mem_append.mp hb with z | z
                          · exact k3.2 b z
                          · exact ⟨(fr5.2 b z).1, (x2.trans x24).h.free (fr5.2 b z).2⟩
                      · exact RpL.mono (Same.refl F5) _ _ _ (fun b hb => upd_ne (neD b hb)) (k5.append (RpL.one q5))
        · have e : i = ds.length := by omega
          subst e
          rw [List.drop_length] at er
          cases er
          rw [List.append_nil] at et
          subst et
          refine .inl ⟨t.2 (Nat.le_refl _), q (.ref D) F2 H2 (D :: fp) (x1.trans x2) ⟨f2.1, fun b hb => ⟨(f2.2 b hb).1, x1.h.free (f2.2 b hb).2⟩⟩ ?_⟩
          exact ⟨D, acc, fp, rfl, hacc, rfl, racc⟩
      · exact q.elim
theorem de_lc (hc : X.calm = true) (hN : X.N.Nodup) (hi : DIp X E tg iter fi) (ok : BlkOk X.N X.env.scope scope own) (hv : ∀ i ∈ is, i ∈ own.map (·.2))
    (hg : ∀ (s : Shared) (H : Hp) (C : Addr) (cl : List (Str × Addr)) (fp : List Addr), DG (X.blk s H scope (compEnvC scope cl C X.env) fp) tg is h)
    (ht : ∀ (s : Shared) (H : Hp) (C : Addr) (cl : List (Str × Addr)) (fp : List Addr), DTs (X.blk s H scope (compEnvC scope cl C X.env) fp) E' ifs ft)
    (he : ∀ (s : Shared) (H : Hp) (C : Addr) (cl : List (Str × Addr)) (fp : List Addr), DE (X.blk s H scope (compEnvC scope cl C X.env) fp) E' elt fe) (hs : ∀ x, foldedSetIterable iter X.env x = pure x := by intro _; rfl) :
    DE X E (.ListComp elt [⟨tg, iter, ifs, 0⟩] scope pos) (dLc fi h ft fe (own.map (·.2))) := by
  obtain ⟨wi, pi, ri⟩ := hi.run
  exact ⟨_, pe_lc (g := gSem X.K is h) (tt := bSem X.K X.mg E' ft) (te := tSem X.K X.mg E' fe) hc hN pi ok (fun s H C cl fp => (hg s H C cl fp).sem) (fun s H C cl fp => (ht s H C cl fp).sem) (fun s H C cl fp => (he s H C cl fp).sem) hs, fun F0 H0 F H σ ρ fr en Q q => lc_run ri hv en q⟩
/-- y = [..] on one line, y a plain local -/
def dSetV (i : Nat) (fa : Ev → Res RV) : Ev → Res Out := fun ρ => do
  let x ← fa ρ
  match x with
  | .val d => .ok (.nx (ρ.set i (.val d)))
  | _ => .bad
theorem ds_setLc {i : Nat} {y : Str} {py spos : Pos} (hc : X.calm = true) (hN : X.N.Nodup) (hy : X.N[i]? = some y) (hyl : X.env.scope.names.lookup y = some .local)
    (hsw : swapsWith (.ListComp elt [⟨tg, iter, ifs, 0⟩] scope pos) (some (.Name y py)) spos.line X.env = pure true) (hi : DIp X E tg iter fi) (ok : BlkOk X.N X.env.scope scope own) (hv : ∀ i ∈ is, i ∈ own.map (·.2))
    (hg : ∀ (s : Shared) (H : Hp) (C : Addr) (cl : List (Str × Addr)) (fp : List Addr), DG (X.blk s H scope (compEnvC scope cl C X.env) fp) tg is h)
    (ht : ∀ (s : Shared) (H : Hp) (C : Addr) (cl : List (Str × Addr)) (fp : List Addr), DTs (X.blk s H scope (compEnvC scope cl C X.env) fp) E' ifs ft)
    (he : ∀ (s : Shared) (H : Hp) (C : Addr) (cl : List (Str × Addr)) (fp : List Addr), DE (X.blk s H scope (compEnvC scope cl C X.env) fp) E' elt fe) (hs : ∀ x, foldedSetIterable iter X.env x = pure x := by intro _; rfl) :
    DS X E (.Assign [.Name y py] (.ListComp elt [⟨tg, iter, ifs, 0⟩] scope pos) spos) (dSetV i (dLc fi h ft fe (own.map (·.2)))) := by
  obtain ⟨wi, pi, ri⟩ := hi.run
  refine ⟨_, ps_setLc (g := gSem X.K is h) (tt := bSem X.K X.mg E' ft) (te := tSem X.K X.mg E' fe) hc hN hy hyl hsw pi ok (fun s H C cl fp => (hg s H C cl fp).sem) (fun s H C cl fp => (ht s H C cl fp).sem) (fun s H C cl fp => (he s H C cl fp).sem) hs, fun F0 H0 F H σ ρ en D q => ?_⟩
  refine lc_run ri hv en (Q := fun x H1 => gName i x σ H1 D.nx) ?_
  unfold dSetV at q
  cases ex : dLc fi h ft fe (own.map (·.2)) ρ with
  | bad => rw [ex] at q; exact q.elim
  | exc c => rw [ex] at q; exact q
  | ok x =>
    rw [ex] at q
    cases x with
    | lv j p => exact q.elim
    | val d =>
      intro v F' H' fp x1 fr1 q1
      refine q F' H' _ (En.set (fr := []) i ?_ q1)
      exact en.add x1 fr1 (Rv.cells (r := .val d) (σ := σ) q1)
end
end Dl
set_option Elab.async false
set_option linter.all false
set_option maxRecDepth 100000
set_option maxHeartbeats 4000000
/- D-layer 13: defs, their calls, exceptions raised, the law's end. -/
namespace Dl
open PySem PySem.Spec PyProof.Rows L2

/-! ### the promise of a def by its mirror -/
def SpG (K : PySem.W.Frag) (mg : Str → Option Value) (F H : Hp) (r : Res D) (Q : VK) (E : XK) : Prop := match r with
  | .ok d => ∀ v F' H' fp, Ex F H F' H' → Fr F' H fp → Rp K F' H' d v fp → Q v H'
  | .exc c => XW mg H E c
  | .bad => False
def spD (K : PySem.W.Frag) (mg : Str → Option Value) (n : Nat) (g : List D → Res D) : Sp := fun vs H Q E => ∃ ds F, vs.length = n ∧ Same F H ∧ RpL K F H ds vs [] ∧ SpG K mg F H (g ds) Q E
/-- a def under its name -/
structure FP (P : Program) (w : World) (K : PySem.W.Frag) (mg : Str → Option Value) (base : Heap) (k : Nat) (x : Str) (n : Nat) (g : List D → Res D) : Prop where
  ex : ∃ (f : Addr) (fd : FuncData) (ps : List Str), FnOk P w K mg base (L2.CX P w) k f fd ps (spD K mg n g) ∧ mg x = some (.ref f) ∧ PySem.W.keepIn K (.ref f) = true ∧ Binds K fd ps []
theorem FP.mono {P : Program} {w : World} {K : PySem.W.Frag} {mg : Str → Option Value} {base : Heap} {j k : Nat} {x : Str} {n : Nat} {g : List D → Res D} (h : FP P w K mg base j x n g) (hk : j ≤ k) : FP P w K mg base k x n g :=
  let ⟨f, fd, ps, F, a, b, c⟩ := h.ex; ⟨f, fd, ps, F.mono hk, a, b, c⟩
/-- a body as a function of its arguments; m: how many slots -/
def dDef (m : Nat) (f : Ev → Res Out) : List D → Res D := fun ds => match f (ds.map SL.val ++ List.replicate (m - ds.length) SL.none) with
  | .ok (.rt d) => .ok d
  | .ok (.nx _) => .ok .non
  | .exc c => .exc c
  | _ => .bad
section
variable {P : Program} {w : World} {K : PySem.W.Frag} {mg : Str → Option Value} {base : Heap}
theorem enr_args {F H : Hp} : ∀ {ds : List D} {vs : List V} (j : Nat), RpL K F H ds vs [] → EnR K F H (ds.map SL.val ++ List.replicate j SL.none) (vs.map some ++ List.replicate j none) []
  | [], vs, j, h => by
    obtain ⟨rfl, _⟩ := h
    induction j with
    | zero => exact ⟨rfl, rfl⟩
    | succ j ih => exact ⟨none, List.replicate j none, [], [], rfl, rfl, rfl, ih⟩
  | d :: ds, vs, j, h => by
    obtain ⟨v, r, f, g, rfl, e2, h1, h2⟩ := h
    obtain ⟨rfl, rfl⟩ := List.append_eq_nil_iff.mp e2.symm
    exact ⟨some v, r.map some ++ List.replicate j none, [], [], rfl, rfl, ⟨v, rfl, h1⟩, enr_args j h2⟩
theorem fn_body {N : List Str} {n : Nat} {vs : List V} {H : Hp} {Q : VK} {E : XK} {f : Ev → Res Out} {X : Cx} {body : List Stmt} (hK : X.K = K) (hmg : X.mg = mg) (h : DB X E body f) (sp : spD K mg n (dDef N.length f) vs H Q E) :
    ∃ t, PSs X body t ∧ t { nx := fun _ H' => Q .non H', rt := Q } (start N vs) H := by
  subst hK hmg
  obtain ⟨t, p, r⟩ := h.run
  refine ⟨t, p, ?_⟩
  obtain ⟨ds, F, hn, s, rp, g⟩ := sp
  have er := enr_args (N.length - vs.length) rp
  have en : En X.K F H F H (start N vs) (ds.map SL.val ++ List.replicate (N.length - vs.length) SL.none) [] :=
    ⟨[], ⟨s, Same.refl H, Same.refl F, fun _ z => .inl z, List.nodup_nil, fun _ z => nomatch z⟩, er⟩
  refine r F H F H _ _ en _ ?_
  unfold dDef at g
  rw [rp.length] at g
  cases ef : f (ds.map SL.val ++ List.replicate (N.length - vs.length) SL.none) with
  | bad => rw [ef] at g; exact g
  | exc c => rw [ef] at g; exact g
  | ok o =>
    rw [ef] at g
    cases o with
    | nx ρ' =>
      intro F' H' σ' en'
      obtain ⟨L, w⟩ := en'.wd
      exact g .non F' H' [] ⟨w.bas, w.ent, w.sub, w.frs⟩ fr_nil ⟨rfl, rfl⟩
    | rt d =>
      intro v F' H' fp w rp'
      exact g v F' H' fp ⟨w.bas, w.ent, w.sub, w.frs⟩ ⟨w.nod, fun b hb => ⟨(w.own b hb).1, (w.own b hb).2.1⟩⟩ rp'
    | bk ρ' => exact g.elim
    | ct ρ' => exact g.elim
theorem fk_of {N ps : List Str} {k n m : Nat} {x : Str} {params : Arguments} {body : List Stmt} {scope : Scope} {f : Addr} {fd : FuncData} {g : Ev → Res Out} (F : FunD K x x params body scope [] [] f fd) (S : FnScope N ps scope) (hn : ps.length = n) (hN : N.length = m)
    (hb : ∀ (cdv : Value) (A : Around) (outer : List Env) (s : Shared) (H : Hp) (E : XK), Room k (A.deeper (envOfC x scope s.heap.objs.size f cdv)) → DB (cxOf (L2.CX P w) P w K mg base N x scope f cdv A outer s H E) E body g) :
    FnOk P w K mg base (L2.CX P w) (k + 1) f fd ps (spD K mg n (dDef m g)) := by
  subst hN
  refine F.ok S (fun vs H Q E h => ?_) (fun cdv A outer s H vs Q E hr h => fn_body rfl rfl (hb cdv A outer s H E hr) h)
  obtain ⟨_, _, e, _⟩ := h
  rw [e, hn]
theorem fp_of {N ps : List Str} {k n m : Nat} {x : Str} {params : Arguments} {body : List Stmt} {scope : Scope} {f : Addr} {fd : FuncData} {g : Ev → Res Out} (F : FunD K x x params body scope [] [] f fd) (hm : mg x = some (.ref f)) (S : FnScope N ps scope) (hn : ps.length = n) (hN : N.length = m)
    (hbind : ∀ (kV doc pm : Value) (an : Option Addr) (cdv ct : Value) (us : List Value), us.length = ps.length → bindArgs (PySem.W.fnOf x x params body scope .none kV doc pm an cdv ct) ⟨us, []⟩ = pure (ps.zip us))
    (hb : ∀ (cdv : Value) (A : Around) (outer : List Env) (s : Shared) (H : Hp) (E : XK), Room k (A.deeper (envOfC x scope s.heap.objs.size f cdv)) → DB (cxOf (L2.CX P w) P w K mg base N x scope f cdv A outer s H E) E body g) :
    FP P w K mg base (k + 1) x n (dDef m g) := ⟨f, fd, ps, fk_of F S hn hN hb, hm, F.kp, F.bindsN hbind⟩
end

/-! ### calls -/
/-- as look_rp; the cells are not frozen -/
theorem look_rp' {K : PySem.W.Frag} {F0 H0 F H : Hp} {σ : L2.St} {ρ : Ev} {fr fp : List Addr} (en : En K F0 H0 F H σ ρ fr) {r : RV} {v : V} {d : D} (h : Rv K F H σ r v fp) (hf : ∀ b ∈ fp, F b = none) (e : lookD ρ r = .ok d) : ∃ f, Rp K F H d v f ∧ ∀ b ∈ f, F b = none := by
  cases r with
  | val d' => cases e; exact ⟨fp, h, hf⟩
  | lv j p =>
    obtain ⟨_, vj, h1, h2⟩ := h
    unfold lookD at e
    cases ej : ρ[j]? with
    | none => simp only [ej] at e; cases e
    | some s =>
      cases s with
      | none => simp only [ej] at e; cases e
      | val dj =>
        simp only [ej] at e
        cases ep : getP dj p with
        | none => simp only [ep] at e; cases e
        | some d' =>
          simp only [ep] at e
          cases en' : noOwn d' with
          | true => rw [en'] at e; cases e
          | false =>
            rw [en'] at e
            have e : d' = d := by injection e
            subst e
            obtain ⟨cs, w, r⟩ := en
            obtain ⟨o, f, c1, c2, x1, x2, x3, _⟩ := EnR.at r ej
            obtain ⟨v2, y1, y2⟩ := x3
            rw [x1, y1] at h1
            cases h1
            obtain ⟨v3, f3, g1, g2, z1, z2, z3, _⟩ := Rp.at w.sub p dj vj f d' y2 ep en'
            rw [z1] at h2
            cases h2
            refine ⟨f3, z3, fun b hb => (w.own b ?_).1⟩
            rw [x2, z2]
            exact List.mem_append_right _ (List.mem_append_right _ (List.mem_append_left _ (List.mem_append_right _ (List.mem_append_left _ hb))))
theorem lookL_rp' {K : PySem.W.Frag} {F0 H0 F H : Hp} {σ : L2.St} {ρ : Ev} {fr : List Addr} (en : En K F0 H0 F H σ ρ fr) : ∀ {rs : List RV} {vs : List V} {fp : List Addr} {ds : List D}, RvL K F H σ rs vs fp → (∀ b ∈ fp, F b = none) → lookL ρ rs = .ok ds → ∃ f, RpL K F H ds vs f ∧ ∀ b ∈ f, F b = none
  | [], vs, fp, ds, h, _, e => by
    cases e
    exact ⟨[], ⟨h.1, rfl⟩, fun _ z => nomatch z⟩
  | r :: rs, vs, fp, ds, h, hf, e => by
    obtain ⟨v, t, f, g, e1, e2, h1, h2⟩ := h
    subst e2
    unfold lookL at e
    cases ed : lookD ρ r with
    | bad => rw [ed] at e; cases e
    | exc c => rw [ed] at e; cases e
    | ok d =>
      rw [ed] at e
      cases el : lookL ρ rs with
      | bad => rw [el] at e; cases e
      | exc c => rw [el] at e; cases e
      | ok ds' =>
        rw [el] at e
        have e : Res.ok (d :: ds') = Res.ok ds := e
        injection e with e
        obtain ⟨k1, p1, n1⟩ := look_rp' en h1 (fun b hb => hf b (List.mem_append_left _ hb)) ed
        obtain ⟨k2, p2, n2⟩ := lookL_rp' en h2 (fun b hb => hf b (List.mem_append_right _ hb)) el
        rw [← e]
        exact ⟨k1 ++ k2, ⟨v, t, k1, k2, e1, rfl, p1, p2⟩, fun b hb => by
          rcases List.mem_append.mp hb with z | z
          · exact n1 b z
          · exact n2 b z⟩
def dCall (g : List D → Res D) (fs : Ev → Res (List RV)) : Ev → Res RV := fun ρ => do
  let rs ← fs ρ
  let ds ← lookL ρ rs
  let d ← g (frzL ds)
  if noOwnL ds || clo d then .ok (.val d) else .bad
/-- what a call with borrowed arguments gives -/
theorem call_met {K : PySem.W.Frag} {mg : Str → Option Value} {F H : Hp} {ds : List D} {vs : List V} {f : List Addr} {g : List D → Res D} {Q : VK} {E : XK} {n : Nat} (hn : vs.length = n) (sub : Same F H) (rp : RpL K F H ds vs f) (hf : ∀ b ∈ f, F b = none)
    (h : match g (frzL ds) with
      | .ok d => if noOwnL ds || clo d then ∀ v F' H' fp, Ex F H F' H' → Fr F' H fp → Rp K F' H' d v fp → Q v H' else False
      | .exc c => XW mg H E c
      | .bad => False) : spD K mg n g vs H Q E := by
  have cl := RpL.cells ds vs f rp
  refine ⟨frzL ds, addF F H f, hn, addF_sub sub, RpL.freeze sub ds vs f (fun _ z => z) rp, ?_⟩
  cases eg : g (frzL ds) with
  | bad => rw [eg] at h; exact h
  | exc c => rw [eg] at h; exact h
  | ok d =>
    rw [eg] at h
    simp only at h
    split at h
    · rename_i hc
      intro v F2 H2 fp x fr r
      by_cases hno : noOwnL ds = true
      · have ef := RpL.noOwn ds vs f hno rp
        subst ef
        have ea : addF F H [] = F := by funext b; exact addF_out (by simp)
        rw [ea] at x
        exact h v F2 H2 fp x fr r
      · have hcl : clo d = true := by
          rw [Bool.or_eq_true] at hc
          exact hc.resolve_left hno
        have hin : ∀ b ∈ f, ∃ o, F2 b = some o ∧ ∀ xs, o ≠ .tup xs := fun b hb => by
          obtain ⟨o, e, nt⟩ := cl b hb
          exact ⟨o, x.f b o (by rw [addF_in hb]; exact e), nt⟩
        refine h v (delF F2 f) H2 fp ⟨fun b o e => ?_, x.h, fun b o e => x.sub b o (delF_sub b o e), fun b z => ?_⟩ ⟨fr.1, fun b hb => ⟨?_, (fr.2 b hb).2⟩⟩ (Rp.thaw (fun b hb xs e => ?_) d v fp hcl r)
        · have nb : b ∉ f := fun z => by rw [hf b z] at e; cases e
          rw [delF_out nb]
          exact x.f b o (by rw [addF_out nb]; exact e)
        · have nb : b ∉ f := fun z' => z (delF_in z')
          rw [delF_out nb] at z
          rcases x.new b z with q | q
          · rw [addF_out nb] at q; exact .inl q
          · exact .inr q
        · by_cases nb : b ∈ f
          · exact delF_in nb
          · rw [delF_out nb]; exact (fr.2 b hb).1
        · obtain ⟨o, e2, nt⟩ := hin b hb
          rw [e] at e2
          cases e2
          exact nt xs rfl
    · exact h.elim
section
variable {X : Cx} {E : XK} {e a b : Expr} {es : List Expr} {pos p : Pos} {fs : Ev → Res (List RV)} {x : Str} {k j n : Nat} {g : List D → Res D} {fx : Ev → Res (List D × Ev)}
theorem Fr.rv {F' H' F H : Hp} {K : PySem.W.Frag} {σ : L2.St} {rs : List RV} {vs : List V} {fp : List Addr} (h : Fr F' H fp) : ∀ b ∈ fp, F' b = none := fun b hb => (h.2 b hb).1
theorem de_call (c : FP X.prog X.w X.K X.mg X.base k x n g) (hr : Room j X.A) (hk : k ≤ j) (hx : Passes (L2.CX X.prog X.w) X E) (ha : DA X E (e :: es) fs) (hn : (e :: es).length = n) (hg : Gl X x)
    (hdb : (x == ("__debug__" : Str)) = false := by decide) (he : starEach (e :: es) X.env = (false, eval e X.env) :: starEach es X.env := by rfl) (hpl : (backTo pos (starEach es X.env)).any (·.1) = false := by rfl) : DE X E (.Call (.Name x p) (e :: es) [] pos) (dCall g fs) := by
  obtain ⟨f, fd, ps, FF, hm, kp, hb⟩ := c.ex
  obtain ⟨⟨t, pt, r⟩, hl⟩ := ha
  refine ⟨_, pe_call FF (hr.mono hk) hg hm kp hb .nil hx pt hdb he hpl, fun F0 H0 F H σ ρ fr en Q h => r F0 H0 F H σ ρ fr en _ ?_⟩
  unfold dCall at h
  cases ef : fs ρ with
  | bad => rw [ef] at h; exact h
  | exc c => rw [ef] at h; exact h
  | ok rs =>
    rw [ef] at h
    simp only [ok_bind] at h
    intro vs F' H' fp x1 fr' q
    have len := hl ρ rs ef
    cases ev : lookL ρ rs with
    | bad => rw [ev] at h; exact h.elim
    | exc c => exact absurd ev (lookL_ne _ _ _)
    | ok ds =>
      rw [ev] at h
      simp only [ok_bind] at h
      obtain ⟨f2, rp, hf2⟩ := lookL_rp' (en.ext x1) q (fun b hb => (fr'.2 b hb).1) ev
      have lvs : vs.length = n := by
        have : ∀ {rs : List RV} {vs : List V} {fp : List Addr}, RvL X.K F' H' σ rs vs fp → rs.length = vs.length := by
          intro rs
          induction rs with
          | nil => intro vs fp h; rw [h.1]; rfl
          | cons r rs ih =>
            intro vs fp h
            obtain ⟨v, t, f, g, e1, e2, h1, h2⟩ := h
            rw [e1, List.length_cons, List.length_cons, ih h2]
        rw [← this q, len, hn]
      show spD X.K X.mg n g (vs ++ []) H' Q E
      rw [List.append_nil]
      refine call_met lvs x1.sub rp hf2 ?_
      cases eg : g (frzL ds) with
      | bad => rw [eg] at h; exact h
      | exc c =>
        rw [eg] at h
        exact fun C H2 e1 s => h C H2 e1 ((en.ent.trans x1.h).trans s)
      | ok d =>
        rw [eg] at h
        simp only [ok_bind] at h
        simp only
        split at h
        · rename_i hc
          rw [if_pos hc]
          exact fun v F2 H2 fp2 x2 fr2 r2 => h v F2 H2 fp2 (x1.trans x2) ⟨fr2.1, fun b hb => ⟨(fr2.2 b hb).1, x1.h.free (fr2.2 b hb).2⟩⟩ r2
        · exact h.elim
/-- the arguments frozen and handed over -/
def dXcall (g : List D → Res D) (fx : Ev → Res (List D × Ev)) : Ev → Res (D × Ev) := fun ρ => do
  let x ← fx ρ
  let d ← g (frzL x.1)
  .ok (d, x.2)
theorem dx_call (c : FP X.prog X.w X.K X.mg X.base k x n g) (hr : Room j X.A) (hk : k ≤ j) (hx : Passes (L2.CX X.prog X.w) X E) (ha : DXL X E (e :: es) fx) (hn : (e :: es).length = n) (hg : Gl X x)
    (hdb : (x == ("__debug__" : Str)) = false := by decide) (he : starEach (e :: es) X.env = (false, eval e X.env) :: starEach es X.env := by rfl) (hpl : (backTo pos (starEach es X.env)).any (·.1) = false := by rfl) : DX X E (.Call (.Name x p) (e :: es) [] pos) (dXcall g fx) := by
  obtain ⟨f, fd, ps, FF, hm, kp, hb⟩ := c.ex
  obtain ⟨⟨t, pt, r⟩, hl⟩ := ha
  refine ⟨_, pe_call FF (hr.mono hk) hg hm kp hb .nil hx pt hdb he hpl, fun F0 H0 F H σ ρ fr en Q h => r F0 H0 F H σ ρ fr en _ ?_⟩
  unfold dXcall at h
  cases ef : fx ρ with
  | bad => rw [ef] at h; exact h
  | exc c => rw [ef] at h; exact h
  | ok y =>
    obtain ⟨ds, ρ'⟩ := y
    rw [ef] at h
    simp only [ok_bind] at h
    intro vs F' H' fp en1 rp s1 k1
    have len := hl ρ ds ρ' ef
    obtain ⟨cs, w1, er⟩ := en1
    rw [List.append_assoc] at w1
    have w2 := Wd.frz w1
    have rp' := RpL.freeze (l := fp) w1.sub ds vs fp (fun _ z => z) rp
    show spD X.K X.mg n g (vs ++ []) H' Q E
    rw [List.append_nil]
    refine ⟨frzL ds, addF F' H' fp, by rw [← rp.length, len, hn], w2.sub, rp', ?_⟩
    cases eg : g (frzL ds) with
    | bad => rw [eg] at h; exact h
    | exc c =>
      rw [eg] at h
      exact fun C H2 e1 s => h C H2 e1 (w1.ent.trans s)
    | ok d =>
      rw [eg] at h
      intro v F2 H2 fp2 x2 fr2 r2
      have en2 : En X.K F0 H0 (addF F' H' fp) H' σ ρ' fr := ⟨cs, w2, er.mono (addF_same w1.sub) fun _ _ => rfl⟩
      have en3 := en2.add x2 fr2 fun b hb => Rp.cells d v fp2 r2 b hb
      refine h v F2 H2 fp2 en3 r2 ((s1.trans (addF_same w1.sub)).trans x2.f) fun b hb => ?_
      rw [← k1 b hb]
      exact x2.keep (w2.own b (List.mem_append_left _ hb)).2.2
end

/-! ### raise X('m') -/
structure ExcD (K : PySem.W.Frag) (mg : Str → Option Value) (x : Str) : Prop where
  ex : ∃ C : Addr, mg x = some (.ref C) ∧ PySem.W.excIn K C He.veBase "ValueError.__new__" = true ∧ PySem.W.keepIn K (.ref C) = true ∧ PySem.W.subIn K (.ref C) (.type "BaseException") = some true ∧ PySem.W.typeIn K (.ref C) = some (.type "type")
def dRaise (c : String) : Ev → Res Out := fun _ => .exc c
section
variable {X : Cx} {E : XK} {pos p2 cpos p : Pos}
theorem ds_raise {c : String} {m : Str} {j : Nat} (hc : X.calm = true) (tk : Takes X (fun cls d _ H => E cls d H)) (F : ExcD X.K X.mg (Str.ofString c)) (hg : Gl X (Str.ofString c)) (hdb : (Str.ofString c == ("__debug__" : Str)) = false := by decide) :
    DS X E (.Raise (some (.Call (.Name (Str.ofString c) p) [.Constant (.str m) j p2] [] cpos)) none pos) (dRaise c) := by
  obtain ⟨C, h1, h2, h3, h4, h5⟩ := F.ex
  exact ⟨_, ps_raise hc tk (pmk_own PySem.F.excBase_ValueError h2 h1 h3 (raises_own h4 h5) hg hdb), fun F0 H0 F H σ ρ en D h => h C H h1 en.ent⟩
end
/-- in a block nothing is let out -/
def noE : XK := fun _ _ _ => False
theorem pass_no {P : Program} {w : World} {X : Cx} (hP : X.prog = P) (hw : X.w = w) : Passes (L2.CX P w) X noE := fun _ _ _ _ _ _ _ ⟨_, _, _, _, _, _, _, _, _, _, _, _, h⟩ => h.elim

/-! ### the law -/
theorem law_end {l : PySem.W.OpenLaw} {n k : Nat} {q : Program} {loose : List Str} {XP : (Str → Option Value) → Heap → Prop} {YP : World → Heap → Prop} {d : DefRec} {x : Str} {g : List D → Res D}
    (hn : l.most = some n) (hn2 : n ≤ sizeLine) (hdf : d.params.defaults = []) (hr : Room k callerA) (law : ∀ ns : List Int, ns.length ≤ n → g [.scr ns] = .ok (.bl true))
    (F : ∀ (w : World) (mg : Str → Option Value) (fa : Addr) (h : Heap), YP w h → h.Ns mainGlobals mg → mg d.name = some (.ref fa) →
      ∃ (K : PySem.W.Frag) (fd : FuncData), K.In h ∧ (∀ (s : Shared) (u : Value), BindsTo s fd ⟨[u], []⟩ [(x, u)]) ∧
        ∀ base : Heap, K.In base → base.Ns mainGlobals mg → FnOk l.prog w K mg base (L2.CX l.prog w) k fa fd [x] (spD K mg 1 g)) :
    PySem.W.WalkO q loose XP YP l.row.toRowW d [] (fun f vs => PySem.call f vs) := by
  refine Att.attach_call hn hdf fun w s₀ s₁ mg mb fa o pm cd doc a vs ns G Y ho hd hcd hmg hobj hints hlen hg => ?_
  obtain ⟨K, fd, KX, hb, hF⟩ := F w mg fa _ Y G.T.g hmg
  refine law_call KX G.T.g G.T.b G.T.builtins G.T.nolimit hg hobj hints (Nat.le_trans hlen hn2) hr hF hb (fun H _ hS => ?_) fun H e s' ⟨_, _, _, _, _, _, _, _, _, _, _, _, hE⟩ => hE.elim
  refine ⟨[.scr ns], H, rfl, Same.refl H, ⟨.ref a, [], [], [], rfl, rfl, ⟨rfl, a, rfl, hS⟩, rfl, rfl⟩, ?_⟩
  rw [law ns hlen]
  exact fun v F' H' fp _ _ r => r.1
end Dl
set_option Elab.async false
set_option linter.all false
set_option maxRecDepth 100000
set_option maxHeartbeats 4000000
/- D-layer 14: built-ins. -/
namespace Dl
open PySem PySem.Spec PyProof.Rows L2

/-! ### len -/
section
variable {X : Cx}
theorem call_lenRT : CallR X (.builtin "len") (fun xs H Q => ∃ (p : Addr) (kvs : List (List Key × V)), xs = [.ref p] ∧ Rd H p (.dT kvs) ∧ Q (.int ((kvs.length : Nat) : Int)) H) := by
  intro pins s σ H xs us Q I r ⟨p, kvs, ex, hp, q⟩
  subst ex
  obtain ⟨u, rfl, rx⟩ := vals1 r
  obtain rfl : u = .ref p := rx
  obtain ⟨z, hd, ys, rel, dd⟩ := dt_rd I.hok hp
  have hl : kvs.length = ys.length := Paired.length rel
  have hs := sizeLine_eq
  refine call_len_dictH hd dd (by rw [← hl]; omega) ⟨.int (kvs.length : Int), H, I.tok _, ⟨_, by rw [hl]⟩, q⟩
theorem call_lenRK : CallR X (.builtin "len") (fun xs H Q => ∃ (p : Addr) (kvs : List (Key × V)), xs = [.ref p] ∧ Rd H p (.dK kvs) ∧ Q (.int ((kvs.length : Nat) : Int)) H) := by
  intro pins s σ H xs us Q I r ⟨p, kvs, ex, hp, q⟩
  subst ex
  obtain ⟨u, rfl, rx⟩ := vals1 r
  cases rx
  exact d_len I hp fun t s' I' => ⟨.int kvs.length, H, I', ⟨t, rfl⟩, q⟩
end
def gLen : List D → Res D
  | [.lst _ xs] => .ok (.int xs.length)
  | [.tup xs] => .ok (.int xs.length)
  | [.scr ns] => .ok (.int ns.length)
  | [.str x] => if fits x.length then .ok (.int x.length) else .bad
  | [.dk _ ks _] => .ok (.int ks.length)
  | [.dt _ ks _] => .ok (.int ks.length)
  | _ => .bad
section
variable {X : Cx} {K : PySem.W.Frag} {F H : Hp}
theorem Rp.rdK (s : Same F H) {o : Bool} {ks : List Key} {ds : List D} {v : V} {fp : List Addr} (r : Rp K F H (.dk o ks ds) v fp) : ∃ a vs f, v = .ref a ∧ Rd H a (.dK (ks.zip vs)) ∧ (ks.length = vs.length ∧ ks.Nodup) ∧ RpL K F H ds vs f ∧ (∀ b ∈ f, b ∈ fp) := by
  cases o with
  | false =>
    obtain ⟨e0, a, vs, e, q, l, h⟩ := r
    exact ⟨a, vs, [], e, rd_same s q, l, h, fun _ z => nomatch z⟩
  | true =>
    obtain ⟨a, vs, f, e, q, l, e2, h⟩ := r
    exact ⟨a, vs, f, e, .inl q, l, h, fun b hb => by rw [e2]; exact List.mem_cons_of_mem _ hb⟩
theorem Rp.rdT (s : Same F H) {o : Bool} {ks : List (List Key)} {ds : List D} {v : V} {fp : List Addr} (r : Rp K F H (.dt o ks ds) v fp) : ∃ a vs f, v = .ref a ∧ Rd H a (.dT (ks.zip vs)) ∧ (ks.length = vs.length ∧ ks.Nodup) ∧ RpL K F H ds vs f ∧ (∀ b ∈ f, b ∈ fp) := by
  cases o with
  | false =>
    obtain ⟨e0, a, vs, e, q, l, h⟩ := r
    exact ⟨a, vs, [], e, rd_same s q, l, h, fun _ z => nomatch z⟩
  | true =>
    obtain ⟨a, vs, f, e, q, l, e2, h⟩ := r
    exact ⟨a, vs, f, e, .inl q, l, h, fun b hb => by rw [e2]; exact List.mem_cons_of_mem _ hb⟩
theorem rp_int {F' H' : Hp} {i : Int} : Rp K F' H' (.int i) (.int i) [] := ⟨rfl, rfl⟩
theorem rpL1 {d : D} {vs : List V} {fp : List Addr} (r : RpL K F H [d] vs fp) : ∃ v, vs = [v] ∧ Rp K F H d v fp := by
  obtain ⟨v, t, f, g, e1, e2, h1, h2, h3⟩ := r
  subst h2 h3
  rw [List.append_nil] at e2
  subst e2
  exact ⟨v, e1, h1⟩
theorem rpL2 {d e : D} {vs : List V} {fp : List Addr} (r : RpL K F H [d, e] vs fp) : ∃ v w f g, vs = [v, w] ∧ fp = f ++ g ∧ Rp K F H d v f ∧ Rp K F H e w g := by
  obtain ⟨v, t, f, g, e1, e2, h1, h2⟩ := r
  obtain ⟨w, e3, h3⟩ := rpL1 h2
  subst e3
  exact ⟨v, w, f, g, e1, e2, h1, h3⟩
theorem rule_len : CallRule X (.builtin "len") gLen := by
  refine ⟨⟨_, call_len_seq.or (call_len_str.or (call_lenRK.or call_lenRT)), fun F H vs ds fs Q s r d e q => ?_⟩, fun a c h => ?_⟩
  · have fin : ∀ n : Int, (∀ v F' H' fp, Ex F H F' H' → Fr F' H fp → Rp X.K F' H' (.int n) v fp → Q v H') → Q (.int n) H := fun n k => k _ F H [] (Ex.refl s) fr_nil rp_int
    unfold gLen at e
    split at e
    · cases e
      obtain ⟨v, rfl, r1⟩ := rpL1 r
      obtain ⟨a, ws, f, ev, h1, h2, _⟩ := Rp.rdL s r1
      exact .inl ⟨a, ws, by rw [ev], .inl (.inl h1), by rw [← h2.length]; exact fin _ q⟩
    · cases e
      obtain ⟨v, rfl, r1⟩ := rpL1 r
      obtain ⟨a, ws, ev, h1, _, h2⟩ := Rp.sqT s r1
      exact .inl ⟨a, ws, by rw [ev], .inr h1, by rw [← h2.length]; exact fin _ q⟩
    · cases e
      obtain ⟨v, rfl, r1⟩ := rpL1 r
      obtain ⟨_, a, ev, h1⟩ := r1
      exact .inl ⟨a, _, by rw [ev], .inl (s.seq h1), by rw [List.length_map]; exact fin _ q⟩
    · split at e
      · rename_i c
        cases e
        obtain ⟨v, rfl, r1⟩ := rpL1 r
        exact .inr (.inl ⟨_, by rw [r1.1], fits_le c, fin _ q⟩)
      · cases e
    · cases e
      obtain ⟨v, rfl, r1⟩ := rpL1 r
      obtain ⟨a, ws, f, ev, h1, ⟨h2, _⟩, _⟩ := Rp.rdK s r1
      exact .inr (.inr (.inl ⟨a, _, by rw [ev], h1, by rw [List.length_zip, ← h2, Nat.min_self]; exact fin _ q⟩))
    · cases e
      obtain ⟨v, rfl, r1⟩ := rpL1 r
      obtain ⟨a, ws, f, ev, h1, ⟨h2, _⟩, _⟩ := Rp.rdT s r1
      exact .inr (.inr (.inr ⟨a, _, by rw [ev], h1, by rw [List.length_zip, ← h2, Nat.min_self]; exact fin _ q⟩))
    · cases e
  · unfold gLen at h
    split at h
    all_goals first | cases h | (split at h <;> cases h)

/-! ### min, max of two, int, bool -/
def gMin2 : List D → Res D
  | [.int i, .int j] => .ok (.int (if j < i then j else i))
  | _ => .bad
def gMax2 : List D → Res D
  | [.int i, .int j] => .ok (.int (if j > i then j else i))
  | _ => .bad
theorem rule_min2 (hc : X.calm = true) : CallRule X (.builtin "min") gMin2 := by
  refine ⟨⟨_, call_min2 hc, fun F H vs ds fs Q s r d e q => ?_⟩, fun a c h => by unfold gMin2 at h; split at h <;> cases h⟩
  unfold gMin2 at e
  split at e
  · cases e
    obtain ⟨v, w, f, g, rfl, _, r1, r2⟩ := rpL2 r
    exact ⟨_, _, by rw [r1.1, r2.1], q _ F H [] (Ex.refl s) fr_nil rp_int⟩
  · cases e
theorem rule_max2 (hc : X.calm = true) : CallRule X (.builtin "max") gMax2 := by
  refine ⟨⟨_, call_max2 hc, fun F H vs ds fs Q s r d e q => ?_⟩, fun a c h => by unfold gMax2 at h; split at h <;> cases h⟩
  unfold gMax2 at e
  split at e
  · cases e
    obtain ⟨v, w, f, g, rfl, _, r1, r2⟩ := rpL2 r
    exact ⟨_, _, by rw [r1.1, r2.1], q _ F H [] (Ex.refl s) fr_nil rp_int⟩
  · cases e
def gInt : List D → Res D
  | [.int i] => .ok (.int i)
  | [.bl b] => .ok (.int (if b then 1 else 0))
  | _ => .bad
theorem rule_int : CallRule X (.type "int") gInt := by
  refine ⟨⟨_, call_int1, fun F H vs ds fs Q s r d e q => ?_⟩, fun a c h => by unfold gInt at h; split at h <;> cases h⟩
  unfold gInt at e
  split at e
  · cases e
    obtain ⟨v, rfl, r1⟩ := rpL1 r
    exact .inl ⟨_, by rw [r1.1], q _ F H [] (Ex.refl s) fr_nil rp_int⟩
  · cases e
    obtain ⟨v, rfl, r1⟩ := rpL1 r
    exact .inr ⟨_, by rw [r1.1], q _ F H [] (Ex.refl s) fr_nil rp_int⟩
  · cases e

/-! ### list(..), tuple(..) -/
def keyD : Key → D
  | .inl i => .int i
  | .inr s => .str s
def tkeyD (k : List Key) : D := .tup (k.map keyD)
def gList : List D → Res D
  | [.lst _ xs] => if noOwnL xs then .ok (.lst true xs) else .bad
  | [.tup xs] => if noOwnL xs then .ok (.lst true xs) else .bad
  | [.scr ns] => .ok (.lst true (ns.map .int))
  | [.dk _ ks _] => .ok (.lst true (ks.map keyD))
  | [.dt _ ks _] => .ok (.lst true (ks.map tkeyD))
  | _ => .bad
theorem rp_key {k : Key} : Rp K F H (keyD k) (kV k) [] := by
  cases k with
  | inl i => exact ⟨rfl, rfl⟩
  | inr x => exact ⟨rfl, rfl⟩
theorem rpL_keys : ∀ ks : List Key, RpL K F H (ks.map keyD) (ks.map kV) []
  | [] => ⟨rfl, rfl⟩
  | k :: ks => ⟨kV k, ks.map kV, [], [], rfl, rfl, rp_key, rpL_keys ks⟩
theorem rpL_tkeys {F' : Hp} : ∀ {ks : List (List Key)} {vs : List V} {bs : List Addr}, ks.length = vs.length → IsKeys H (ks.zip vs) bs → (∀ b ∈ bs, F' b = H b) → RpL K F' H (ks.map tkeyD) (bs.map V.ref) []
  | [], vs, bs, l, p, h => by
    cases p
    exact ⟨rfl, rfl⟩
  | k :: ks, [], bs, l, p, h => by cases l
  | k :: ks, v :: vs, bs, l, p, h => by
    have p : IsKeys H ((k, v) :: ks.zip vs) bs := p
    unfold IsKeys at p
    cases p with
    | cons hq t =>
      rename_i b bs
      refine ⟨.ref b, bs.map V.ref, [], [], rfl, rfl, ⟨b, k.map kV, rfl, ?_, rpL_keys k⟩, rpL_tkeys (by simpa using l) t fun b' hb => h b' (List.mem_cons_of_mem _ hb)⟩
      rw [h b List.mem_cons_self]; exact hq
theorem isKeys_tp : ∀ {kvs : List (List Key × V)} {bs : List Addr}, IsKeys H kvs bs → ∀ b ∈ bs, Tp H b := by
  intro kvs bs p
  unfold IsKeys at p
  induction p with
  | nil => intro b z; exact nomatch z
  | cons hq t ih =>
    intro b z
    rcases List.mem_cons.mp z with z | z
    · rw [z]; exact ⟨_, hq⟩
    · exact ih b z
theorem ex_keys (s : Same F H) {bs : List Addr} (h : ∀ b ∈ bs, Tp H b) : Ex F H (addF F H bs) H := ⟨addF_same s, Same.refl H, addF_sub s, fun b z => by
  by_cases hb : b ∈ bs
  · exact .inr (.inr (h b hb))
  · rw [addF_out hb] at z; exact .inl z⟩
theorem rule_list (hc : X.calm = true) : CallRule X (.type "list") gList := by
  refine ⟨⟨_, call_list_of.or ((call_listD hc).or (call_list_dT hc)), fun F H vs ds fs Q s r d e q => ?_⟩, fun a c h => ?_⟩
  · have fin : ∀ (xs : List D) (ws : List V), RpL X.K F H xs ws [] → (∀ v F' H' fp, Ex F H F' H' → Fr F' H fp → Rp X.K F' H' (.lst true xs) v fp → Q v H') → ∀ l, H l = none → Q (.ref l) (upd H l (.lst ws)) := fun xs ws rr k l hl =>
      k _ F _ [l] (ex_own s hl _) (fr_own s hl) (rp_lst hl rr fun _ z => nomatch z)
    unfold gList at e
    split at e
    · split at e
      · rename_i c
        cases e
        obtain ⟨v, rfl, r1⟩ := rpL1 r
        obtain ⟨a, ws, f, ev, h1, h2, _⟩ := Rp.rdL s r1
        exact .inl ⟨a, ws, by rw [ev], .inl (.inl h1), fin _ _ (h2.plain c) q⟩
      · cases e
    · split at e
      · rename_i c
        cases e
        obtain ⟨v, rfl, r1⟩ := rpL1 r
        obtain ⟨a, ws, ev, h1, _, h2⟩ := Rp.sqT s r1
        exact .inl ⟨a, ws, by rw [ev], .inr h1, fin _ _ (h2.plain c) q⟩
      · cases e
    · cases e
      obtain ⟨v, rfl, r1⟩ := rpL1 r
      obtain ⟨_, a, ev, h1⟩ := r1
      exact .inl ⟨a, _, by rw [ev], .inl (s.seq h1), fin _ _ (rpL_ints _) q⟩
    · cases e
      obtain ⟨v, rfl, r1⟩ := rpL1 r
      obtain ⟨a, ws, f, ev, h1, ⟨h2, _⟩, _⟩ := Rp.rdK s r1
      refine .inr (.inl ⟨a, _, by rw [ev], h1, fun p hp => ?_⟩)
      rw [show (fun (kv : Key × V) => kV kv.1) = kV ∘ Prod.fst from rfl, ← List.map_map, List.map_fst_zip (Nat.le_of_eq h2)]
      exact fin _ _ (rpL_keys _) q p hp
    · cases e
      obtain ⟨v, rfl, r1⟩ := rpL1 r
      obtain ⟨a, ws, f, ev, h1, ⟨h2, _⟩, _⟩ := Rp.rdT s r1
      refine .inr (.inr ⟨a, _, by rw [ev], h1, fun p bs hp hk => ?_⟩)
      have x1 := ex_keys s (isKeys_tp hk)
      have rr := rpL_tkeys (K := X.K) (F' := addF F H bs) h2 hk fun b hb => addF_in hb
      exact q _ _ _ [p] (x1.trans (ex_own x1.sub hp _)) (fr_own x1.sub hp) (rp_lst hp rr fun _ z => nomatch z)
    · cases e
  · unfold gList at h
    split at h
    all_goals first | cases h | (split at h <;> cases h)
def gTuple : List D → Res D
  | [.lst _ xs] => if noOwnL xs then .ok (.tup xs) else .bad
  | [.tup xs] => if noOwnL xs then .ok (.tup xs) else .bad
  | _ => .bad
theorem rule_tuple : CallRule X (.type "tuple") gTuple := by
  refine ⟨⟨_, call_tuple_of, fun F H vs ds fs Q s r d e q => ?_⟩, fun a c h => ?_⟩
  · unfold gTuple at e
    split at e
    · split at e
      · rename_i c
        cases e
        obtain ⟨v, rfl, r1⟩ := rpL1 r
        obtain ⟨a, ws, f, ev, h1, h2, _⟩ := Rp.rdL s r1
        exact ⟨a, ws, by rw [ev], .inl ⟨.inl h1, fun p hp => q _ _ _ [] (ex_tup s hp _) fr_nil (rp_tup s hp (h2.plain c) fun _ z => nomatch z)⟩⟩
      · cases e
    · split at e
      · rename_i c
        cases e
        obtain ⟨v, rfl, r1⟩ := rpL1 r
        obtain ⟨a, ws, ev, h1, h0, h2⟩ := Rp.sqT s r1
        exact ⟨a, ws, by rw [ev], .inr ⟨h1, q _ F H [] (Ex.refl s) fr_nil ⟨a, ws, rfl, h0, h2.plain c⟩⟩⟩
      · cases e
    · cases e
  · unfold gTuple at h
    split at h
    all_goals first | cases h | (split at h <;> cases h)
end
end Dl
set_option Elab.async false
set_option linter.all false
set_option maxRecDepth 100000
set_option maxHeartbeats 4000000
/- D-layer 15: sorted; dicts: display, get, update, the walk over keys. -/
namespace Dl
open PySem PySem.Spec PyProof.Rows L2

/-! ### sorted -/
section
variable {α : Type} {lt : α → α → Bool}
def insI (lt : α → α → Bool) (x : α) : List α → List α
  | [] => [x]
  | y :: r => if lt y x then y :: insI lt x r else x :: y :: r
def isort (lt : α → α → Bool) : List α → List α
  | [] => []
  | x :: r => insI lt x (isort lt r)
theorem insI_perm (x : α) : ∀ l : List α, (insI lt x l).Perm (x :: l)
  | [] => .refl _
  | y :: r => by
    unfold insI
    split
    · exact ((insI_perm x r).cons y).trans (.swap x y r)
    · exact .refl _
theorem isort_perm : ∀ l : List α, (isort lt l).Perm l
  | [] => .refl _
  | x :: r => (insI_perm x _).trans ((isort_perm r).cons x)
theorem insI_sorted (O : SrtO.Swo lt) (x : α) : ∀ {l : List α}, l.Pairwise (fun a b => lt b a = false) → (insI lt x l).Pairwise (fun a b => lt b a = false)
  | [], _ => by simp [insI]
  | y :: r, h => by
    obtain ⟨h1, h2⟩ := List.pairwise_cons.mp h
    unfold insI
    split
    · rename_i c
      refine List.pairwise_cons.mpr ⟨fun z hz => ?_, insI_sorted O x h2⟩
      rcases List.mem_cons.mp ((insI_perm x r).mem_iff.mp hz) with e | hz
      · rw [e]; exact O.asym _ _ c
      · exact h1 z hz
    · rename_i c
      have c : lt y x = false := by simpa using c
      refine List.pairwise_cons.mpr ⟨fun z hz => ?_, h⟩
      rcases List.mem_cons.mp hz with e | hz
      · rw [e]; exact c
      · exact O.tr x y z c (h1 z hz)
theorem isort_sorted (O : SrtO.Swo lt) : ∀ l : List α, (isort lt l).Pairwise (fun a b => lt b a = false)
  | [] => List.Pairwise.nil
  | x :: r => insI_sorted O x (isort_sorted O r)
theorem sorted_uniq (anti : ∀ x y, lt x y = false → lt y x = false → x = y) : ∀ {l m : List α}, l.Perm m → l.Pairwise (fun a b => lt b a = false) → m.Pairwise (fun a b => lt b a = false) → l = m
  | [], m, p, _, _ => (List.Perm.nil_eq p)
  | x :: l, [], p, _, _ => absurd p.length_eq (by simp)
  | x :: l, y :: m, p, h1, h2 => by
    obtain ⟨a1, b1⟩ := List.pairwise_cons.mp h1
    obtain ⟨a2, b2⟩ := List.pairwise_cons.mp h2
    have e : x = y := by
      rcases List.mem_cons.mp (p.mem_iff.mp (List.mem_cons_self (a := x) (l := l))) with e | hx
      · exact e
      · rcases List.mem_cons.mp (p.mem_iff.mpr (List.mem_cons_self (a := y) (l := m))) with e | hy
        · exact e.symm
        · exact anti x y (a2 x hx) (a1 y hy)
    subst e
    rw [sorted_uniq anti p.cons_inv b1 b2]
end
def ltI (a b : Int) : Bool := decide (a < b)
theorem ltI_swo : SrtO.Swo ltI := ⟨fun x y h => by simp [ltI] at *; omega, fun x y z h1 h2 => by simp [ltI] at *; omega⟩
theorem ltI_anti (x y : Int) (h1 : ltI x y = false) (h2 : ltI y x = false) : x = y := by simp [ltI] at *; omega
theorem lexB_swo : SrtO.Swo SrtO.lexB := by
  refine ⟨fun x y h => ?_, fun x y z h1 h2 => ?_⟩
  · have a := SrtO.lexB_iff.mp h
    exact SrtO.lexB_no.mpr (by omega)
  · have a := SrtO.lexB_no.mp h1
    have b := SrtO.lexB_no.mp h2
    exact SrtO.lexB_no.mpr (by omega)
theorem lexB_anti (x y : Int × Int) (h1 : SrtO.lexB x y = false) (h2 : SrtO.lexB y x = false) : x = y := by
  have a := SrtO.lexB_no.mp h1
  have b := SrtO.lexB_no.mp h2
  apply Prod.ext <;> omega
def intsOf : List D → Option (List Int)
  | [] => some []
  | .int i :: r => (intsOf r).map fun l => i :: l
  | _ :: _ => none
def pairsOf : List D → Option (List (Int × Int))
  | [] => some []
  | .tup [.int a, .int b] :: r => (pairsOf r).map fun l => (a, b) :: l
  | _ :: _ => none
def pairD (p : Int × Int) : D := .tup [.int p.1, .int p.2]
def sortD (xs : List D) : Option (List D) := match intsOf xs with
  | some ns => some ((isort ltI ns).map .int)
  | none => (pairsOf xs).map fun ps => (isort SrtO.lexB ps).map pairD
def gSorted : List D → Res D
  | [.lst _ xs] => match sortD xs with
    | some ys => .ok (.lst true ys)
    | none => .bad
  | _ => .bad
theorem intsOf_map : ∀ {xs : List D} {ns : List Int}, intsOf xs = some ns → xs = ns.map .int
  | [], ns, h => by cases h; rfl
  | .int i :: r, ns, h => by
    obtain ⟨l, e1, e2⟩ := Option.map_eq_some_iff.mp (show (intsOf r).map _ = some ns from h)
    subst e2
    rw [intsOf_map e1]; rfl
  | .non :: _, _, h => by cases h
  | .bl _ :: _, _, h => by cases h
  | .str _ :: _, _, h => by cases h
  | .tup _ :: _, _, h => by cases h
  | .lst _ _ :: _, _, h => by cases h
  | .dk _ _ _ :: _, _, h => by cases h
  | .dt _ _ _ :: _, _, h => by cases h
  | .scr _ :: _, _, h => by cases h
  | .dead :: _, _, h => by cases h
theorem pairsOf_map : ∀ {xs : List D} {ps : List (Int × Int)}, pairsOf xs = some ps → xs = ps.map pairD := by
  intro xs
  induction xs with
  | nil => intro ps h; cases h; rfl
  | cons d r ih =>
    intro ps h
    unfold pairsOf at h
    split at h
    · rename_i e
      cases e
    · rename_i a b r' e
      cases e
      obtain ⟨l, e1, e2⟩ := Option.map_eq_some_iff.mp h
      subst e2
      rw [ih e1]; rfl
    · cases h
section
variable {X : Cx} {K : PySem.W.Frag} {F H : Hp}
theorem rpL_intsV : ∀ {ns : List Int} {vs : List V} {f : List Addr}, RpL K F H (ns.map .int) vs f → vs = ns.map V.int
  | [], vs, f, r => r.1
  | n :: ns, vs, f, r => by
    obtain ⟨v, t, f1, g1, e1, e2, h1, h2⟩ := r
    rw [e1, h1.1, rpL_intsV h2]; rfl
def keyP (H : Hp) : V → Int × Int
  | .ref t => match H t with
    | some (.tup [.int a, .int b]) => (a, b)
    | _ => (0, 0)
  | _ => (0, 0)
theorem rpL_pairs (s : Same F H) : ∀ {ps : List (Int × Int)} {vs : List V} {f : List Addr}, RpL K F H (ps.map pairD) vs f → vs.map (keyP H) = ps ∧ ∀ v ∈ vs, Rp K F H (pairD (keyP H v)) v [] ∧ ∃ t, v = V.ref t ∧ H t = some (.tup [.int (keyP H v).1, .int (keyP H v).2])
  | [], vs, f, r => by rw [r.1]; exact ⟨rfl, fun v z => nomatch z⟩
  | (a, b) :: ps, vs, f, r => by
    obtain ⟨v, t, f1, g1, e1, e2, h1, h2⟩ := r
    obtain ⟨k1, k2⟩ := rpL_pairs s h2
    obtain ⟨q, ws, ev, hF, hr⟩ := h1
    obtain ⟨v1, v2, c1, c2, ew, ec, r1, r2⟩ := rpL2 hr
    have eq1 : ws = [.int a, .int b] := by rw [ew, show v1 = V.int a from r1.1, show v2 = V.int b from r2.1]
    subst eq1 e1
    have hk : keyP H v = (a, b) := by
      rw [ev]
      simp only [keyP, s _ _ hF]
    refine ⟨by rw [List.map_cons, hk, k1], fun y hy => ?_⟩
    rcases List.mem_cons.mp hy with e | hy
    · rw [e, hk]
      exact ⟨⟨q, _, ev, hF, .int a, [.int b], [], [], rfl, rfl, ⟨rfl, rfl⟩, .int b, [], [], [], rfl, rfl, ⟨rfl, rfl⟩, rfl, rfl⟩, q, ev, s _ _ hF⟩
    · exact k2 y hy
theorem rpL_all {g : V → D} : ∀ {vs : List V}, (∀ v ∈ vs, Rp K F H (g v) v []) → RpL K F H (vs.map g) vs []
  | [], _ => ⟨rfl, rfl⟩
  | v :: vs, h => ⟨v, vs, [], [], rfl, rfl, h v List.mem_cons_self, rpL_all fun y hy => h y (List.mem_cons_of_mem _ hy)⟩
theorem rule_sorted : CallRule X (.builtin "sorted") gSorted := by
  refine ⟨⟨_, cr_sortedI.or cr_sortedPO, fun F H vs ds fs Q s r d e q => ?_⟩, fun a c h => ?_⟩
  · unfold gSorted at e
    split at e
    · rename_i o xs
      split at e
      · rename_i ys hy
        cases e
        obtain ⟨v, rfl, r1⟩ := rpL1 r
        obtain ⟨a, ws, f, ev, h1, h2, _⟩ := Rp.rdL s r1
        unfold sortD at hy
        split at hy
        · rename_i ns hn
          have hy : (isort ltI ns).map D.int = ys := Option.some.inj hy
          have ex := intsOf_map hn
          rw [ex] at h2
          have ew := rpL_intsV h2
          refine .inl ⟨a, ns, by rw [ev], .inl (by rw [← ew]; exact h1), fun ns' p pm pw hp => ?_⟩
          have eq : ns' = isort ltI ns := sorted_uniq ltI_anti (pm.trans (isort_perm (lt := ltI) ns).symm) (pw.imp fun {x y} h => by simp [ltI]; omega) (isort_sorted ltI_swo ns)
          rw [eq]
          subst hy
          exact q _ F _ [p] (ex_own s hp _) (fr_own s hp) (rp_lst hp (rpL_ints _) fun _ z => nomatch z)
        · obtain ⟨ps, hp, hy⟩ := Option.map_eq_some_iff.mp hy
          have ex := pairsOf_map hp
          rw [ex] at h2
          obtain ⟨k1, k2⟩ := rpL_pairs s h2
          refine .inr ⟨a, ws, keyP H, by rw [ev], .inl h1, fun x hx => (k2 x hx).2, fun zs p sr st hp => ?_⟩
          have pm : (zs.map (keyP H)).Perm ps := by
            have := st.perm.map (keyP H)
            rw [k1] at this
            exact this
          have eq : zs.map (keyP H) = isort SrtO.lexB ps := sorted_uniq lexB_anti (pm.trans (isort_perm (lt := SrtO.lexB) ps).symm) (List.pairwise_map.mpr sr) (isort_sorted lexB_swo ps)
          have rr : RpL X.K F H ((isort SrtO.lexB ps).map pairD) zs [] := by
            rw [← eq, List.map_map]
            exact rpL_all fun v hv => (k2 v (st.perm.mem_iff.mp hv)).1
          subst hy
          exact q _ F _ [p] (ex_own s hp _) (fr_own s hp) (rp_lst hp rr fun _ z => nomatch z)
      · cases e
    · cases e
  · unfold gSorted at h
    split at h
    · split at h <;> cases h
    · cases h
end

/-! ### {}, d.get(k, x) -/
def dDictT : Ev → Res RV := fun _ => .ok (.val (.dt true [] []))
def dDictK : Ev → Res RV := fun _ => .ok (.val (.dk true [] []))
section
variable {X : Cx} {E : XK} {e o a b : Expr} {pos apos cpos : Pos} {fo fk fx : Ev → Res RV} {fy : Ev → Res (D × Ev)}
theorem de_dictT : DE X E (.Dict [] [] pos) dDictT := ⟨tDNewT, pe_dnewT, fun F0 H0 F H σ ρ fr en Q g p hp => g (.ref p) F _ [p] (ex_own en.sub hp _) (fr_own en.sub hp) ⟨p, [], [], rfl, upd_same, ⟨rfl, List.nodup_nil⟩, rfl, rfl, rfl⟩⟩
theorem de_dictK : DE X E (.Dict [] [] pos) dDictK := ⟨tDNewK, pe_dnewK, fun F0 H0 F H σ ρ fr en Q g p hp => g (.ref p) F _ [p] (ex_own en.sub hp _) (fr_own en.sub hp) ⟨p, [], [], rfl, upd_same, ⟨rfl, List.nodup_nil⟩, rfl, rfl, rfl⟩⟩
def getD2 (o k x : D) : Option D := match o with
  | .dk _ ks vs => if noOwnL vs && noOwn x then (keyOf k).map fun y => ((posK ks y).bind fun j => vs[j]?).getD x else none
  | .dt _ ks vs => if noOwnL vs && noOwn x then (tkeyOf k).map fun y => ((posK ks y).bind fun j => vs[j]?).getD x else none
  | _ => none
def isDic : D → Bool
  | .dk _ _ _ => true
  | .dt _ _ _ => true
  | _ => false
def dGet2 (fo fk fx : Ev → Res RV) : Ev → Res RV := fun ρ => do
  let o ← fo ρ
  let dO ← lookD ρ o
  if isDic dO then do
    let k ← fk ρ
    let x ← fx ρ
    let dk ← lookD ρ k
    match x with
    | .val dx => match getD2 dO dk dx with
      | some d => .ok (.val d)
      | none => .bad
    | _ => .bad
  else .bad
theorem getOpt_rp {K : PySem.W.Frag} {F H : Hp} {vs : List V} {ds : List D} {n : Option Nat} {z : V} {x : D} (h : RpL K F H ds vs []) (hz : Rp K F H x z []) : Rp K F H ((n.bind fun j => ds[j]?).getD x) ((n.bind fun j => vs[j]?).getD z) [] := by
  cases n with
  | none => exact hz
  | some j =>
    show Rp K F H (ds[j]?.getD x) (vs[j]?.getD z) []
    cases e : ds[j]? with
    | none =>
      have : vs[j]? = none := by rw [List.getElem?_eq_none_iff] at e ⊢; rw [← h.length]; exact e
      rw [this]; exact hz
    | some d =>
      obtain ⟨v, f, c1, c2, h1, h2, h3, _⟩ := RpL.at h e
      have ef : f = [] := (List.append_eq_nil_iff.mp (List.append_eq_nil_iff.mp h2.symm).2).1
      subst ef
      rw [h1]; exact h3
theorem isD_rp {K : PySem.W.Frag} {F H : Hp} {d : D} {v : V} {fp : List Addr} (s : Same F H) (r : Rp K F H d v fp) (h : isDic d = true) : ∃ a, v = .ref a ∧ IsD H a := by
  cases d with
  | dk o ks vs =>
    obtain ⟨a, ws, f, ev, h1, _⟩ := Rp.rdK s r
    exact ⟨a, ev, .inl ⟨_, h1⟩⟩
  | dt o ks vs =>
    obtain ⟨a, ws, f, ev, h1, _⟩ := Rp.rdT s r
    exact ⟨a, ev, .inr ⟨_, h1⟩⟩
  | _ => cases h
theorem de_get2 (hu : X.A.units + 1 < cLine) (ho : DE X E o fo) (hk : DE X E a fk) (hx : DE X E b fx) (m : M2 X o "get" apos a b cpos) : DE X E (.Call (.Attribute o "get" apos) [a, b] [] cpos) (dGet2 fo fk fx) := by
  obtain ⟨to, po, ro⟩ := ho.run
  obtain ⟨tk, pk, rk⟩ := hk.run
  obtain ⟨tx, px, rx⟩ := hx.run
  refine ⟨_, pe_dget2 hu po pk px m, fun F0 H0 F H σ ρ fr en Q h => ro F0 H0 F H σ ρ fr en _ ?_⟩
  unfold dGet2 at h
  cases eo : fo ρ with
  | bad => rw [eo] at h; exact h
  | exc c => rw [eo] at h; exact h
  | ok y1 =>
    rw [eo] at h
    simp only [ok_bind] at h
    intro v1 F1 H1 f1 x1 r1 q1
    have en1 := en.add x1 r1 (Rv.cells q1)
    cases e1 : lookD ρ y1 with
    | bad => rw [e1] at h; exact h.elim
    | exc c => exact absurd e1 (lookD_ne _ _ _)
    | ok dO =>
      rw [e1] at h
      simp only [ok_bind] at h
      cases ed : isDic dO with
      | false => rw [ed] at h; exact h.elim
      | true =>
        rw [ed, if_pos rfl] at h
        obtain ⟨g1, rp1⟩ := look_rp en1 q1 e1
        obtain ⟨a1, ev1, hd⟩ := isD_rp x1.sub rp1 ed
        refine ⟨a1, ev1, hd, rk F0 H0 F1 H1 σ ρ _ en1 _ ?_⟩
        cases ek : fk ρ with
        | bad => rw [ek] at h; exact h
        | exc c => rw [ek] at h; exact h
        | ok y2 =>
          rw [ek] at h
          simp only [ok_bind] at h
          intro v2 F2 H2 f2 x2 r2 q2
          have en2 := en1.add x2 r2 (Rv.cells q2)
          refine rx F0 H0 F2 H2 σ ρ _ en2 _ ?_
          cases ex : fx ρ with
          | bad => rw [ex] at h; exact h
          | exc c => rw [ex] at h; exact h
          | ok y3 =>
            rw [ex] at h
            simp only [ok_bind] at h
            intro v3 F3 H3 f3 x3 r3 q3
            have en3 := en2.ext x3
            cases e2 : lookD ρ y2 with
            | bad => rw [e2] at h; exact h.elim
            | exc c => exact absurd e2 (lookD_ne _ _ _)
            | ok dk =>
              rw [e2] at h
              simp only [ok_bind] at h
              cases y3 with
              | lv j p => exact h.elim
              | val dx =>
                simp only at h
                cases e3 : getD2 dO dk dx with
                | none => rw [e3] at h; exact h.elim
                | some d =>
                  rw [e3] at h
                  obtain ⟨g2, rp2⟩ := look_rp en3 (q2.ext x3) e2
                  obtain ⟨g1', rp1'⟩ := look_rp en3 ((q1.ext x2).ext x3) e1
                  have q3 : Rp X.K F3 H3 dx v3 f3 := q3
                  have x13 := (x1.trans x2).trans x3
                  unfold getD2 at e3
                  split at e3
                  · split at e3
                    · rename_i c
                      rw [Bool.and_eq_true] at c
                      obtain ⟨y, hy, e3⟩ := Option.map_eq_some_iff.mp e3
                      obtain ⟨a', ws, f', ev, rr, _, l, g⟩ := dk_get x3.sub rp1' rp2 hy
                      rw [ev1] at ev
                      cases ev
                      refine ⟨_, g, ?_⟩
                      subst e3
                      exact h _ F3 H3 [] x13 fr_nil (getOpt_rp (rr.plain c.1) (q3.plain c.2))
                    · cases e3
                  · split at e3
                    · rename_i c
                      rw [Bool.and_eq_true] at c
                      obtain ⟨y, hy, e3⟩ := Option.map_eq_some_iff.mp e3
                      obtain ⟨a', ws, f', ev, rr, _, l, g⟩ := dt_get x3.sub rp1' rp2 hy
                      rw [ev1] at ev
                      cases ev
                      refine ⟨_, g, ?_⟩
                      subst e3
                      exact h _ F3 H3 [] x13 fr_nil (getOpt_rp (rr.plain c.1) (q3.plain c.2))
                    · cases e3
                  · cases e3
end
end Dl
set_option Elab.async false
set_option linter.all false
set_option maxRecDepth 100000
set_option maxHeartbeats 4000000
/- D-layer 16: d.update(e), for k in d. -/
namespace Dl
open PySem PySem.Spec PyProof.Rows L2

/-! ### d.update(e), keys that are tuples -/
def mergeT (kvs more : List (List Key × V)) : List (List Key × V) := more.foldl (fun acc p => putK acc p.1 p.2) kvs
theorem KT.merge {H : Hp} : ∀ {more : List (List Key × V)} {ys : List (List Key × Addr × Value)} {kvs : List (List Key × V)} {xs : List (List Key × Addr × Value)}, KT H more ys → KT H kvs xs → KT H (mergeT kvs more) (storedAllH xs ys) := by
  intro more ys kvs xs r
  unfold KT at r
  induction r generalizing kvs xs with
  | nil => intro q; exact q
  | @cons p q ps qs h t ih =>
    intro r0
    have e : KT H (putK kvs p.1 p.2) (storedH xs q.1 q.2.1 q.2.2) := by
      have := KT.put r0 p.1 h.2.1 h.2.2
      rw [← h.1]; exact this
    exact ih e
theorem mergeT_len : ∀ (more kvs : List (List Key × V)), (mergeT kvs more).length ≤ kvs.length + more.length
  | [], kvs => by show kvs.length ≤ kvs.length + 0; omega
  | p :: r, kvs => by
    have h1 := mergeT_len r (putK kvs p.1 p.2)
    have h2 := length_putK kvs p.1 p.2
    show (mergeT (putK kvs p.1 p.2) r).length ≤ _
    rw [List.length_cons]; omega
def rUpdT : V → List V → Hp → VK → Prop := fun x xs H Q => ∃ (a b : Addr) (kvs more : List (List Key × V)), x = .ref a ∧ xs = [.ref b] ∧ a ≠ b ∧ H a = some (.dT kvs) ∧ Rd H b (.dT more) ∧ (kvs ≠ [] ∨ more = []) ∧ kvs.length + more.length ≤ sizeLine ∧ Q .non (upd H a (.dT (mergeT kvs more)))
section
variable {X : Cx}
theorem mt_updT (hu : X.A.units + 1 < cLine) : MtR X "dict.update" rUpdT := by
  intro pins s σ H x xs v us Q I rx rxs ⟨a, b, kvs, more, ex, exs, hne, ha, hb, hap, hz, q⟩
  subst ex exs
  obtain ⟨u, rfl, ru⟩ := vals1 rxs
  obtain rfl : u = .ref b := ru
  obtain rfl : v = .ref a := rx
  obtain ⟨z1, d1, zs, r1, dd1⟩ := dt_of I.hok ha
  obtain ⟨z2, d2, ys, r2, dd2⟩ := dt_rd I.hok hb
  have l1 : kvs.length = zs.length := Paired.length r1
  have l2 : more.length = ys.length := Paired.length r2
  refine call_update_dictH (tupleKind_room_in1 hu) hne d2 dd1 dd2 ?_ (by omega) fun h' dd' _ hs => ?_
  · rcases hap with e | e
    · refine .inl fun z => e ?_
      rw [z] at l1
      exact List.eq_nil_of_length_eq_zero l1
    · have : ys = [] := by
        rw [e] at l2
        exact List.eq_nil_of_length_eq_zero l2.symm
      subst this
      exact .inr ⟨(fun x z => nomatch z), List.nodup_nil⟩
  · obtain ⟨o, es, ep, hq, h2, h3, h4, _, h5⟩ := dd'
    have hl : (mergeT kvs more).length ≤ sizeLine := Nat.le_trans (mergeT_len more kvs) hz
    have new : ObjOk X.prog X.w (upd H a (.dT (mergeT kvs more))) h' a (.dT (mergeT kvs more)) := ⟨hl, d1, _, (KT.merge r2 r1).keeps fun c ys ec => by
      rw [upd_ne (ne_of ec ha (fun z => nomatch z))]
      exact ec, o, es, ep, hq, h2, h3, h4, h5⟩
    exact ⟨.non, _, d_write (t' := s.toks) I (by rw [ha]; exact True.intro) hs ⟨o, hq⟩ new, rfl, q⟩
end
def mergeKs {κ α : Type} [DecidableEq κ] (ks : List κ) (xs : List α) : List κ → List α → List κ × List α
  | y :: ys, d :: ds => mergeKs (putKs ks xs y d).1 (putKs ks xs y d).2 ys ds
  | _, _ => (ks, xs)
theorem merge_rp {K : PySem.W.Frag} {F H : Hp} : ∀ {ms : List (List Key)} {es : List D} {ws : List V} {ks : List (List Key)} {ds : List D} {vs : List V} {f0 : List Addr}, RpL K F H ds vs f0 → RpL K F H es ws [] → ks.length = vs.length → ks.Nodup → ms.length = ws.length →
    ∃ f2 l, RpL K F H (mergeKs ks ds ms es).2 (mergeKs ks vs ms ws).2 f2 ∧ (mergeKs ks ds ms es).1 = (mergeKs ks vs ms ws).1 ∧ ((mergeKs ks vs ms ws).1.length = (mergeKs ks vs ms ws).2.length ∧ (mergeKs ks vs ms ws).1.Nodup) ∧ (f2 ++ l).Perm f0 ∧ mergeT (ks.zip vs) (ms.zip ws) = (mergeKs ks vs ms ws).1.zip (mergeKs ks vs ms ws).2
  | [], es, ws, ks, ds, vs, f0, h, he, hl, hn, hm => by
    have ew : ws = [] := List.eq_nil_of_length_eq_zero hm.symm
    subst ew
    have ee : es = [] := List.eq_nil_of_length_eq_zero he.length
    subst ee
    exact ⟨f0, [], h, rfl, ⟨hl, hn⟩, by simp, rfl⟩
  | m :: ms, [], ws, ks, ds, vs, f0, h, he, hl, hn, hm => by
    obtain ⟨e, _⟩ := he
    rw [e] at hm; cases hm
  | m :: ms, e :: es, ws, ks, ds, vs, f0, h, he, hl, hn, hm => by
    obtain ⟨w, t, f, g, e1, e2, h1, h2⟩ := he
    obtain ⟨rfl, rfl⟩ := List.append_eq_nil_iff.mp e2.symm
    subst e1
    obtain ⟨f2, l, k1, k2, ⟨k3, k4⟩, k5, k6⟩ := putKs_rp (y := m) h h1 hl hn
    rw [List.append_nil] at k5
    obtain ⟨f3, l3, j1, j2, j3, j4, j5⟩ := merge_rp (ms := ms) k1 h2 k3 k4 (by simpa using hm)
    refine ⟨f3, l3 ++ l, ?_, ?_, j3, ?_, ?_⟩
    · show RpL K F H (mergeKs (putKs ks ds m e).1 (putKs ks ds m e).2 ms es).2 _ f3
      rw [k2]; exact j1
    · show (mergeKs (putKs ks ds m e).1 (putKs ks ds m e).2 ms es).1 = _
      rw [k2]; exact j2
    · rw [← List.append_assoc]
      exact (j4.append_right l).trans k5
    · show mergeT (putK (ks.zip vs) m w) (ms.zip t) = _
      rw [k6]; exact j5
def dUpd (i : Nat) (fx : Ev → Res (D × Ev)) : Ev → Res Out := fun ρ => match ρ[i]? with
  | some (.val (.dt true _ _)) => do
    let x ← fx ρ
    match x.2[i]? with
    | some (.val (.dt true ks xs)) => match frz x.1 with
      | .dt _ ms ys => if (!ks.isEmpty || ms.isEmpty) && fits (ks.length + ms.length) then .ok (.nx (x.2.set i (.val (.dt true (mergeKs ks xs ms ys).1 (mergeKs ks xs ms ys).2)))) else .bad
      | _ => .bad
    | _ => .bad
  | _ => .bad
section
variable {X : Cx} {E : XK} {e a b : Expr} {pos : Pos} {fx : Ev → Res (D × Ev)}
theorem En.at_dt {K : PySem.W.Frag} {F0 H0 F H : Hp} {σ : L2.St} {ρ : Ev} {fr : List Addr} {i : Nat} {ks : List (List Key)} {xs : List D} (en : En K F0 H0 F H σ ρ fr) (h : ρ[i]? = some (.val (.dt true ks xs))) : ∃ a vs, σ[i]? = some (some (.ref a)) ∧ H a = some (.dT (ks.zip vs)) := by
  obtain ⟨vj, a, vs, f0, h1, hw, ha, _⟩ := en.dtAt (place_var h rfl)
  cases hw
  exact ⟨a, vs, h1, ha⟩
theorem ds_upd (hu : X.A.units + 1 < cLine) {i : Nat} {x : Str} {p apos cpos : Pos} (h : PE X (.Name x p) (tVar i)) (hx : DX X E e fx) (hbase : attributeBase (.Name x p) "update" X.env (eval (.Name x p) X.env) = eval (.Name x p) X.env := by rfl)
    (hfew : ((backTo cpos (starEach (e :: []) X.env)).all (fun x => !x.1) && (backToKw cpos (keywordEach [] X.env)).all (fun x => x.1.isSome) && decide ((e :: []).length + ([] : List Keyword).length + (if ([] : List Keyword).isEmpty then 0 else 1) < 30)) = true := by rfl)
    (hline : (apos.endLine == cpos.line) = true := by rfl) (he : starEach (e :: []) X.env = (false, eval e X.env) :: starEach [] X.env := by rfl) (hpl : (backTo cpos (starEach [] X.env)).any (·.1) = false := by rfl)
    (hs : swapsWith (.Call (.Attribute (.Name x p) "update" apos) [e] [] cpos) none pos.line X.env = pure false := by rfl) :
    DS X E (.Expr (.Call (.Attribute (.Name x p) "update" apos) [e] [] cpos) pos) (dUpd i fx) := by
  obtain ⟨t, pt, r⟩ := hx.run
  refine ⟨_, ps_expr (pe_bm PySem.F.plainAttrs_dict PySem.F.slot_dict_update PySem.F.type_dict_update (mt_updT hu) h (pa_cons pt pa_nil he) hbase hfew hline he hpl) hs, fun F0 H0 F H σ ρ en D g => ?_⟩
  unfold dUpd at g
  split at g
  · rename_i ks0 xs0 ei
    obtain ⟨a0, vs0, hv, ha0⟩ := en.at_dt ei
    refine ⟨.ref a0, hv, .inr (.inr (.inl ⟨rfl, .inr ⟨_, ha0⟩⟩)), r F0 H0 F H σ ρ [] en _ ?_⟩
    refine XG.bind (k := fun x => match x.2[i]? with
      | some (.val (.dt true ks xs)) => match frz x.1 with
        | .dt _ ms ys => if (!ks.isEmpty || ms.isEmpty) && fits (ks.length + ms.length) then .ok (.nx (x.2.set i (.val (.dt true (mergeKs ks xs ms ys).1 (mergeKs ks xs ms ys).2)))) else .bad
        | _ => .bad
      | _ => .bad) g fun d ρ' _ g v F' H' fp en' rp => ?_
    simp only at g
    split at g
    · rename_i ks xs ei'
      split at g
      · rename_i o ms ys ef
        split at g
        · rename_i hc
          rw [Bool.and_eq_true] at hc
          rw [List.append_nil] at en'
          obtain ⟨cs, w, er⟩ := en'
          have w2 := Wd.frz w
          have rp' := Rp.freeze (l := fp) w.sub d v fp (fun _ z => z) rp
          have en2 : En X.K F0 H0 (addF F' H' fp) H' σ ρ' [] := ⟨cs, w2, er.mono (addF_same w.sub) fun _ _ => rfl⟩
          obtain ⟨vj, a, vs, f0, h1, hw, ha, ⟨hl, hn⟩, hr, ne, close⟩ := en2.dtAt (place_var ei' rfl)
          cases hw
          rw [hv] at h1
          cases h1
          have ho : o = false := by
            have q := noOwn_frz d
            rw [ef] at q
            cases o with
            | true => cases q
            | false => rfl
          subst ho
          rw [ef] at rp'
          obtain ⟨_, b, ws, ev, hb, ⟨hl2, hn2⟩, hr2⟩ := rp'
          subst ev
          obtain ⟨f2, l, j1, j2, ⟨j3, j4⟩, j5, j6⟩ := merge_rp (ms := ms) hr hr2 hl hn hl2
          have hab : a0 ≠ b := fun e => by
            subst e
            have hown : addF F' H' fp a0 = none := by
              obtain ⟨vj, v1, f1, rest, z1, z2, z3, z4, _⟩ := en2.place (place_var ei' rfl)
              rw [hv] at z1
              cases z1
              cases z2
              obtain ⟨a', vs', f', ev', _, _, ef', _⟩ := z3
              cases ev'
              rw [ef'] at z4
              exact (z4.own a0 (List.mem_append_left _ List.mem_cons_self)).1
            rcases hb with z | ⟨o, z⟩
            · rw [hown] at z; cases z
            · rw [hown] at z; cases z
          refine ⟨a0, b, _, _, rfl, rfl, hab, ha, rd_same w2.sub hb, ?_, ?_, ?_⟩
          · have hc1 : ks ≠ [] ∨ ms = [] := by
              have := hc.1
              rw [Bool.or_eq_true] at this
              rcases this with z | z
              · refine .inl fun e => ?_
                rw [e] at z; cases z
              · exact .inr (List.isEmpty_iff.mp z)
            rcases hc1 with z | z
            · refine .inl fun e => z ?_
              have := congrArg List.length e
              rw [List.length_zip, ← hl, Nat.min_self] at this
              exact List.eq_nil_of_length_eq_zero this
            · rw [z]; exact .inr rfl
          · rw [List.length_zip, List.length_zip, ← hl, ← hl2, Nat.min_self, Nat.min_self]
            exact fits_le hc.2
          · rw [j6]
            refine g (addF F' H' fp) _ σ ?_
            rw [j2]
            exact close _ _ _ f2 [] l j1 ⟨j3, j4⟩ (by simpa using j5)
        · exact g.elim
      · exact g.elim
    · exact g.elim
  · exact g.elim
end
end Dl
set_option Elab.async false
set_option linter.all false
set_option maxRecDepth 100000
set_option maxHeartbeats 4000000
/- D-layer 17: for k in d (the dict is locked while the loop runs). -/
namespace Dl
open PySem PySem.Spec PyProof.Rows L2

/-! ### a lock taken off -/
section
variable {K : PySem.W.Frag} {F F1 F0 H0 H H1 : Hp} {d : Addr} {o : Obj} {u : HO}
theorem rd_unlock (hF : F d = some (.frz o u)) (mu : Mut (some u)) {a : Addr} {x : HO} (hx : ∀ q y, x ≠ .frz q y) (h : Rd F a x) : Rd (upd F d u) a x := by
  by_cases e : a = d
  · subst e
    rcases h with h | ⟨o', h⟩
    · rw [hF] at h; cases h
      exact absurd rfl (hx _ _)
    · rw [hF] at h; cases h
      exact .inl upd_same
  · rcases h with h | ⟨o', h⟩
    · exact .inl (by rw [upd_ne e]; exact h)
    · exact .inr ⟨o', by rw [upd_ne e]; exact h⟩
theorem sql_unlock (hF : F d = some (.frz o u)) (mu : Mut (some u)) {a : Addr} {xs : List V} (h : SqL K F a xs) : SqL K (upd F d u) a xs := by
  rcases h with h | h
  · exact .inl (rd_unlock hF mu (fun _ _ z => by cases z) h)
  · exact .inr h
mutual
theorem Rp.unlock (hF : F d = some (.frz o u)) (hH : H d = some (.frz o u)) (mu : Mut (some u)) : ∀ (x : D) (v : V) (fp : List Addr), Rp K F H x v fp → Rp K (upd F d u) (upd H d u) x v fp
  | .non, _, _, h => h
  | .bl _, _, _, h => h
  | .int _, _, _, h => h
  | .str _, _, _, h => h
  | .dead, _, _, h => h
  | .scr ns, _, _, h => by
    obtain ⟨e0, a, e, q⟩ := h
    exact ⟨e0, a, e, sql_unlock hF mu q⟩
  | .tup ds, v, fp, h => by
    obtain ⟨a, vs, e, q, r⟩ := h
    refine ⟨a, vs, e, ?_, RpL.unlock hF hH mu ds vs fp r⟩
    rw [upd_ne fun z => by rw [z, hF] at q; cases q]; exact q
  | .lst false ds, v, fp, h => by
    obtain ⟨e0, a, vs, e, q, r⟩ := h
    exact ⟨e0, a, vs, e, rd_unlock hF mu (fun _ _ z => by cases z) q, RpL.unlock hF hH mu ds vs [] r⟩
  | .lst true ds, v, fp, h => by
    obtain ⟨a, vs, f, e, q, e2, r⟩ := h
    exact ⟨a, vs, f, e, by rw [upd_ne fun z => by rw [z, hH] at q; cases q]; exact q, e2, RpL.unlock hF hH mu ds vs f r⟩
  | .dk false ks ds, v, fp, h => by
    obtain ⟨e0, a, vs, e, q, l, r⟩ := h
    exact ⟨e0, a, vs, e, rd_unlock hF mu (fun _ _ z => by cases z) q, l, RpL.unlock hF hH mu ds vs [] r⟩
  | .dk true ks ds, v, fp, h => by
    obtain ⟨a, vs, f, e, q, l, e2, r⟩ := h
    exact ⟨a, vs, f, e, by rw [upd_ne fun z => by rw [z, hH] at q; cases q]; exact q, l, e2, RpL.unlock hF hH mu ds vs f r⟩
  | .dt false ks ds, v, fp, h => by
    obtain ⟨e0, a, vs, e, q, l, r⟩ := h
    exact ⟨e0, a, vs, e, rd_unlock hF mu (fun _ _ z => by cases z) q, l, RpL.unlock hF hH mu ds vs [] r⟩
  | .dt true ks ds, v, fp, h => by
    obtain ⟨a, vs, f, e, q, l, e2, r⟩ := h
    exact ⟨a, vs, f, e, by rw [upd_ne fun z => by rw [z, hH] at q; cases q]; exact q, l, e2, RpL.unlock hF hH mu ds vs f r⟩
theorem RpL.unlock (hF : F d = some (.frz o u)) (hH : H d = some (.frz o u)) (mu : Mut (some u)) : ∀ (ds : List D) (vs : List V) (fp : List Addr), RpL K F H ds vs fp → RpL K (upd F d u) (upd H d u) ds vs fp
  | [], _, _, h => h
  | x :: ds, vs, fp, h => by
    obtain ⟨v, r, f, g, e1, e2, h1, h2⟩ := h
    exact ⟨v, r, f, g, e1, e2, Rp.unlock hF hH mu x v f h1, RpL.unlock hF hH mu ds r g h2⟩
end
theorem EnR.unlock (hF : F d = some (.frz o u)) (hH : H d = some (.frz o u)) (mu : Mut (some u)) : ∀ {ρ : Ev} {σ : L2.St} {cs : List Addr}, EnR K F H ρ σ cs → EnR K (upd F d u) (upd H d u) ρ σ cs
  | [], _, _, h => h
  | s :: ρ, σ, cs, h => by
    obtain ⟨x, r, f, g, e1, e2, h1, h2⟩ := h
    refine ⟨x, r, f, g, e1, e2, ?_, EnR.unlock hF hH mu h2⟩
    cases s with
    | none => exact h1
    | val y => obtain ⟨v, e, q⟩ := h1; exact ⟨v, e, q.unlock hF hH mu y v f⟩
theorem Wd.unlock {L : List Addr} (w : Wd F0 H0 F H L) (hF : F d = some (.frz o u)) (h0 : F0 d = none) (h1 : H0 d = none) (mu : Mut (some u)) : Wd F0 H0 (upd F d u) (upd H d u) L := by
  refine ⟨fun b x e => ?_, fun b x e => ?_, fun b x e => ?_, fun b z => ?_, w.nod, fun b hb => ?_⟩
  · by_cases q : b = d
    · rw [q, upd_same] at e ⊢; exact e
    · rw [upd_ne q] at e ⊢; exact w.sub b x e
  · rw [upd_ne fun q => by rw [q, h1] at e; cases e]; exact w.ent b x e
  · rw [upd_ne fun q => by rw [q, h0] at e; cases e]; exact w.bas b x e
  · by_cases q : b = d
    · exact .inr (.inl (by rw [q]; exact h1))
    · rw [upd_ne q] at z; exact w.frs b z
  · obtain ⟨k1, k2, k3⟩ := w.own b hb
    have q : b ≠ d := fun q => by rw [q, hF] at k1; cases k1
    obtain ⟨x, e, nt⟩ := k3
    exact ⟨by rw [upd_ne q]; exact k1, k2, x, by rw [upd_ne q]; exact e, nt⟩
end

/-! ### the walk -/
def ownKeys : SL → Option (List D × D)
  | .val (.dt true ks vs) => some (ks.map tkeyD, .dt false ks (frzL vs))
  | .val (.dk true ks vs) => some (ks.map keyD, .dk false ks (frzL vs))
  | _ => none
def dForD (i : Nat) (h : D → Ev → Option Ev) (f : Ev → Res Out) : Ev → Res Out := fun ρ => match ρ[i]? with
  | some s => match ownKeys s with
    | some (ds, d') => forL h f ds (ρ.set i (.val d'))
    | none => .bad
  | none => .bad
section
variable {K : PySem.W.Frag}
theorem ItOk.keysT {F1 : Hp} {d : Addr} {o : Obj} {ks : List (List Key)} {vs : List V} (hl : ks.length = vs.length) (hd : F1 d = some (.frz o (.dT (ks.zip vs)))) : ItOk K (fun F2 _ => Same F1 F2) (Itkt d o (ks.zip vs)) (ks.map tkeyD) := by
  intro i F H s sub
  have hH := sub _ _ (s _ _ hd)
  have lz : (ks.zip vs).length = ks.length := by rw [List.length_zip, ← hl, Nat.min_self]
  refine ⟨fun x hx => ?_, fun hi => ⟨hH, by rw [lz]; simpa using hi⟩⟩
  rw [List.getElem?_map] at hx
  obtain ⟨k, hk, e⟩ := Option.map_eq_some_iff.mp hx
  subst e
  have hi : i < ks.length := (List.getElem?_eq_some_iff.mp hk).1
  refine ⟨⟨hH, by rw [lz]; exact hi⟩, fun v H' y => ?_⟩
  obtain ⟨e, k', w, q, hz, ev, hq⟩ := y
  subst e
  have ek : k' = k := by
    have := (List.getElem?_zip_eq_some.mp hz).1
    rw [hk] at this
    exact (Option.some.inj this).symm
  subst ek
  refine ⟨addF F H' [q], ex_keys sub (fun b hb => ?_), q, k'.map kV, ev, ?_, rpL_keys k'⟩
  · have e : b = q := by simpa using hb
    rw [e]; exact ⟨_, hq⟩
  · rw [addF_in (by simp)]; exact hq
theorem ItOk.keysK {F1 : Hp} {d : Addr} {o : Obj} {ks : List Key} {vs : List V} (hl : ks.length = vs.length) (hd : F1 d = some (.frz o (.dK (ks.zip vs)))) : ItOk K (fun F2 _ => Same F1 F2) (Itk d o (ks.zip vs)) (ks.map keyD) := by
  intro i F H s sub
  have hH := sub _ _ (s _ _ hd)
  have lz : (ks.zip vs).length = ks.length := by rw [List.length_zip, ← hl, Nat.min_self]
  refine ⟨fun x hx => ?_, fun hi => ⟨hH, by rw [lz]; simpa using hi⟩⟩
  rw [List.getElem?_map] at hx
  obtain ⟨k, hk, e⟩ := Option.map_eq_some_iff.mp hx
  subst e
  have hi : i < ks.length := (List.getElem?_eq_some_iff.mp hk).1
  refine ⟨⟨hH, by rw [lz]; exact hi⟩, fun v H' y => ?_⟩
  obtain ⟨e, k', w, hz, ev⟩ := y
  subst e
  have ek : k' = k := by
    have := (List.getElem?_zip_eq_some.mp hz).1
    rw [hk] at this
    exact (Option.some.inj this).symm
  subst ek
  rw [ev]
  exact ⟨F, Ex.refl sub, rp_key⟩
end
section
variable {X : Cx} {E : XK} {a b c tg : Expr} {pos : Pos} {is : List Nat} {h : D → Ev → Option Ev} {f : Ev → Res Out} {body : List Stmt}
/-- the loop over given items, the iterator being met -/
theorem for_core {g : TG} {tb : TS} (rg : ∀ F0 H0 F H σ ρ fr fp d v, En X.K F0 H0 F H σ ρ (fp ++ fr) → Rp X.K F H d v fp → ∀ ρ', h d ρ = some ρ' → ∀ Q : L2.St → Hp → Prop, (∀ σ', En X.K F0 H0 F H σ' ρ' fr → (∀ vs, (∀ i ∈ is, i ∈ vs) → wipe σ' vs = wipe σ vs) → Q σ' H) → g v σ H Q)
    (rb : ∀ F0 H0 F H σ ρ, En X.K F0 H0 F H σ ρ [] → ∀ D : Ends, SG X.K X.mg F0 H0 E (f ρ) D → tb D σ H) {ds : List D} {F1 H0 H1 : Hp} {σ : L2.St} {ρ' : Ev} {J : It} {D : Ends} (en1 : En X.K F1 H0 F1 H1 σ ρ' []) (q : SG X.K X.mg F1 H0 E (forL h f ds ρ') D) (it : ItOk X.K (fun F2 _ => Same F1 F2) J ds) :
    ∃ W : Nat → Nat → L2.St → Hp → Prop, (∃ m, W 0 m σ H1) ∧ ∀ i m σ H, W i m σ H →
      (J.stop i H ∧ D.nx σ H) ∨ (J.go i H ∧ ∃ N : L2.St → Hp → Prop, (∀ σ' H', N σ' H' → ∃ m', m' < m ∧ W (i + 1) m' σ' H') ∧ ∀ x H', J.yld i H x H' → g x σ H' fun σ2 H2 => tb { D with nx := N, ct := N, bk := D.nx } σ2 H2) := by
  refine ⟨fun i m σ H => m = ds.length - i ∧ i ≤ ds.length ∧ ∃ F ρ, En X.K F1 H0 F H σ ρ [] ∧ SG X.K X.mg F1 H0 E (forL h f (ds.drop i) ρ) D, ⟨ds.length, by simp, Nat.zero_le _, F1, ρ', en1, by simpa using q⟩, ?_⟩
  rintro i m σ2 H2 ⟨hm, hi', F2, ρ2, en2, q2⟩
  have t := it i F2 H2 (let ⟨_, w, _⟩ := en2; w.bas) en2.sub
  by_cases hlt : i < ds.length
  · obtain ⟨go, yld⟩ := t.1 ds[i] (List.getElem?_eq_getElem hlt)
    refine .inr ⟨go, fun σ' H' => (m - 1 = ds.length - (i + 1) ∧ i + 1 ≤ ds.length ∧ ∃ F ρ, En X.K F1 H0 F H' σ' ρ [] ∧ SG X.K X.mg F1 H0 E (forL h f (ds.drop (i + 1)) ρ) D), fun σ' H' w => ⟨m - 1, by omega, w⟩, fun x H' y => ?_⟩
    obtain ⟨F3, x3, r3⟩ := yld x H' y
    rw [List.drop_eq_getElem_cons hlt, forL] at q2
    cases eh : h ds[i] ρ2 with
    | none => rw [eh] at q2; exact q2.elim
    | some ρ3 =>
      rw [eh] at q2
      refine rg F1 H0 F3 H' σ2 ρ2 [] [] ds[i] x (en2.ext x3) r3 ρ3 eh _ fun σ4 en4 _ => ?_
      refine rb F1 H0 F3 H' σ4 ρ3 en4 _ ?_
      exact SG.turn (k := forL h f (ds.drop (i + 1))) q2 fun ρ5 q5 F5 H5 σ5 en5 => ⟨by omega, hlt, F5, ρ5, en5, q5⟩
  · have e : i = ds.length := by omega
    subst e
    rw [List.drop_length] at q2
    exact .inl ⟨t.2 (Nat.le_refl _), q2 F2 H2 σ2 en2⟩
/-- what is to be met while a thing is locked -/
theorem SG.locked {K : PySem.W.Frag} {mg : Str → Option Value} {F0 F1 H0 H1 : Hp} {M : List Addr} {d : Addr} {od : Obj} {u : HO} {r : Res Out} {D : Ends} (w1 : Wd F0 H0 F1 H1 M) (hF : F1 d = some (.frz od u)) (h0 : F0 d = none) (h1 : H0 d = none) (mu : Mut (some u)) (q : SG K mg F0 H0 E r D) :
    SG K mg F1 H0 E r ⟨fun σ' H' => H' d = some (.frz od u) ∧ D.nx σ' (upd H' d u), fun v H' => H' d = some (.frz od u) ∧ D.rt v (upd H' d u), fun σ' H' => H' d = some (.frz od u) ∧ D.bk σ' (upd H' d u), fun σ' H' => H' d = some (.frz od u) ∧ D.ct σ' (upd H' d u)⟩ := by
  have go : ∀ {F' H' : Hp} {σ' : L2.St} {ρ' : Ev}, En K F1 H0 F' H' σ' ρ' [] → H' d = some (.frz od u) ∧ En K F0 H0 (upd F' d u) (upd H' d u) σ' ρ' [] := fun {F' H' σ' ρ'} en => by
    obtain ⟨cs, w, er⟩ := en
    have hF' := w.bas _ _ hF
    have hH' := w.sub _ _ hF'
    exact ⟨hH', cs, (Wd.unbase w1 w).unlock hF' h0 h1 mu, er.unlock hF' hH' mu⟩
  cases r with
  | bad => exact q
  | exc c => exact q
  | ok o =>
    cases o with
    | nx ρ' => exact fun F' H' σ' en => ⟨(go en).1, q _ _ σ' (go en).2⟩
    | bk ρ' => exact fun F' H' σ' en => ⟨(go en).1, q _ _ σ' (go en).2⟩
    | ct ρ' => exact fun F' H' σ' en => ⟨(go en).1, q _ _ σ' (go en).2⟩
    | rt x =>
      intro v F' H' fp w rp
      have hF' := w.bas _ _ hF
      have hH' := w.sub _ _ hF'
      exact ⟨hH', q v _ _ fp ((Wd.unbase w1 w).unlock hF' h0 h1 mu) (rp.unlock hF' hH' mu x v fp)⟩
theorem ds_forD {i : Nat} {x : Str} {p : Pos} (hp : PassesOwn (model X.prog X.w) X.A X.env X.xe) (hc : X.calm = true) (hv : PE X (.Name x p) (tVar i)) (hg : DG X tg is h) (hb : DB X E body f) (hs : ∀ y, foldedSetIterable (.Name x p) X.env y = pure y := by intro _; rfl) :
    DS X E (.For tg (.Name x p) body [] pos) (dForD i h f) := by
  obtain ⟨g, pg, rg⟩ := hg.run
  obtain ⟨tb, pb, rb⟩ := hb.run
  refine ⟨_, ps_lock (ps_for hp hc (pi_keys hv) pg pb hs), fun F0 H0 F H σ ρ en D q => ?_⟩
  unfold dForD at q
  cases ei : ρ[i]? with
  | none => rw [ei] at q; exact q.elim
  | some s =>
    rw [ei] at q
    simp only at q
    cases s with
    | none => exact q.elim
    | val dd =>
      cases dd with
      | dt o ks vs =>
        cases o with
        | false => exact q.elim
        | true =>
          have q : SG X.K X.mg F0 H0 E (forL h f (ks.map tkeyD) (ρ.set i (.val (.dt false ks (frzL vs))))) D := q
          obtain ⟨vj, v, fc, rest, h1, hw, h3, w, close⟩ := en.place (place_var ei rfl)
          cases hw
          obtain ⟨d, ws, f0, ev, hd, hl, ef, hr⟩ := h3
          subst ev ef
          obtain ⟨k1, k2, k3⟩ := w.own d (List.mem_append_left _ List.mem_cons_self)
          have k0 : F0 d = none := w.bas.free k1
          refine ⟨d, _, hd, True.intro, fun od => ?_⟩
          have w2 : Wd F0 H0 F (upd H d (.frz od (.dT (ks.zip ws)))) ((d :: f0) ++ ([] ++ rest)) := w.put (List.mem_append_left _ List.mem_cons_self) (fun _ z => by cases z)
          have w3 := Wd.frz w2
          have hF1 : addF F (upd H d (.frz od (.dT (ks.zip ws)))) (d :: f0) d = some (.frz od (.dT (ks.zip ws))) := by rw [addF_in List.mem_cons_self, upd_same]
          have nd := w.nod
          have ne : ∀ b, b ∈ f0 ∨ b ∈ rest → b ≠ d := fun b hb e => by
            rw [List.cons_append] at nd
            refine (List.nodup_cons.mp nd).1 (e ▸ ?_)
            rcases hb with z | z
            · exact List.mem_append_left _ z
            · exact List.mem_append_right _ (List.mem_append_right _ z)
          have hr1 : RpL X.K F (upd H d (.frz od (.dT (ks.zip ws)))) vs ws f0 := RpL.mono (Same.refl F) vs ws f0 (fun b hb => upd_ne (ne b (.inl hb))) hr
          have hr2 := RpL.freeze (l := d :: f0) w2.sub vs ws f0 (fun b hb => List.mem_cons_of_mem _ hb) hr1
          obtain ⟨cs, e1, e2⟩ := close (addF F (upd H d (.frz od (.dT (ks.zip ws)))) (d :: f0)) (upd H d (.frz od (.dT (ks.zip ws)))) (.dt false ks (frzL vs)) [] (addF_same w2.sub) (fun b hb => upd_ne (ne b (.inr hb))) ⟨rfl, d, ws, rfl, .inr ⟨od, hF1⟩, hl, hr2⟩
          have en1 : En X.K F0 H0 (addF F (upd H d (.frz od (.dT (ks.zip ws)))) (d :: f0)) (upd H d (.frz od (.dT (ks.zip ws)))) σ (ρ.set i (.val (.dt false ks (frzL vs)))) [] := ⟨cs, w3.perm (by simpa using e2), e1⟩
          refine ⟨.ref d, h1, d, od, rfl, .inr ⟨_, upd_same, ?_⟩⟩
          exact for_core rg rb en1.base (SG.locked w3 hF1 k0 k2 True.intro q) (ItOk.keysT hl.1 hF1)
      | dk o ks vs =>
        cases o with
        | false => exact q.elim
        | true =>
          have q : SG X.K X.mg F0 H0 E (forL h f (ks.map keyD) (ρ.set i (.val (.dk false ks (frzL vs))))) D := q
          obtain ⟨vj, v, fc, rest, h1, hw, h3, w, close⟩ := en.place (place_var ei rfl)
          cases hw
          obtain ⟨d, ws, f0, ev, hd, hl, ef, hr⟩ := h3
          subst ev ef
          obtain ⟨k1, k2, k3⟩ := w.own d (List.mem_append_left _ List.mem_cons_self)
          have k0 : F0 d = none := w.bas.free k1
          refine ⟨d, _, hd, True.intro, fun od => ?_⟩
          have w2 : Wd F0 H0 F (upd H d (.frz od (.dK (ks.zip ws)))) ((d :: f0) ++ ([] ++ rest)) := w.put (List.mem_append_left _ List.mem_cons_self) (fun _ z => by cases z)
          have w3 := Wd.frz w2
          have hF1 : addF F (upd H d (.frz od (.dK (ks.zip ws)))) (d :: f0) d = some (.frz od (.dK (ks.zip ws))) := by rw [addF_in List.mem_cons_self, upd_same]
          have nd := w.nod
          have ne : ∀ b, b ∈ f0 ∨ b ∈ rest → b ≠ d := fun b hb e => by
            rw [List.cons_append] at nd
            refine (List.nodup_cons.mp nd).1 (e ▸ ?_)
            rcases hb with z | z
            · exact List.mem_append_left _ z
            · exact List.mem_append_right _ (List.mem_append_right _ z)
          have hr1 : RpL X.K F (upd H d (.frz od (.dK (ks.zip ws)))) vs ws f0 := RpL.mono (Same.refl F) vs ws f0 (fun b hb => upd_ne (ne b (.inl hb))) hr
          have hr2 := RpL.freeze (l := d :: f0) w2.sub vs ws f0 (fun b hb => List.mem_cons_of_mem _ hb) hr1
          obtain ⟨cs, e1, e2⟩ := close (addF F (upd H d (.frz od (.dK (ks.zip ws)))) (d :: f0)) (upd H d (.frz od (.dK (ks.zip ws)))) (.dk false ks (frzL vs)) [] (addF_same w2.sub) (fun b hb => upd_ne (ne b (.inr hb))) ⟨rfl, d, ws, rfl, .inr ⟨od, hF1⟩, hl, hr2⟩
          have en1 : En X.K F0 H0 (addF F (upd H d (.frz od (.dK (ks.zip ws)))) (d :: f0)) (upd H d (.frz od (.dK (ks.zip ws)))) σ (ρ.set i (.val (.dk false ks (frzL vs)))) [] := ⟨cs, w3.perm (by simpa using e2), e1⟩
          refine ⟨.ref d, h1, d, od, rfl, .inl ⟨_, upd_same, ?_⟩⟩
          exact for_core rg rb en1.base (SG.locked w3 hF1 k0 k2 True.intro q) (ItOk.keysK hl.1 hF1)
      | _ => exact q.elim
end
end Dl
set_option Elab.async false
set_option linter.all false
set_option maxRecDepth 100000
set_option maxHeartbeats 4000000
namespace Dl
open PySem L2
noncomputable def b__law_pair : Ev → Res Out := (dRet (dXtup (dXcons (dXm (dFn gMin2 (dCons (dVar 0) (dCons (dVar 1) dNil)))) (dXcons (dXm (dFn gMax2 (dCons (dVar 0) (dCons (dVar 1) dNil)))) dXnil))))
noncomputable def m__law_pair : List D → Res D := dDef 2 b__law_pair
noncomputable def b__law_unlike : Ev → Res Out := (dRet (dXm (dLc (dRan (dCons (dFn gLen (dCons (dVar 0) dNil)) dNil)) (hN 2) (dTst (dBin gNe (dIx (dIx (dVar 0) (dVar 2)) (dC (.int 0))) (dIx (dIx (dVar 1) (dVar 2)) (dC (.int 0))))) (dVar 2) [2])))
noncomputable def m__law_unlike : List D → Res D := dDef 3 b__law_unlike
noncomputable def b__law_first : Ev → Res Out := (dSeq (dSet 3 (dXf (dIx (dVar 0) (dIx (dVar 1) (dC (.int 0))))))
    (dSeq (dSet 4 (dXf (dIx (dVar 0) (dIx (dVar 1) (dC (.int 1))))))
    (dSeq (dSet 5 (dXf (dIx (dVar 2) (dVar 1))))
    (dSeq (dSet 6 (dXf (dCall m__law_unlike (dCons (dVar 3) (dCons (dVar 4) dNil)))))
    (dSeq (dIf (dOr (dTst (dBin gNe (dVar 6) (dLst dNil))) (dTst (dBin gEq (dFn gLen (dCons (dVar 5) dNil)) (dC (.int 1))))) (dRet (dXm (dBin gEq (dVar 5) (dSlice (dVar 6) dNo (dSome (dC (.int 1))))))) dNext)
    (dSeq (dFor (dKeep (dRan (dCons (dFn gLen (dCons (dVar 3) dNil)) dNil))) (hN 7) (dSeq (dSet 8 (dXf (dGet2 (dVar 2) (dCall m__law_pair (dCons (dIx (dIx (dVar 3) (dVar 7)) (dC (.int 1))) (dCons (dIx (dIx (dVar 4) (dVar 7)) (dC (.int 1))) dNil))) (dC .non))))
    (dSeq (dIf (dAnd (dTst (dBin gIsNot (dVar 8) (dC .non))) (dTst (dBin gLt (dFn gLen (dCons (dVar 8) dNil)) (dBin gSub (dFn gLen (dCons (dVar 5) dNil)) (dC (.int 1)))))) (dRet (dXm (dC (.bl false)))) dNext)
    (dSeq (dIf (dAnd (dTst (dBin gIsNot (dVar 8) (dC .non))) (dAnd (dTst (dBin gLt (dVar 7) (dIx (dVar 5) (dC (.int 0))))) (dTst (dBin gLt (dFn gLen (dCons (dVar 8) dNil)) (dFn gLen (dCons (dVar 5) dNil)))))) (dRet (dXm (dC (.bl false)))) dNext)
    (dIf (dAnd (dTst (dBin gEq (dVar 7) (dIx (dVar 5) (dC (.int 0))))) (dTst (dBin gNe (dVar 8) (dSlice (dVar 5) (dSome (dC (.int 1))) dNo)))) (dRet (dXm (dC (.bl false)))) dNext)))))
    (dRet (dXm (dC (.bl true))))))))))
noncomputable def m__law_first : List D → Res D := dDef 9 b__law_first
noncomputable def b_later_rows : Ev → Res Out := (dSeq (dFor (dKeep (dRan (dCons (dFn gLen (dCons (dVar 0) dNil)) dNil))) (hN 3) (dSeq (dSet 4 (dXf (dFn gMin2 (dCons (dIx (dIx (dVar 0) (dVar 3)) (dC (.int 1))) (dCons (dIx (dIx (dVar 1) (dVar 3)) (dC (.int 1))) dNil)))))
    (dSeq (dSet 5 (dXf (dFn gMax2 (dCons (dIx (dIx (dVar 0) (dVar 3)) (dC (.int 1))) (dCons (dIx (dIx (dVar 1) (dVar 3)) (dC (.int 1))) dNil)))))
    (dIf (dTst (dBin gIn (dTup (dCons (dVar 4) (dCons (dVar 5) dNil))) (dVar 2))) (dRet (dXm (dBin gAdd (dLst (dCons (dVar 3) dNil)) (dIx (dVar 2) (dTup (dCons (dVar 4) (dCons (dVar 5) dNil))))))) dNext))))
    (dRet (dXm (dC .non))))
noncomputable def m_later_rows : List D → Res D := dDef 6 b_later_rows
noncomputable def b_unlike_row : Ev → Res Out := (dSeq (dFor (dKeep (dRan (dCons (dFn gLen (dCons (dVar 0) dNil)) dNil))) (hN 2) (dIf (dTst (dBin gNe (dIx (dIx (dVar 0) (dVar 2)) (dC (.int 0))) (dIx (dIx (dVar 1) (dVar 2)) (dC (.int 0))))) (dRet (dXm (dVar 2))) dNext))
    (dRet (dXm (dC .non))))
noncomputable def m_unlike_row : List D → Res D := dDef 3 b_unlike_row
noncomputable def b_parted_at_once : Ev → Res Out := (dSeq (dSet 1 (dXf dDictT))
    (dSeq (dSet 2 (dXf (dLst dNil)))
    (dSeq (dFor (dKeep (dRan (dCons (dFn gLen (dCons (dVar 0) dNil)) dNil))) (hN 3) (dFor (dKeep (dRan (dCons (dBin gAdd (dVar 3) (dC (.int 1))) (dCons (dFn gLen (dCons (dVar 0) dNil)) dNil)))) (hN 4) (dSeq (dSet 5 (dXf (dCall m_unlike_row (dCons (dIx (dVar 0) (dVar 3)) (dCons (dIx (dVar 0) (dVar 4)) dNil)))))
    (dIf (dTst (dBin gIs (dVar 5) (dC .non))) (dApp 2 (dXtup (dXcons (dXm (dVar 3)) (dXcons (dXm (dVar 4)) dXnil)))) (dPut 1 (dTup (dCons (dVar 3) (dCons (dVar 4) dNil))) (dXlst (dXcons (dXm (dVar 5)) dXnil)))))))
    (dRet (dXtup (dXcons (dXm (dVar 1)) (dXcons (dXm (dVar 2)) dXnil)))))))
noncomputable def m_parted_at_once : List D → Res D := dDef 6 b_parted_at_once
noncomputable def b_rows_of : Ev → Res Out := (dSeq (dSet 1 (dXf (dC (.int 1))))
    (dSeq (dFor (dKeep (dRan (dCons (dVar 0) dNil))) (hN 2) (dSet 1 (dXf (dBin gMul (dC (.int 2)) (dVar 1)))))
    (dRet (dXm (dVar 1)))))
noncomputable def m_rows_of : List D → Res D := dDef 3 b_rows_of
noncomputable def b_need_machine : Ev → Res Out := (dSeq (dSet 1 (dXf (dIx (dVar 0) (dC (.int 2)))))
    (dSeq (dIf (dTst (dBin gEq (dFn gLen (dCons (dVar 1) dNil)) (dC (.int 0)))) (dRaise "NoMachine") dNext)
    (dFor (dItemsS (dXf (dVar 1))) (hN 2) (dSeq (dIf (dTst (dBin gNe (dFn gLen (dCons (dVar 2) dNil)) (dCall m_rows_of (dCons (dIx (dVar 0) (dC (.int 0))) dNil)))) (dRaise "NoMachine") dNext)
    (dFor (dItemsS (dXf (dVar 2))) (hN 3) (dIf (dOr (dTst (dBin gNe (dFn gLen (dCons (dIx (dVar 3) (dC (.int 0))) dNil)) (dIx (dVar 0) (dC (.int 1))))) (dNot (dTst (dChain gLe gLt (dC (.int 0)) (dIx (dVar 3) (dC (.int 1))) (dFn gLen (dCons (dVar 1) dNil)))))) (dRaise "NoMachine") dNext))))))
noncomputable def m_need_machine : List D → Res D := dDef 4 b_need_machine
noncomputable def b_partings : Ev → Res Out := (dSeq (dDrop (dCall m_need_machine (dCons (dVar 0) dNil)))
    (dSeq (dSet 1 (dXf (dIx (dVar 0) (dC (.int 2)))))
    (dSeq (dAsg (hTup (hCons (hN 5) (hCons (hN 6) hNil))) (dXm (dCall m_parted_at_once (dCons (dVar 1) dNil))))
    (dSeq (dSet 2 (dXf (dC (.bl true))))
    (dSeq (dWhile (dTst (dVar 2)) (dSeq (dSet 7 (dXf dDictT))
    (dSeq (dFor (dItemsS (dXf (dVar 6))) (hN 4) (dSeq (dSet 8 (dXf (dCall m_later_rows (dCons (dIx (dVar 1) (dIx (dVar 4) (dC (.int 0)))) (dCons (dIx (dVar 1) (dIx (dVar 4) (dC (.int 1)))) (dCons (dVar 5) dNil))))))
    (dIf (dTst (dBin gIsNot (dVar 8) (dC .non))) (dPut 7 (dVar 4) (dXm (dVar 8))) dNext)))
    (dSeq (dUpd 5 (dXf (dVar 7)))
    (dSeq (dSetV 6 (dLc (dItems (dVar 6)) (hN 4) (dTst (dBin gNotIn (dVar 4) (dVar 7))) (dVar 4) [4]))
    (dSet 2 (dXf (dBin gGt (dFn gLen (dCons (dVar 7) dNil)) (dC (.int 0))))))))))
    (dSeq (dSet 3 (dXf dDictT))
    (dSeq (dFor (dItemsS (dXf (dFn gSorted (dCons (dFn gList (dCons (dVar 5) dNil)) dNil)))) (hN 4) (dPut 3 (dVar 4) (dXf (dIx (dVar 5) (dVar 4)))))
    (dRet (dXm (dVar 3))))))))))
noncomputable def m_partings : List D → Res D := dDef 9 b_partings
noncomputable def b__law_rows_of : Ev → Res Out := (dRet (dXf (dIx (dLst (dCons (dC (.int 1)) (dCons (dC (.int 2)) (dCons (dC (.int 4)) (dCons (dC (.int 8)) dNil))))) (dVar 0))))
noncomputable def m__law_rows_of : List D → Res D := dDef 1 b__law_rows_of
noncomputable def b__law_mixed : Ev → Res Out := (dSeq (dSet 2 (dXf (dBin gMod (dBin gMul (dBin gAdd (dVar 0) (dBin gMul (dC (.int 7919)) (dVar 1))) (dC (.int 48271))) (dC (.int 2147483647)))))
    (dRet (dXm (dBin gMod (dBin gAdd (dBin gAdd (dBin gMul (dVar 2) (dVar 2)) (dBin gMul (dC (.int 7)) (dVar 2))) (dVar 1)) (dC (.int 2147483629))))))
noncomputable def m__law_mixed : List D → Res D := dDef 3 b__law_mixed
noncomputable def b__law_row : Ev → Res Out := (dSeq (dSet 2 (dXf (dLst dNil)))
    (dSeq (dFor (dKeep (dRan (dCons (dVar 1) dNil))) (hN 3) (dSeq (dApp 2 (dXm (dBin gEq (dBin gMod (dVar 0) (dC (.int 2))) (dC (.int 1)))))
    (dSet 0 (dXf (dBin gDiv (dVar 0) (dC (.int 2)))))))
    (dSeq (dMut0 List.reverse (dVar 2))
    (dRet (dXm (dFn gTuple (dCons (dVar 2) dNil)))))))
noncomputable def m__law_row : List D → Res D := dDef 4 b__law_row
noncomputable def b__law_cell_at : Ev → Res Out := (dSeq (dIf (dTst (dBin gLt (dVar 1) (dFn gLen (dCons (dVar 0) dNil)))) (dRet (dXf (dIx (dVar 0) (dVar 1)))) dNext)
    (dRet (dXm (dC (.int 0)))))
noncomputable def m__law_cell_at : List D → Res D := dDef 2 b__law_cell_at
noncomputable def b__law_machine : Ev → Res Out := (dSeq (dSet 2 (dXf (dCall m__law_cell_at (dCons (dVar 0) (dCons (dVar 1) dNil)))))
    (dSeq (dSet 3 (dXf (dCall m__law_cell_at (dCons (dVar 0) (dCons (dBin gAdd (dVar 1) (dC (.int 1))) dNil)))))
    (dSeq (dSet 4 (dXf (dBin gMod (dVar 2) (dC (.int 4)))))
    (dSeq (dSet 5 (dXf (dIx (dLst (dCons (dC (.int 1)) (dCons (dC (.int 2)) (dCons (dC (.int 1)) (dCons (dC (.int 0)) (dCons (dC (.int 3)) (dCons (dBin gAdd (dC (.int 4)) (dBin gMod (dBin gDiv (dVar 3) (dC (.int 24))) (dC (.int 9)))) (dCons (dC (.int 2)) (dCons (dC (.int 1)) dNil))))))))) (dBin gMod (dBin gDiv (dVar 3) (dC (.int 3))) (dC (.int 8))))))
    (dSeq (dSet 6 (dXf (dBin gAdd (dC (.int 1)) (dBin gMod (dBin gDiv (dVar 2) (dC (.int 4))) (dC (.int 11))))))
    (dSeq (dIf (dOr (dTst (dBin gEq (dVar 6) (dC (.int 9)))) (dTst (dBin gEq (dVar 6) (dC (.int 10))))) (dSeq (dSet 6 (dXf (dBin gAdd (dC (.int 8)) (dBin gMod (dBin gDiv (dVar 2) (dC (.int 44))) (dC (.int 5))))))
    (dSet 4 (dXf (dFn gMin2 (dCons (dVar 4) (dCons (dIx (dLst (dCons (dC (.int 3)) (dCons (dC (.int 2)) dNil))) (dFn gInt (dCons (dBin gGt (dVar 6) (dC (.int 9))) dNil))) dNil)))))) dNext)
    (dSeq (dIf (dTst (dBin gEq (dVar 6) (dC (.int 11)))) (dSeq (dSet 6 (dXf (dBin gAdd (dC (.int 12)) (dBin gMod (dBin gDiv (dVar 2) (dC (.int 44))) (dC (.int 9))))))
    (dSet 4 (dXf (dBin gMod (dVar 4) (dC (.int 2)))))) dNext)
    (dSeq (dSet 7 (dXf (dBin gSub (dVar 6) (dBin gMod (dBin gDiv (dVar 3) (dC (.int 24))) (dVar 6)))))
    (dSeq (dSet 8 (dXf (dLst dNil)))
    (dSeq (dFor (dKeep (dRan (dCons (dVar 6) dNil))) (hN 9) (dSeq (dSet 10 (dXf (dLst dNil)))
    (dSeq (dFor (dKeep (dRan (dCons (dCall m__law_rows_of (dCons (dVar 4) dNil)) dNil))) (hN 11) (dSeq (dSet 12 (dXf (dCall m__law_mixed (dCons (dCall m__law_cell_at (dCons (dVar 0) (dCons (dBin gAdd (dBin gAdd (dVar 1) (dC (.int 2))) (dBin gMod (dBin gMod (dVar 9) (dVar 7)) (dC (.int 6)))) dNil))) (dCons (dBin gAdd (dBin gMul (dC (.int 8)) (dBin gMod (dVar 9) (dVar 7))) (dVar 11)) dNil)))))
    (dSeq (dSet 13 (dXf (dBin gMul (dLst (dCons (dC (.bl false)) dNil)) (dVar 5))))
    (dSeq (dIf (dTst (dBin gEq (dBin gMod (dVar 12) (dC (.int 4))) (dC (.int 0)))) (dSet 13 (dXf (dFn gList (dCons (dCall m__law_row (dCons (dBin gDiv (dVar 12) (dC (.int 4))) (dCons (dVar 5) dNil))) dNil)))) dNext)
    (dSeq (dSet 14 (dXf (dBin gMod (dBin gDiv (dVar 12) (dC (.int 64))) (dVar 7))))
    (dSeq (dIf (dTst (dBin gEq (dBin gMod (dVar 3) (dC (.int 3))) (dC (.int 1)))) (dSeq (dSet 13 (dXf (dBin gMul (dLst (dCons (dBin gEq (dBin gMod (dVar 9) (dVar 7)) (dBin gSub (dVar 7) (dC (.int 1)))) dNil)) (dVar 5))))
    (dSet 14 (dXf (dIx (dLst (dCons (dFn gMin2 (dCons (dBin gAdd (dBin gMod (dVar 9) (dVar 7)) (dC (.int 1))) (dCons (dBin gSub (dVar 7) (dC (.int 1))) dNil))) (dCons (dC (.int 0)) dNil))) (dFn gMin2 (dCons (dVar 11) (dCons (dC (.int 1)) dNil))))))) dNext)
    (dSeq (dSet 15 (dXf (dBin gMod (dCall m__law_mixed (dCons (dBin gAdd (dVar 3) (dVar 9)) (dCons (dVar 11) dNil))) (dBin gAdd (dBin gDiv (dBin gSub (dBin gSub (dVar 6) (dC (.int 1))) (dVar 14)) (dVar 7)) (dC (.int 1))))))
    (dApp 10 (dXtup (dXcons (dXm (dFn gTuple (dCons (dVar 13) dNil))) (dXcons (dXm (dBin gAdd (dVar 14) (dBin gMul (dVar 7) (dVar 15)))) dXnil)))))))))))
    (dApp 8 (dXm (dVar 10))))))
    (dRet (dXtup (dXcons (dXm (dVar 4)) (dXcons (dXm (dVar 5)) (dXcons (dXm (dVar 8)) dXnil)))))))))))))))
noncomputable def m__law_machine : List D → Res D := dDef 16 b__law_machine
noncomputable def b_law : Ev → Res Out := (dSeq (dSet 1 (dXf (dCall m__law_machine (dCons (dVar 0) (dCons (dC (.int 0)) dNil)))))
    (dSeq (dSet 2 (dXcall m_partings (dXcons (dXf (dVar 1)) dXnil)))
    (dSeq (dForD 2 (hN 3) (dIf (dNot (dTst (dCall m__law_first (dCons (dIx (dVar 1) (dC (.int 2))) (dCons (dVar 3) (dCons (dVar 2) dNil)))))) (dRet (dXm (dC (.bl false)))) dNext))
    (dRet (dXm (dC (.bl true)))))))
noncomputable def m_law : List D → Res D := dDef 4 b_law
end Dl
set_option Elab.async false
set_option linter.all false
set_option maxRecDepth 100000
set_option maxHeartbeats 4000000
namespace Dl
open PySem PySem.Spec PyProof.Rows L2
def topS (i : Nat) : Stmt := PySem.Challenge.pw_circuits_k50_partings_first.main.body.getD i (.Pass ⟨0, 0, 0, 0⟩)
structure Bi (mg : Str → Option Value) : Prop where
  int : mg "int" = none
  len : mg "len" = none
  list : mg "list" = none
  max : mg "max" = none
  min : mg "min" = none
  range : mg "range" = none
  sorted : mg "sorted" = none
  tuple : mg "tuple" = none
abbrev s__law_pair : Stmt := topS 17
theorem sc__law_pair : FnScope ["_law_low", "_law_high"] ["_law_low", "_law_high"] (defScope s__law_pair) := ⟨rfl, rfl, rfl, by decide +kernel, rfl, by decide +kernel, by decide +kernel⟩
theorem ok__law_pair {P : Program} {w : World} {K : PySem.W.Frag} {mg : Str → Option Value} {base : Heap} {f : Addr} {fd : FuncData} (bi : Bi mg) (F : FunD K "_law_pair" "_law_pair" (defArgs s__law_pair) (defBody s__law_pair) (defScope s__law_pair) [] [] f fd) (hm : mg "_law_pair" = some (.ref f)) : FP P w K mg base 1 "_law_pair" 2 m__law_pair := by
  refine fp_of (g := b__law_pair) F hm sc__law_pair rfl rfl (fun _ _ _ _ _ _ us hl => match us, hl with | [_, _], _ => rfl) fun cdv A outer s H E hr => ?_
  have hu : (A.deeper (envOfC "_law_pair" (defScope s__law_pair) s.heap.objs.size f cdv)).units + 65 < cLine := by have := hr.un; omega
  have hu64 : (A.deeper (envOfC "_law_pair" (defScope s__law_pair) s.heap.objs.size f cdv)).units + 64 < cLine := by omega
  have hu1 : (A.deeper (envOfC "_law_pair" (defScope s__law_pair) s.heap.objs.size f cdv)).units + 1 < cLine := by omega
  have po : PassesOwn (model P w) (A.deeper (envOfC "_law_pair" (defScope s__law_pair) s.heap.objs.size f cdv)) (envOfC "_law_pair" (defScope s__law_pair) s.heap.objs.size f cdv) (cxOf (L2.CX P w) P w K mg base ["_law_low", "_law_high"] "_law_pair" (defScope s__law_pair) f cdv A outer s H E).xe := passes_of rfl
  exact (db_one (ds_ret (dx_tup (dxl_cons (dx_m (de_callB (rule_min2 rfl) (by rfl) bi.min PyProof.Rows.boot_min (da_cons (de_var (pv 0)) (da_cons (de_var (pv 1)) da_nil)))) (dxl_cons (dx_m (de_callB (rule_max2 rfl) (by rfl) bi.max PyProof.Rows.boot_max (da_cons (de_var (pv 0)) (da_cons (de_var (pv 1)) da_nil)))) dxl_nil)))))
abbrev s__law_unlike : Stmt := topS 18
theorem sc__law_unlike : FnScope ["_law_one", "_law_other", "_law_number"] ["_law_one", "_law_other"] (defScope s__law_unlike) := ⟨rfl, rfl, rfl, by decide +kernel, rfl, by decide +kernel, by decide +kernel⟩
theorem ok__law_unlike {P : Program} {w : World} {K : PySem.W.Frag} {mg : Str → Option Value} {base : Heap} {f : Addr} {fd : FuncData} (bi : Bi mg) (F : FunD K "_law_unlike" "_law_unlike" (defArgs s__law_unlike) (defBody s__law_unlike) (defScope s__law_unlike) [] [] f fd) (hm : mg "_law_unlike" = some (.ref f)) : FP P w K mg base 1 "_law_unlike" 2 m__law_unlike := by
  refine fp_of (g := b__law_unlike) F hm sc__law_unlike rfl rfl (fun _ _ _ _ _ _ us hl => match us, hl with | [_, _], _ => rfl) fun cdv A outer s H E hr => ?_
  have hu : (A.deeper (envOfC "_law_unlike" (defScope s__law_unlike) s.heap.objs.size f cdv)).units + 65 < cLine := by have := hr.un; omega
  have hu64 : (A.deeper (envOfC "_law_unlike" (defScope s__law_unlike) s.heap.objs.size f cdv)).units + 64 < cLine := by omega
  have hu1 : (A.deeper (envOfC "_law_unlike" (defScope s__law_unlike) s.heap.objs.size f cdv)).units + 1 < cLine := by omega
  have po : PassesOwn (model P w) (A.deeper (envOfC "_law_unlike" (defScope s__law_unlike) s.heap.objs.size f cdv)) (envOfC "_law_unlike" (defScope s__law_unlike) s.heap.objs.size f cdv) (cxOf (L2.CX P w) P w K mg base ["_law_one", "_law_other", "_law_number"] "_law_unlike" (defScope s__law_unlike) f cdv A outer s H E).xe := passes_of rfl
  exact (db_one (ds_ret (dx_m (de_lc (E' := noE) (own := [("_law_number", 2)]) rfl sc__law_unlike.nd (DIr.p (dir_range1 (by rfl) bi.range (da_cons (de_callB (rule_len) (by rfl) bi.len PySem.boot_len (da_cons (de_var (pv 0)) da_nil)) da_nil))) (blkOk_by (N := ["_law_one", "_law_other", "_law_number"]) (own := [("_law_number", 2)]) (sc := defScope s__law_unlike) (by decide +kernel)) (by decide) (fun _ _ _ _ _ => (dg_name (i := 2) sc__law_unlike.nd rfl (.inl rfl))) (fun _ _ _ _ _ => (dts_one (dt_cmp (rule_ne hu64) (de_ix hu1 (de_ix hu1 (de_var (pv 0)) (de_var (pv 2)) (fun _ _ => rfl)) de_int (fun _ _ => rfl)) (de_ix hu1 (de_ix hu1 (de_var (pv 1)) (de_var (pv 2)) (fun _ _ => rfl)) de_int (fun _ _ => rfl)) (nomark _)))) (fun _ _ _ _ _ => (de_var (pv 2)))))))
abbrev s__law_first : Stmt := topS 19
theorem sc__law_first : FnScope ["_law_states", "_law_pair_here", "_law_found", "_law_one", "_law_other", "_law_rows", "_law_unlike_here", "_law_number", "_law_later"] ["_law_states", "_law_pair_here", "_law_found"] (defScope s__law_first) := ⟨rfl, rfl, rfl, by decide +kernel, rfl, by decide +kernel, by decide +kernel⟩
theorem ok__law_first {P : Program} {w : World} {K : PySem.W.Frag} {mg : Str → Option Value} {base : Heap} {f : Addr} {fd : FuncData} (bi : Bi mg) (F : FunD K "_law_first" "_law_first" (defArgs s__law_first) (defBody s__law_first) (defScope s__law_first) [] [] f fd) (hm : mg "_law_first" = some (.ref f)) (c__law_pair : FP P w K mg base 1 "_law_pair" 2 m__law_pair) (c__law_unlike : FP P w K mg base 1 "_law_unlike" 2 m__law_unlike) : FP P w K mg base 2 "_law_first" 3 m__law_first := by
  refine fp_of (g := b__law_first) F hm sc__law_first rfl rfl (fun _ _ _ _ _ _ us hl => match us, hl with | [_, _, _], _ => rfl) fun cdv A outer s H E hr => ?_
  have hu : (A.deeper (envOfC "_law_first" (defScope s__law_first) s.heap.objs.size f cdv)).units + 65 < cLine := by have := hr.un; omega
  have hu64 : (A.deeper (envOfC "_law_first" (defScope s__law_first) s.heap.objs.size f cdv)).units + 64 < cLine := by omega
  have hu1 : (A.deeper (envOfC "_law_first" (defScope s__law_first) s.heap.objs.size f cdv)).units + 1 < cLine := by omega
  have po : PassesOwn (model P w) (A.deeper (envOfC "_law_first" (defScope s__law_first) s.heap.objs.size f cdv)) (envOfC "_law_first" (defScope s__law_first) s.heap.objs.size f cdv) (cxOf (L2.CX P w) P w K mg base ["_law_states", "_law_pair_here", "_law_found", "_law_one", "_law_other", "_law_rows", "_law_unlike_here", "_law_number", "_law_later"] "_law_first" (defScope s__law_first) f cdv A outer s H E).xe := passes_of rfl
  have tk : Takes (cxOf (L2.CX P w) P w K mg base ["_law_states", "_law_pair_here", "_law_found", "_law_one", "_law_other", "_law_rows", "_law_unlike_here", "_law_number", "_law_later"] "_law_first" (defScope s__law_first) f cdv A outer s H E) (fun cls d _ H => E cls d H) := takes_of rfl rfl rfl rfl
  have px := passes_call tk (E := E) (fun _ _ _ _ h => h)
  exact (db_cons (ds_set (i := 3) sc__law_first.nd rfl (.inl rfl) (dx_f (de_ix hu1 (de_var (pv 0)) (de_ix hu1 (de_var (pv 1)) de_int (fun _ _ => rfl)) (fun _ _ => rfl))))
    (db_cons (ds_set (i := 4) sc__law_first.nd rfl (.inl rfl) (dx_f (de_ix hu1 (de_var (pv 0)) (de_ix hu1 (de_var (pv 1)) de_int (fun _ _ => rfl)) (fun _ _ => rfl))))
    (db_cons (ds_set (i := 5) sc__law_first.nd rfl (.inl rfl) (dx_f (de_ix hu1 (de_var (pv 2)) (de_var (pv 1)) (fun _ _ => rfl))))
    (db_cons (ds_set (i := 6) sc__law_first.nd rfl (.inl rfl) (dx_f (de_call c__law_unlike hr (by decide) px (da_cons (de_var (pv 3)) (da_cons (de_var (pv 4)) da_nil)) rfl (by rfl))))
    (db_cons (ds_if (DW.dt (dw_or (dt_cmp (rule_ne hu64) (de_var (pv 6)) (de_lst da_nil) (nomark _)) (dw_or1 (dt_cmp (rule_eq hu64) (de_callB (rule_len) (by rfl) bi.len PySem.boot_len (da_cons (de_var (pv 5)) da_nil)) de_int (nomark _))))) (db_one (ds_ret (dx_m (de_cmp (rule_eq hu64) (de_var (pv 5)) (de_slice (de_var (pv 6)) do_none (do_some de_int)) (nomark _))))) db_nil)
    (db_cons (ds_for po rfl (DIr.s (dir_range1 (by rfl) bi.range (da_cons (de_callB (rule_len) (by rfl) bi.len PySem.boot_len (da_cons (de_var (pv 3)) da_nil)) da_nil))) (dg_name (i := 7) sc__law_first.nd rfl (.inl rfl)) (db_cons (ds_set (i := 8) sc__law_first.nd rfl (.inl rfl) (dx_f (de_get2 hu1 (de_var (pv 2)) (de_call c__law_pair hr (by decide) px (da_cons (de_ix hu1 (de_ix hu1 (de_var (pv 3)) (de_var (pv 7)) (fun _ _ => rfl)) de_int (fun _ _ => rfl)) (da_cons (de_ix hu1 (de_ix hu1 (de_var (pv 4)) (de_var (pv 7)) (fun _ _ => rfl)) de_int (fun _ _ => rfl)) da_nil)) rfl (by rfl)) de_non ⟨rfl, rfl, rfl, rfl⟩)))
    (db_cons (ds_if (DW.dt (dw_and (dt_cmp (rule_isnot) (de_var (pv 8)) de_non (nomark _)) (dw_and1 (dt_cmp (rule_lt) (de_callB (rule_len) (by rfl) bi.len PySem.boot_len (da_cons (de_var (pv 8)) da_nil)) (de_bin rule_sub (de_callB (rule_len) (by rfl) bi.len PySem.boot_len (da_cons (de_var (pv 5)) da_nil)) de_int) (nomark _))))) (db_one (ds_ret (dx_m de_bl))) db_nil)
    (db_cons (ds_if (DW.dt (dw_and (dt_cmp (rule_isnot) (de_var (pv 8)) de_non (nomark _)) (dw_and (dt_cmp (rule_lt) (de_var (pv 7)) (de_ix hu1 (de_var (pv 5)) de_int (fun _ _ => rfl)) (nomark _)) (dw_and1 (dt_cmp (rule_lt) (de_callB (rule_len) (by rfl) bi.len PySem.boot_len (da_cons (de_var (pv 8)) da_nil)) (de_callB (rule_len) (by rfl) bi.len PySem.boot_len (da_cons (de_var (pv 5)) da_nil)) (nomark _)))))) (db_one (ds_ret (dx_m de_bl))) db_nil)
    (db_one (ds_if (DW.dt (dw_and (dt_cmp (rule_eq hu64) (de_var (pv 7)) (de_ix hu1 (de_var (pv 5)) de_int (fun _ _ => rfl)) (nomark _)) (dw_and1 (dt_cmp (rule_ne hu64) (de_var (pv 8)) (de_slice (de_var (pv 5)) (do_some de_int) do_none) (nomark _))))) (db_one (ds_ret (dx_m de_bl))) db_nil))))))
    (db_one (ds_ret (dx_m de_bl)))))))))
abbrev s_later_rows : Stmt := topS 8
theorem sc_later_rows : FnScope ["one", "other", "found", "number", "low", "high"] ["one", "other", "found"] (defScope s_later_rows) := ⟨rfl, rfl, rfl, by decide +kernel, rfl, by decide +kernel, by decide +kernel⟩
theorem ok_later_rows {P : Program} {w : World} {K : PySem.W.Frag} {mg : Str → Option Value} {base : Heap} {f : Addr} {fd : FuncData} (bi : Bi mg) (F : FunD K "later_rows" "later_rows" (defArgs s_later_rows) (defBody s_later_rows) (defScope s_later_rows) [] [] f fd) (hm : mg "later_rows" = some (.ref f)) : FP P w K mg base 1 "later_rows" 3 m_later_rows := by
  refine fp_of (g := b_later_rows) F hm sc_later_rows rfl rfl (fun _ _ _ _ _ _ us hl => match us, hl with | [_, _, _], _ => rfl) fun cdv A outer s H E hr => ?_
  have hu : (A.deeper (envOfC "later_rows" (defScope s_later_rows) s.heap.objs.size f cdv)).units + 65 < cLine := by have := hr.un; omega
  have hu64 : (A.deeper (envOfC "later_rows" (defScope s_later_rows) s.heap.objs.size f cdv)).units + 64 < cLine := by omega
  have hu1 : (A.deeper (envOfC "later_rows" (defScope s_later_rows) s.heap.objs.size f cdv)).units + 1 < cLine := by omega
  have po : PassesOwn (model P w) (A.deeper (envOfC "later_rows" (defScope s_later_rows) s.heap.objs.size f cdv)) (envOfC "later_rows" (defScope s_later_rows) s.heap.objs.size f cdv) (cxOf (L2.CX P w) P w K mg base ["one", "other", "found", "number", "low", "high"] "later_rows" (defScope s_later_rows) f cdv A outer s H E).xe := passes_of rfl
  exact (db_cons (ds_for po rfl (DIr.s (dir_range1 (by rfl) bi.range (da_cons (de_callB (rule_len) (by rfl) bi.len PySem.boot_len (da_cons (de_var (pv 0)) da_nil)) da_nil))) (dg_name (i := 3) sc_later_rows.nd rfl (.inl rfl)) (db_cons (ds_set (i := 4) sc_later_rows.nd rfl (.inl rfl) (dx_f (de_callB (rule_min2 rfl) (by rfl) bi.min PyProof.Rows.boot_min (da_cons (de_ix hu1 (de_ix hu1 (de_var (pv 0)) (de_var (pv 3)) (fun _ _ => rfl)) de_int (fun _ _ => rfl)) (da_cons (de_ix hu1 (de_ix hu1 (de_var (pv 1)) (de_var (pv 3)) (fun _ _ => rfl)) de_int (fun _ _ => rfl)) da_nil)))))
    (db_cons (ds_set (i := 5) sc_later_rows.nd rfl (.inl rfl) (dx_f (de_callB (rule_max2 rfl) (by rfl) bi.max PyProof.Rows.boot_max (da_cons (de_ix hu1 (de_ix hu1 (de_var (pv 0)) (de_var (pv 3)) (fun _ _ => rfl)) de_int (fun _ _ => rfl)) (da_cons (de_ix hu1 (de_ix hu1 (de_var (pv 1)) (de_var (pv 3)) (fun _ _ => rfl)) de_int (fun _ _ => rfl)) da_nil)))))
    (db_one (ds_if (dt_cmp (rule_in hu) (de_tup (da_cons (de_var (pv 4)) (da_cons (de_var (pv 5)) da_nil))) (de_var (pv 2)) (by rfl)) (db_one (ds_ret (dx_m (de_bin rule_add (de_lst (da_cons (de_var (pv 3)) da_nil)) (de_ix hu1 (de_var (pv 2)) (de_tup (da_cons (de_var (pv 4)) (da_cons (de_var (pv 5)) da_nil))) (fun _ _ => rfl)))))) db_nil)))))
    (db_one (ds_ret (dx_m de_non))))
abbrev s_unlike_row : Stmt := topS 7
theorem sc_unlike_row : FnScope ["one", "other", "number"] ["one", "other"] (defScope s_unlike_row) := ⟨rfl, rfl, rfl, by decide +kernel, rfl, by decide +kernel, by decide +kernel⟩
theorem ok_unlike_row {P : Program} {w : World} {K : PySem.W.Frag} {mg : Str → Option Value} {base : Heap} {f : Addr} {fd : FuncData} (bi : Bi mg) (F : FunD K "unlike_row" "unlike_row" (defArgs s_unlike_row) (defBody s_unlike_row) (defScope s_unlike_row) [] [] f fd) (hm : mg "unlike_row" = some (.ref f)) : FP P w K mg base 1 "unlike_row" 2 m_unlike_row := by
  refine fp_of (g := b_unlike_row) F hm sc_unlike_row rfl rfl (fun _ _ _ _ _ _ us hl => match us, hl with | [_, _], _ => rfl) fun cdv A outer s H E hr => ?_
  have hu : (A.deeper (envOfC "unlike_row" (defScope s_unlike_row) s.heap.objs.size f cdv)).units + 65 < cLine := by have := hr.un; omega
  have hu64 : (A.deeper (envOfC "unlike_row" (defScope s_unlike_row) s.heap.objs.size f cdv)).units + 64 < cLine := by omega
  have hu1 : (A.deeper (envOfC "unlike_row" (defScope s_unlike_row) s.heap.objs.size f cdv)).units + 1 < cLine := by omega
  have po : PassesOwn (model P w) (A.deeper (envOfC "unlike_row" (defScope s_unlike_row) s.heap.objs.size f cdv)) (envOfC "unlike_row" (defScope s_unlike_row) s.heap.objs.size f cdv) (cxOf (L2.CX P w) P w K mg base ["one", "other", "number"] "unlike_row" (defScope s_unlike_row) f cdv A outer s H E).xe := passes_of rfl
  exact (db_cons (ds_for po rfl (DIr.s (dir_range1 (by rfl) bi.range (da_cons (de_callB (rule_len) (by rfl) bi.len PySem.boot_len (da_cons (de_var (pv 0)) da_nil)) da_nil))) (dg_name (i := 2) sc_unlike_row.nd rfl (.inl rfl)) (db_one (ds_if (dt_cmp (rule_ne hu64) (de_ix hu1 (de_ix hu1 (de_var (pv 0)) (de_var (pv 2)) (fun _ _ => rfl)) de_int (fun _ _ => rfl)) (de_ix hu1 (de_ix hu1 (de_var (pv 1)) (de_var (pv 2)) (fun _ _ => rfl)) de_int (fun _ _ => rfl)) (nomark _)) (db_one (ds_ret (dx_m (de_var (pv 2))))) db_nil)))
    (db_one (ds_ret (dx_m de_non))))
abbrev s_parted_at_once : Stmt := topS 9
theorem sc_parted_at_once : FnScope ["states", "found", "left", "low", "high", "number"] ["states"] (defScope s_parted_at_once) := ⟨rfl, rfl, rfl, by decide +kernel, rfl, by decide +kernel, by decide +kernel⟩
theorem ok_parted_at_once {P : Program} {w : World} {K : PySem.W.Frag} {mg : Str → Option Value} {base : Heap} {f : Addr} {fd : FuncData} (bi : Bi mg) (F : FunD K "parted_at_once" "parted_at_once" (defArgs s_parted_at_once) (defBody s_parted_at_once) (defScope s_parted_at_once) [] [] f fd) (hm : mg "parted_at_once" = some (.ref f)) (c_unlike_row : FP P w K mg base 1 "unlike_row" 2 m_unlike_row) : FP P w K mg base 2 "parted_at_once" 1 m_parted_at_once := by
  refine fp_of (g := b_parted_at_once) F hm sc_parted_at_once rfl rfl (fun _ _ _ _ _ _ us hl => match us, hl with | [_], _ => rfl) fun cdv A outer s H E hr => ?_
  have hu : (A.deeper (envOfC "parted_at_once" (defScope s_parted_at_once) s.heap.objs.size f cdv)).units + 65 < cLine := by have := hr.un; omega
  have hu64 : (A.deeper (envOfC "parted_at_once" (defScope s_parted_at_once) s.heap.objs.size f cdv)).units + 64 < cLine := by omega
  have hu1 : (A.deeper (envOfC "parted_at_once" (defScope s_parted_at_once) s.heap.objs.size f cdv)).units + 1 < cLine := by omega
  have po : PassesOwn (model P w) (A.deeper (envOfC "parted_at_once" (defScope s_parted_at_once) s.heap.objs.size f cdv)) (envOfC "parted_at_once" (defScope s_parted_at_once) s.heap.objs.size f cdv) (cxOf (L2.CX P w) P w K mg base ["states", "found", "left", "low", "high", "number"] "parted_at_once" (defScope s_parted_at_once) f cdv A outer s H E).xe := passes_of rfl
  have tk : Takes (cxOf (L2.CX P w) P w K mg base ["states", "found", "left", "low", "high", "number"] "parted_at_once" (defScope s_parted_at_once) f cdv A outer s H E) (fun cls d _ H => E cls d H) := takes_of rfl rfl rfl rfl
  have px := passes_call tk (E := E) (fun _ _ _ _ h => h)
  exact (db_cons (ds_set (i := 1) sc_parted_at_once.nd rfl (.inl rfl) (dx_f de_dictT))
    (db_cons (ds_set (i := 2) sc_parted_at_once.nd rfl (.inl rfl) (dx_f (de_lst da_nil)))
    (db_cons (ds_for po rfl (DIr.s (dir_range1 (by rfl) bi.range (da_cons (de_callB (rule_len) (by rfl) bi.len PySem.boot_len (da_cons (de_var (pv 0)) da_nil)) da_nil))) (dg_name (i := 3) sc_parted_at_once.nd rfl (.inl rfl)) (db_one (ds_for po rfl (DIr.s (dir_range2 (by rfl) bi.range (da_cons (de_bin rule_add (de_var (pv 3)) de_int) (da_cons (de_callB (rule_len) (by rfl) bi.len PySem.boot_len (da_cons (de_var (pv 0)) da_nil)) da_nil)))) (dg_name (i := 4) sc_parted_at_once.nd rfl (.inl rfl)) (db_cons (ds_set (i := 5) sc_parted_at_once.nd rfl (.inl rfl) (dx_f (de_call c_unlike_row hr (by decide) px (da_cons (de_ix hu1 (de_var (pv 0)) (de_var (pv 3)) (fun _ _ => rfl)) (da_cons (de_ix hu1 (de_var (pv 0)) (de_var (pv 4)) (fun _ _ => rfl)) da_nil)) rfl (by rfl))))
    (db_one (ds_if (dt_cmp (rule_is) (de_var (pv 5)) de_non (nomark _)) (db_one (ds_app (pv 2) (dx_tup (dxl_cons (dx_m (de_var (pv 3))) (dxl_cons (dx_m (de_var (pv 4))) dxl_nil))))) (db_one (ds_put hu1 (pv 1) (de_tup (da_cons (de_var (pv 3)) (da_cons (de_var (pv 4)) da_nil))) (dx_lst (dxl_cons (dx_m (de_var (pv 5))) dxl_nil))))))))))
    (db_one (ds_ret (dx_tup (dxl_cons (dx_m (de_var (pv 1))) (dxl_cons (dx_m (de_var (pv 2))) dxl_nil))))))))
abbrev s_rows_of : Stmt := topS 4
theorem sc_rows_of : FnScope ["many", "found", "place"] ["many"] (defScope s_rows_of) := ⟨rfl, rfl, rfl, by decide +kernel, rfl, by decide +kernel, by decide +kernel⟩
theorem ok_rows_of {P : Program} {w : World} {K : PySem.W.Frag} {mg : Str → Option Value} {base : Heap} {f : Addr} {fd : FuncData} (bi : Bi mg) (F : FunD K "rows_of" "rows_of" (defArgs s_rows_of) (defBody s_rows_of) (defScope s_rows_of) [] [] f fd) (hm : mg "rows_of" = some (.ref f)) : FP P w K mg base 1 "rows_of" 1 m_rows_of := by
  refine fp_of (g := b_rows_of) F hm sc_rows_of rfl rfl (fun _ _ _ _ _ _ us hl => match us, hl with | [_], _ => rfl) fun cdv A outer s H E hr => ?_
  have hu : (A.deeper (envOfC "rows_of" (defScope s_rows_of) s.heap.objs.size f cdv)).units + 65 < cLine := by have := hr.un; omega
  have hu64 : (A.deeper (envOfC "rows_of" (defScope s_rows_of) s.heap.objs.size f cdv)).units + 64 < cLine := by omega
  have hu1 : (A.deeper (envOfC "rows_of" (defScope s_rows_of) s.heap.objs.size f cdv)).units + 1 < cLine := by omega
  have po : PassesOwn (model P w) (A.deeper (envOfC "rows_of" (defScope s_rows_of) s.heap.objs.size f cdv)) (envOfC "rows_of" (defScope s_rows_of) s.heap.objs.size f cdv) (cxOf (L2.CX P w) P w K mg base ["many", "found", "place"] "rows_of" (defScope s_rows_of) f cdv A outer s H E).xe := passes_of rfl
  exact (db_cons (ds_set (i := 1) sc_rows_of.nd rfl (.inl rfl) (dx_f de_int))
    (db_cons (ds_for po rfl (DIr.s (dir_range1 (by rfl) bi.range (da_cons (de_var (pv 0)) da_nil))) (dg_name (i := 2) sc_rows_of.nd rfl (.inl rfl)) (db_one (ds_set (i := 1) sc_rows_of.nd rfl (.inl rfl) (dx_f (de_bin rule_mul de_int (de_var (pv 1)))))))
    (db_one (ds_ret (dx_m (de_var (pv 1)))))))
abbrev s_need_machine : Stmt := topS 5
theorem sc_need_machine : FnScope ["machine", "states", "state", "pair"] ["machine"] (defScope s_need_machine) := ⟨rfl, rfl, rfl, by decide +kernel, rfl, by decide +kernel, by decide +kernel⟩
theorem ok_need_machine {P : Program} {w : World} {K : PySem.W.Frag} {mg : Str → Option Value} {base : Heap} {f : Addr} {fd : FuncData} (bi : Bi mg) (F : FunD K "need_machine" "need_machine" (defArgs s_need_machine) (defBody s_need_machine) (defScope s_need_machine) [] [] f fd) (hm : mg "need_machine" = some (.ref f)) (c_rows_of : FP P w K mg base 1 "rows_of" 1 m_rows_of) (x_NoMachine : ExcD K mg (Str.ofString "NoMachine")) : FP P w K mg base 2 "need_machine" 1 m_need_machine := by
  refine fp_of (g := b_need_machine) F hm sc_need_machine rfl rfl (fun _ _ _ _ _ _ us hl => match us, hl with | [_], _ => rfl) fun cdv A outer s H E hr => ?_
  have hu : (A.deeper (envOfC "need_machine" (defScope s_need_machine) s.heap.objs.size f cdv)).units + 65 < cLine := by have := hr.un; omega
  have hu64 : (A.deeper (envOfC "need_machine" (defScope s_need_machine) s.heap.objs.size f cdv)).units + 64 < cLine := by omega
  have hu1 : (A.deeper (envOfC "need_machine" (defScope s_need_machine) s.heap.objs.size f cdv)).units + 1 < cLine := by omega
  have po : PassesOwn (model P w) (A.deeper (envOfC "need_machine" (defScope s_need_machine) s.heap.objs.size f cdv)) (envOfC "need_machine" (defScope s_need_machine) s.heap.objs.size f cdv) (cxOf (L2.CX P w) P w K mg base ["machine", "states", "state", "pair"] "need_machine" (defScope s_need_machine) f cdv A outer s H E).xe := passes_of rfl
  have tk : Takes (cxOf (L2.CX P w) P w K mg base ["machine", "states", "state", "pair"] "need_machine" (defScope s_need_machine) f cdv A outer s H E) (fun cls d _ H => E cls d H) := takes_of rfl rfl rfl rfl
  have px := passes_call tk (E := E) (fun _ _ _ _ h => h)
  exact (db_cons (ds_set (i := 1) sc_need_machine.nd rfl (.inl rfl) (dx_f (de_ix hu1 (de_var (pv 0)) de_int (fun _ _ => rfl))))
    (db_cons (ds_if (dt_cmp (rule_eq hu64) (de_callB (rule_len) (by rfl) bi.len PySem.boot_len (da_cons (de_var (pv 1)) da_nil)) de_int (nomark _)) (db_one (ds_raise (c := "NoMachine") rfl tk x_NoMachine (by rfl))) db_nil)
    (db_one (ds_for po rfl (dis_any (dx_f (de_var (pv 1)))) (dg_name (i := 2) sc_need_machine.nd rfl (.inl rfl)) (db_cons (ds_if (dt_cmp (rule_ne hu64) (de_callB (rule_len) (by rfl) bi.len PySem.boot_len (da_cons (de_var (pv 2)) da_nil)) (de_call c_rows_of hr (by decide) px (da_cons (de_ix hu1 (de_var (pv 0)) de_int (fun _ _ => rfl)) da_nil) rfl (by rfl)) (nomark _)) (db_one (ds_raise (c := "NoMachine") rfl tk x_NoMachine (by rfl))) db_nil)
    (db_one (ds_for po rfl (dis_any (dx_f (de_var (pv 2)))) (dg_name (i := 3) sc_need_machine.nd rfl (.inl rfl)) (db_one (ds_if (DW.dt (dw_or (dt_cmp (rule_ne hu64) (de_callB (rule_len) (by rfl) bi.len PySem.boot_len (da_cons (de_ix hu1 (de_var (pv 3)) de_int (fun _ _ => rfl)) da_nil)) (de_ix hu1 (de_var (pv 0)) de_int (fun _ _ => rfl)) (nomark _)) (dw_or1 (dt_not (dt_chain (rule_le) (rule_lt) de_int (de_ix hu1 (de_var (pv 3)) de_int (fun _ _ => rfl)) (de_callB (rule_len) (by rfl) bi.len PySem.boot_len (da_cons (de_var (pv 1)) da_nil))))))) (db_one (ds_raise (c := "NoMachine") rfl tk x_NoMachine (by rfl))) db_nil)))))))))
abbrev s_partings : Stmt := topS 10
theorem sc_partings : FnScope ["machine", "states", "goes_on", "in_order", "pair", "found", "left", "fresh", "rows"] ["machine"] (defScope s_partings) := ⟨rfl, rfl, rfl, by decide +kernel, rfl, by decide +kernel, by decide +kernel⟩
theorem ok_partings {P : Program} {w : World} {K : PySem.W.Frag} {mg : Str → Option Value} {base : Heap} {f : Addr} {fd : FuncData} (bi : Bi mg) (F : FunD K "partings" "partings" (defArgs s_partings) (defBody s_partings) (defScope s_partings) [] [] f fd) (hm : mg "partings" = some (.ref f)) (c_later_rows : FP P w K mg base 1 "later_rows" 3 m_later_rows) (c_parted_at_once : FP P w K mg base 2 "parted_at_once" 1 m_parted_at_once) (c_need_machine : FP P w K mg base 2 "need_machine" 1 m_need_machine) : FP P w K mg base 3 "partings" 1 m_partings := by
  refine fp_of (g := b_partings) F hm sc_partings rfl rfl (fun _ _ _ _ _ _ us hl => match us, hl with | [_], _ => rfl) fun cdv A outer s H E hr => ?_
  have hu : (A.deeper (envOfC "partings" (defScope s_partings) s.heap.objs.size f cdv)).units + 65 < cLine := by have := hr.un; omega
  have hu64 : (A.deeper (envOfC "partings" (defScope s_partings) s.heap.objs.size f cdv)).units + 64 < cLine := by omega
  have hu1 : (A.deeper (envOfC "partings" (defScope s_partings) s.heap.objs.size f cdv)).units + 1 < cLine := by omega
  have po : PassesOwn (model P w) (A.deeper (envOfC "partings" (defScope s_partings) s.heap.objs.size f cdv)) (envOfC "partings" (defScope s_partings) s.heap.objs.size f cdv) (cxOf (L2.CX P w) P w K mg base ["machine", "states", "goes_on", "in_order", "pair", "found", "left", "fresh", "rows"] "partings" (defScope s_partings) f cdv A outer s H E).xe := passes_of rfl
  have tk : Takes (cxOf (L2.CX P w) P w K mg base ["machine", "states", "goes_on", "in_order", "pair", "found", "left", "fresh", "rows"] "partings" (defScope s_partings) f cdv A outer s H E) (fun cls d _ H => E cls d H) := takes_of rfl rfl rfl rfl
  have px := passes_call tk (E := E) (fun _ _ _ _ h => h)
  exact (db_cons (ds_drop (de_call c_need_machine hr (by decide) px (da_cons (de_var (pv 0)) da_nil) rfl (by rfl)))
    (db_cons (ds_set (i := 1) sc_partings.nd rfl (.inl rfl) (dx_f (de_ix hu1 (de_var (pv 0)) de_int (fun _ _ => rfl))))
    (db_cons (ds_asg (dx_m (de_call c_parted_at_once hr (by decide) px (da_cons (de_var (pv 1)) da_nil) rfl (by rfl))) (dg_tup (n := 0) rfl (dgs_cons (dg_name (i := 5) sc_partings.nd rfl (.inl rfl)) (dgs_cons (dg_name (i := 6) sc_partings.nd rfl (.inl rfl)) dgs_nil))))
    (db_cons (ds_set (i := 2) sc_partings.nd rfl (.inl rfl) (dx_f de_bl))
    (db_cons (ds_while po (dt_val (de_var (pv 2))) (db_cons (ds_set (i := 7) sc_partings.nd rfl (.inr rfl) (dx_f de_dictT))
    (db_cons (ds_for po rfl (dis_any (dx_f (de_var (pv 6)))) (dg_name (i := 4) sc_partings.nd rfl (.inl rfl)) (db_cons (ds_set (i := 8) sc_partings.nd rfl (.inl rfl) (dx_f (de_call c_later_rows hr (by decide) px (da_cons (de_ix hu1 (de_var (pv 1)) (de_ix hu1 (de_var (pv 4)) de_int (fun _ _ => rfl)) (fun _ _ => rfl)) (da_cons (de_ix hu1 (de_var (pv 1)) (de_ix hu1 (de_var (pv 4)) de_int (fun _ _ => rfl)) (fun _ _ => rfl)) (da_cons (de_var (pv 5)) da_nil))) rfl (by rfl))))
    (db_one (ds_if (dt_cmp (rule_isnot) (de_var (pv 8)) de_non (nomark _)) (db_one (ds_put hu1 (pv 7) (de_var (pv 4)) (dx_m (de_var (pv 8))))) db_nil))))
    (db_cons (ds_upd hu1 (pv 5) (dx_f (de_var (pv 7))))
    (db_cons (ds_setLc (i := 6) (E' := noE) (own := [("pair", 4)]) rfl sc_partings.nd rfl rfl (sw_true rfl rfl rfl (by decide +kernel)) (dip_any (de_var (pv 6))) (blkOk_by (N := ["machine", "states", "goes_on", "in_order", "pair", "found", "left", "fresh", "rows"]) (own := [("pair", 4)]) (sc := defScope s_partings) (by decide +kernel)) (by decide) (fun _ _ _ _ _ => (dg_name (i := 4) sc_partings.nd rfl (.inl rfl))) (fun _ _ _ _ _ => (dts_one (dt_cmp (rule_notin hu) (de_var (pv 4)) (de_var (pv 7)) (by rfl)))) (fun _ _ _ _ _ => (de_var (pv 4))))
    (db_one (ds_set (i := 2) sc_partings.nd rfl (.inl rfl) (dx_f (de_cmp (rule_gt) (de_callB (rule_len) (by rfl) bi.len PySem.boot_len (da_cons (de_var (pv 7)) da_nil)) de_int (nomark _))))))))))
    (db_cons (ds_set (i := 3) sc_partings.nd rfl (.inl rfl) (dx_f de_dictT))
    (db_cons (ds_for po rfl (dis_any (dx_f (de_callB (rule_sorted) (by rfl) bi.sorted PyProof.Rows.boot_sorted (da_cons (de_callTy (rule_list rfl) (by rfl) bi.list PyProof.Rows.boot_list (da_cons (de_var (pv 5)) da_nil)) da_nil)))) (dg_name (i := 4) sc_partings.nd rfl (.inl rfl)) (db_one (ds_put hu1 (pv 3) (de_var (pv 4)) (dx_f (de_ix hu1 (de_var (pv 5)) (de_var (pv 4)) (fun _ _ => rfl))))))
    (db_one (ds_ret (dx_m (de_var (pv 3))))))))))))
abbrev s__law_rows_of : Stmt := topS 15
theorem sc__law_rows_of : FnScope ["_law_many"] ["_law_many"] (defScope s__law_rows_of) := ⟨rfl, rfl, rfl, by decide +kernel, rfl, by decide +kernel, by decide +kernel⟩
theorem ok__law_rows_of {P : Program} {w : World} {K : PySem.W.Frag} {mg : Str → Option Value} {base : Heap} {f : Addr} {fd : FuncData} (bi : Bi mg) (F : FunD K "_law_rows_of" "_law_rows_of" (defArgs s__law_rows_of) (defBody s__law_rows_of) (defScope s__law_rows_of) [] [] f fd) (hm : mg "_law_rows_of" = some (.ref f)) : FP P w K mg base 1 "_law_rows_of" 1 m__law_rows_of := by
  refine fp_of (g := b__law_rows_of) F hm sc__law_rows_of rfl rfl (fun _ _ _ _ _ _ us hl => match us, hl with | [_], _ => rfl) fun cdv A outer s H E hr => ?_
  have hu : (A.deeper (envOfC "_law_rows_of" (defScope s__law_rows_of) s.heap.objs.size f cdv)).units + 65 < cLine := by have := hr.un; omega
  have hu64 : (A.deeper (envOfC "_law_rows_of" (defScope s__law_rows_of) s.heap.objs.size f cdv)).units + 64 < cLine := by omega
  have hu1 : (A.deeper (envOfC "_law_rows_of" (defScope s__law_rows_of) s.heap.objs.size f cdv)).units + 1 < cLine := by omega
  have po : PassesOwn (model P w) (A.deeper (envOfC "_law_rows_of" (defScope s__law_rows_of) s.heap.objs.size f cdv)) (envOfC "_law_rows_of" (defScope s__law_rows_of) s.heap.objs.size f cdv) (cxOf (L2.CX P w) P w K mg base ["_law_many"] "_law_rows_of" (defScope s__law_rows_of) f cdv A outer s H E).xe := passes_of rfl
  exact (db_one (ds_ret (dx_f (de_ix hu1 (de_lst (da_cons de_int (da_cons de_int (da_cons de_int (da_cons de_int da_nil))))) (de_var (pv 0)) (fun _ _ => rfl)))))
abbrev s__law_mixed : Stmt := topS 13
theorem sc__law_mixed : FnScope ["_law_cell", "_law_k", "_law_number"] ["_law_cell", "_law_k"] (defScope s__law_mixed) := ⟨rfl, rfl, rfl, by decide +kernel, rfl, by decide +kernel, by decide +kernel⟩
theorem ok__law_mixed {P : Program} {w : World} {K : PySem.W.Frag} {mg : Str → Option Value} {base : Heap} {f : Addr} {fd : FuncData} (bi : Bi mg) (F : FunD K "_law_mixed" "_law_mixed" (defArgs s__law_mixed) (defBody s__law_mixed) (defScope s__law_mixed) [] [] f fd) (hm : mg "_law_mixed" = some (.ref f)) : FP P w K mg base 1 "_law_mixed" 2 m__law_mixed := by
  refine fp_of (g := b__law_mixed) F hm sc__law_mixed rfl rfl (fun _ _ _ _ _ _ us hl => match us, hl with | [_, _], _ => rfl) fun cdv A outer s H E hr => ?_
  have hu : (A.deeper (envOfC "_law_mixed" (defScope s__law_mixed) s.heap.objs.size f cdv)).units + 65 < cLine := by have := hr.un; omega
  have hu64 : (A.deeper (envOfC "_law_mixed" (defScope s__law_mixed) s.heap.objs.size f cdv)).units + 64 < cLine := by omega
  have hu1 : (A.deeper (envOfC "_law_mixed" (defScope s__law_mixed) s.heap.objs.size f cdv)).units + 1 < cLine := by omega
  have po : PassesOwn (model P w) (A.deeper (envOfC "_law_mixed" (defScope s__law_mixed) s.heap.objs.size f cdv)) (envOfC "_law_mixed" (defScope s__law_mixed) s.heap.objs.size f cdv) (cxOf (L2.CX P w) P w K mg base ["_law_cell", "_law_k", "_law_number"] "_law_mixed" (defScope s__law_mixed) f cdv A outer s H E).xe := passes_of rfl
  exact (db_cons (ds_set (i := 2) sc__law_mixed.nd rfl (.inl rfl) (dx_f (de_bin rule_mod (de_bin rule_mul (de_bin rule_add (de_var (pv 0)) (de_bin rule_mul de_int (de_var (pv 1)))) de_int) de_int)))
    (db_one (ds_ret (dx_m (de_bin rule_mod (de_bin rule_add (de_bin rule_add (de_bin rule_mul (de_var (pv 2)) (de_var (pv 2))) (de_bin rule_mul de_int (de_var (pv 2)))) (de_var (pv 1))) de_int)))))
abbrev s__law_row : Stmt := topS 14
theorem sc__law_row : FnScope ["_law_number", "_law_many", "_law_row_here", "_law_step"] ["_law_number", "_law_many"] (defScope s__law_row) := ⟨rfl, rfl, rfl, by decide +kernel, rfl, by decide +kernel, by decide +kernel⟩
theorem ok__law_row {P : Program} {w : World} {K : PySem.W.Frag} {mg : Str → Option Value} {base : Heap} {f : Addr} {fd : FuncData} (bi : Bi mg) (F : FunD K "_law_row" "_law_row" (defArgs s__law_row) (defBody s__law_row) (defScope s__law_row) [] [] f fd) (hm : mg "_law_row" = some (.ref f)) : FP P w K mg base 1 "_law_row" 2 m__law_row := by
  refine fp_of (g := b__law_row) F hm sc__law_row rfl rfl (fun _ _ _ _ _ _ us hl => match us, hl with | [_, _], _ => rfl) fun cdv A outer s H E hr => ?_
  have hu : (A.deeper (envOfC "_law_row" (defScope s__law_row) s.heap.objs.size f cdv)).units + 65 < cLine := by have := hr.un; omega
  have hu64 : (A.deeper (envOfC "_law_row" (defScope s__law_row) s.heap.objs.size f cdv)).units + 64 < cLine := by omega
  have hu1 : (A.deeper (envOfC "_law_row" (defScope s__law_row) s.heap.objs.size f cdv)).units + 1 < cLine := by omega
  have po : PassesOwn (model P w) (A.deeper (envOfC "_law_row" (defScope s__law_row) s.heap.objs.size f cdv)) (envOfC "_law_row" (defScope s__law_row) s.heap.objs.size f cdv) (cxOf (L2.CX P w) P w K mg base ["_law_number", "_law_many", "_law_row_here", "_law_step"] "_law_row" (defScope s__law_row) f cdv A outer s H E).xe := passes_of rfl
  exact (db_cons (ds_set (i := 2) sc__law_row.nd rfl (.inl rfl) (dx_f (de_lst da_nil)))
    (db_cons (ds_for po rfl (DIr.s (dir_range1 (by rfl) bi.range (da_cons (de_var (pv 1)) da_nil))) (dg_name (i := 3) sc__law_row.nd rfl (.inl rfl)) (db_cons (ds_app (pv 2) (dx_m (de_cmp (rule_eq hu64) (de_bin rule_mod (de_var (pv 0)) de_int) de_int (nomark _))))
    (db_one (ds_set (i := 0) sc__law_row.nd rfl (.inl rfl) (dx_f (de_bin rule_div (de_var (pv 0)) de_int))))))
    (db_cons (ds_reverse (de_var (pv 2)))
    (db_one (ds_ret (dx_m (de_callTy (rule_tuple) (by rfl) bi.tuple PyProof.Rows.boot_tuple (da_cons (de_var (pv 2)) da_nil))))))))
abbrev s__law_cell_at : Stmt := topS 12
theorem sc__law_cell_at : FnScope ["_law_script", "_law_k"] ["_law_script", "_law_k"] (defScope s__law_cell_at) := ⟨rfl, rfl, rfl, by decide +kernel, rfl, by decide +kernel, by decide +kernel⟩
theorem ok__law_cell_at {P : Program} {w : World} {K : PySem.W.Frag} {mg : Str → Option Value} {base : Heap} {f : Addr} {fd : FuncData} (bi : Bi mg) (F : FunD K "_law_cell_at" "_law_cell_at" (defArgs s__law_cell_at) (defBody s__law_cell_at) (defScope s__law_cell_at) [] [] f fd) (hm : mg "_law_cell_at" = some (.ref f)) : FP P w K mg base 1 "_law_cell_at" 2 m__law_cell_at := by
  refine fp_of (g := b__law_cell_at) F hm sc__law_cell_at rfl rfl (fun _ _ _ _ _ _ us hl => match us, hl with | [_, _], _ => rfl) fun cdv A outer s H E hr => ?_
  have hu : (A.deeper (envOfC "_law_cell_at" (defScope s__law_cell_at) s.heap.objs.size f cdv)).units + 65 < cLine := by have := hr.un; omega
  have hu64 : (A.deeper (envOfC "_law_cell_at" (defScope s__law_cell_at) s.heap.objs.size f cdv)).units + 64 < cLine := by omega
  have hu1 : (A.deeper (envOfC "_law_cell_at" (defScope s__law_cell_at) s.heap.objs.size f cdv)).units + 1 < cLine := by omega
  have po : PassesOwn (model P w) (A.deeper (envOfC "_law_cell_at" (defScope s__law_cell_at) s.heap.objs.size f cdv)) (envOfC "_law_cell_at" (defScope s__law_cell_at) s.heap.objs.size f cdv) (cxOf (L2.CX P w) P w K mg base ["_law_script", "_law_k"] "_law_cell_at" (defScope s__law_cell_at) f cdv A outer s H E).xe := passes_of rfl
  exact (db_cons (ds_if (dt_cmp (rule_lt) (de_var (pv 1)) (de_callB (rule_len) (by rfl) bi.len PySem.boot_len (da_cons (de_var (pv 0)) da_nil)) (nomark _)) (db_one (ds_ret (dx_f (de_ix hu1 (de_var (pv 0)) (de_var (pv 1)) (fun _ _ => rfl))))) db_nil)
    (db_one (ds_ret (dx_m de_int))))
abbrev s__law_machine : Stmt := topS 16
theorem sc__law_machine : FnScope ["_law_script", "_law_at", "_law_cell", "_law_kinds", "_law_many", "_law_wide", "_law_size", "_law_base", "_law_states", "_law_k", "_law_state", "_law_number", "_law_left", "_law_told", "_law_goal", "_law_twin"] ["_law_script", "_law_at"] (defScope s__law_machine) := ⟨rfl, rfl, rfl, by decide +kernel, rfl, by decide +kernel, by decide +kernel⟩
theorem ok__law_machine {P : Program} {w : World} {K : PySem.W.Frag} {mg : Str → Option Value} {base : Heap} {f : Addr} {fd : FuncData} (bi : Bi mg) (F : FunD K "_law_machine" "_law_machine" (defArgs s__law_machine) (defBody s__law_machine) (defScope s__law_machine) [] [] f fd) (hm : mg "_law_machine" = some (.ref f)) (c__law_rows_of : FP P w K mg base 1 "_law_rows_of" 1 m__law_rows_of) (c__law_mixed : FP P w K mg base 1 "_law_mixed" 2 m__law_mixed) (c__law_row : FP P w K mg base 1 "_law_row" 2 m__law_row) (c__law_cell_at : FP P w K mg base 1 "_law_cell_at" 2 m__law_cell_at) : FP P w K mg base 2 "_law_machine" 2 m__law_machine := by
  refine fp_of (g := b__law_machine) F hm sc__law_machine rfl rfl (fun _ _ _ _ _ _ us hl => match us, hl with | [_, _], _ => rfl) fun cdv A outer s H E hr => ?_
  have hu : (A.deeper (envOfC "_law_machine" (defScope s__law_machine) s.heap.objs.size f cdv)).units + 65 < cLine := by have := hr.un; omega
  have hu64 : (A.deeper (envOfC "_law_machine" (defScope s__law_machine) s.heap.objs.size f cdv)).units + 64 < cLine := by omega
  have hu1 : (A.deeper (envOfC "_law_machine" (defScope s__law_machine) s.heap.objs.size f cdv)).units + 1 < cLine := by omega
  have po : PassesOwn (model P w) (A.deeper (envOfC "_law_machine" (defScope s__law_machine) s.heap.objs.size f cdv)) (envOfC "_law_machine" (defScope s__law_machine) s.heap.objs.size f cdv) (cxOf (L2.CX P w) P w K mg base ["_law_script", "_law_at", "_law_cell", "_law_kinds", "_law_many", "_law_wide", "_law_size", "_law_base", "_law_states", "_law_k", "_law_state", "_law_number", "_law_left", "_law_told", "_law_goal", "_law_twin"] "_law_machine" (defScope s__law_machine) f cdv A outer s H E).xe := passes_of rfl
  have tk : Takes (cxOf (L2.CX P w) P w K mg base ["_law_script", "_law_at", "_law_cell", "_law_kinds", "_law_many", "_law_wide", "_law_size", "_law_base", "_law_states", "_law_k", "_law_state", "_law_number", "_law_left", "_law_told", "_law_goal", "_law_twin"] "_law_machine" (defScope s__law_machine) f cdv A outer s H E) (fun cls d _ H => E cls d H) := takes_of rfl rfl rfl rfl
  have px := passes_call tk (E := E) (fun _ _ _ _ h => h)
  exact (db_cons (ds_set (i := 2) sc__law_machine.nd rfl (.inl rfl) (dx_f (de_call c__law_cell_at hr (by decide) px (da_cons (de_var (pv 0)) (da_cons (de_var (pv 1)) da_nil)) rfl (by rfl))))
    (db_cons (ds_set (i := 3) sc__law_machine.nd rfl (.inl rfl) (dx_f (de_call c__law_cell_at hr (by decide) px (da_cons (de_var (pv 0)) (da_cons (de_bin rule_add (de_var (pv 1)) de_int) da_nil)) rfl (by rfl))))
    (db_cons (ds_set (i := 4) sc__law_machine.nd rfl (.inl rfl) (dx_f (de_bin rule_mod (de_var (pv 2)) de_int)))
    (db_cons (ds_set (i := 5) sc__law_machine.nd rfl (.inl rfl) (dx_f (de_ix hu1 (de_lst (da_cons de_int (da_cons de_int (da_cons de_int (da_cons de_int (da_cons de_int (da_cons (de_bin rule_add de_int (de_bin rule_mod (de_bin rule_div (de_var (pv 3)) de_int) de_int)) (da_cons de_int (da_cons de_int da_nil))))))))) (de_bin rule_mod (de_bin rule_div (de_var (pv 3)) de_int) de_int) (fun _ _ => rfl))))
    (db_cons (ds_set (i := 6) sc__law_machine.nd rfl (.inl rfl) (dx_f (de_bin rule_add de_int (de_bin rule_mod (de_bin rule_div (de_var (pv 2)) de_int) de_int))))
    (db_cons (ds_if (DW.dt (dw_or (dt_cmp (rule_eq hu64) (de_var (pv 6)) de_int (nomark _)) (dw_or1 (dt_cmp (rule_eq hu64) (de_var (pv 6)) de_int (nomark _))))) (db_cons (ds_set (i := 6) sc__law_machine.nd rfl (.inl rfl) (dx_f (de_bin rule_add de_int (de_bin rule_mod (de_bin rule_div (de_var (pv 2)) de_int) de_int))))
    (db_one (ds_set (i := 4) sc__law_machine.nd rfl (.inl rfl) (dx_f (de_callB (rule_min2 rfl) (by rfl) bi.min PyProof.Rows.boot_min (da_cons (de_var (pv 4)) (da_cons (de_ix hu1 (de_lst (da_cons de_int (da_cons de_int da_nil))) (de_callTy (rule_int) (by rfl) bi.int PyProof.Rows.boot_int (da_cons (de_cmp (rule_gt) (de_var (pv 6)) de_int (nomark _)) da_nil)) (fun _ _ => rfl)) da_nil))))))) db_nil)
    (db_cons (ds_if (dt_cmp (rule_eq hu64) (de_var (pv 6)) de_int (nomark _)) (db_cons (ds_set (i := 6) sc__law_machine.nd rfl (.inl rfl) (dx_f (de_bin rule_add de_int (de_bin rule_mod (de_bin rule_div (de_var (pv 2)) de_int) de_int))))
    (db_one (ds_set (i := 4) sc__law_machine.nd rfl (.inl rfl) (dx_f (de_bin rule_mod (de_var (pv 4)) de_int))))) db_nil)
    (db_cons (ds_set (i := 7) sc__law_machine.nd rfl (.inl rfl) (dx_f (de_bin rule_sub (de_var (pv 6)) (de_bin rule_mod (de_bin rule_div (de_var (pv 3)) de_int) (de_var (pv 6))))))
    (db_cons (ds_set (i := 8) sc__law_machine.nd rfl (.inl rfl) (dx_f (de_lst da_nil)))
    (db_cons (ds_for po rfl (DIr.s (dir_range1 (by rfl) bi.range (da_cons (de_var (pv 6)) da_nil))) (dg_name (i := 9) sc__law_machine.nd rfl (.inl rfl)) (db_cons (ds_set (i := 10) sc__law_machine.nd rfl (.inl rfl) (dx_f (de_lst da_nil)))
    (db_cons (ds_for po rfl (DIr.s (dir_range1 (by rfl) bi.range (da_cons (de_call c__law_rows_of hr (by decide) px (da_cons (de_var (pv 4)) da_nil) rfl (by rfl)) da_nil))) (dg_name (i := 11) sc__law_machine.nd rfl (.inl rfl)) (db_cons (ds_set (i := 12) sc__law_machine.nd rfl (.inl rfl) (dx_f (de_call c__law_mixed hr (by decide) px (da_cons (de_call c__law_cell_at hr (by decide) px (da_cons (de_var (pv 0)) (da_cons (de_bin rule_add (de_bin rule_add (de_var (pv 1)) de_int) (de_bin rule_mod (de_bin rule_mod (de_var (pv 9)) (de_var (pv 7))) de_int)) da_nil)) rfl (by rfl)) (da_cons (de_bin rule_add (de_bin rule_mul de_int (de_bin rule_mod (de_var (pv 9)) (de_var (pv 7)))) (de_var (pv 11))) da_nil)) rfl (by rfl))))
    (db_cons (ds_set (i := 13) sc__law_machine.nd rfl (.inl rfl) (dx_f (de_bin rule_mul (de_lst (da_cons de_bl da_nil)) (de_var (pv 5)))))
    (db_cons (ds_if (dt_cmp (rule_eq hu64) (de_bin rule_mod (de_var (pv 12)) de_int) de_int (nomark _)) (db_one (ds_set (i := 13) sc__law_machine.nd rfl (.inl rfl) (dx_f (de_callTy (rule_list rfl) (by rfl) bi.list PyProof.Rows.boot_list (da_cons (de_call c__law_row hr (by decide) px (da_cons (de_bin rule_div (de_var (pv 12)) de_int) (da_cons (de_var (pv 5)) da_nil)) rfl (by rfl)) da_nil))))) db_nil)
    (db_cons (ds_set (i := 14) sc__law_machine.nd rfl (.inl rfl) (dx_f (de_bin rule_mod (de_bin rule_div (de_var (pv 12)) de_int) (de_var (pv 7)))))
    (db_cons (ds_if (dt_cmp (rule_eq hu64) (de_bin rule_mod (de_var (pv 3)) de_int) de_int (nomark _)) (db_cons (ds_set (i := 13) sc__law_machine.nd rfl (.inl rfl) (dx_f (de_bin rule_mul (de_lst (da_cons (de_cmp (rule_eq hu64) (de_bin rule_mod (de_var (pv 9)) (de_var (pv 7))) (de_bin rule_sub (de_var (pv 7)) de_int) (nomark _)) da_nil)) (de_var (pv 5)))))
    (db_one (ds_set (i := 14) sc__law_machine.nd rfl (.inl rfl) (dx_f (de_ix hu1 (de_lst (da_cons (de_callB (rule_min2 rfl) (by rfl) bi.min PyProof.Rows.boot_min (da_cons (de_bin rule_add (de_bin rule_mod (de_var (pv 9)) (de_var (pv 7))) de_int) (da_cons (de_bin rule_sub (de_var (pv 7)) de_int) da_nil))) (da_cons de_int da_nil))) (de_callB (rule_min2 rfl) (by rfl) bi.min PyProof.Rows.boot_min (da_cons (de_var (pv 11)) (da_cons de_int da_nil))) (fun _ _ => rfl)))))) db_nil)
    (db_cons (ds_set (i := 15) sc__law_machine.nd rfl (.inl rfl) (dx_f (de_bin rule_mod (de_call c__law_mixed hr (by decide) px (da_cons (de_bin rule_add (de_var (pv 3)) (de_var (pv 9))) (da_cons (de_var (pv 11)) da_nil)) rfl (by rfl)) (de_bin rule_add (de_bin rule_div (de_bin rule_sub (de_bin rule_sub (de_var (pv 6)) de_int) (de_var (pv 14))) (de_var (pv 7))) de_int))))
    (db_one (ds_app (pv 10) (dx_tup (dxl_cons (dx_m (de_callTy (rule_tuple) (by rfl) bi.tuple PyProof.Rows.boot_tuple (da_cons (de_var (pv 13)) da_nil))) (dxl_cons (dx_m (de_bin rule_add (de_var (pv 14)) (de_bin rule_mul (de_var (pv 7)) (de_var (pv 15))))) dxl_nil))))))))))))
    (db_one (ds_app (pv 8) (dx_m (de_var (pv 10))))))))
    (db_one (ds_ret (dx_tup (dxl_cons (dx_m (de_var (pv 4))) (dxl_cons (dx_m (de_var (pv 5))) (dxl_cons (dx_m (de_var (pv 8))) dxl_nil))))))))))))))))
abbrev s_law : Stmt := topS 20
theorem sc_law : FnScope ["_law_script", "_law_machine_here", "_law_found", "_law_pair_here"] ["_law_script"] (defScope s_law) := ⟨rfl, rfl, rfl, by decide +kernel, rfl, by decide +kernel, by decide +kernel⟩
theorem ok_law {P : Program} {w : World} {K : PySem.W.Frag} {mg : Str → Option Value} {base : Heap} {f : Addr} {fd : FuncData} (bi : Bi mg) (F : FunD K "law" "law" (defArgs s_law) (defBody s_law) (defScope s_law) [] [] f fd) (hm : mg "law" = some (.ref f)) (c__law_first : FP P w K mg base 2 "_law_first" 3 m__law_first) (c_partings : FP P w K mg base 3 "partings" 1 m_partings) (c__law_machine : FP P w K mg base 2 "_law_machine" 2 m__law_machine) : FnOk P w K mg base (L2.CX P w) 4 f fd ["_law_script"] (spD K mg 1 m_law) := by
  refine fk_of (g := b_law) F sc_law rfl rfl fun cdv A outer s H E hr => ?_
  have hu : (A.deeper (envOfC "law" (defScope s_law) s.heap.objs.size f cdv)).units + 65 < cLine := by have := hr.un; omega
  have hu64 : (A.deeper (envOfC "law" (defScope s_law) s.heap.objs.size f cdv)).units + 64 < cLine := by omega
  have hu1 : (A.deeper (envOfC "law" (defScope s_law) s.heap.objs.size f cdv)).units + 1 < cLine := by omega
  have po : PassesOwn (model P w) (A.deeper (envOfC "law" (defScope s_law) s.heap.objs.size f cdv)) (envOfC "law" (defScope s_law) s.heap.objs.size f cdv) (cxOf (L2.CX P w) P w K mg base ["_law_script", "_law_machine_here", "_law_found", "_law_pair_here"] "law" (defScope s_law) f cdv A outer s H E).xe := passes_of rfl
  have tk : Takes (cxOf (L2.CX P w) P w K mg base ["_law_script", "_law_machine_here", "_law_found", "_law_pair_here"] "law" (defScope s_law) f cdv A outer s H E) (fun cls d _ H => E cls d H) := takes_of rfl rfl rfl rfl
  have px := passes_call tk (E := E) (fun _ _ _ _ h => h)
  exact (db_cons (ds_set (i := 1) sc_law.nd rfl (.inl rfl) (dx_f (de_call c__law_machine hr (by decide) px (da_cons (de_var (pv 0)) (da_cons de_int da_nil)) rfl (by rfl))))
    (db_cons (ds_set (i := 2) sc_law.nd rfl (.inl rfl) (dx_call c_partings hr (by decide) px (dxl_cons (dx_f (de_var (pv 1))) dxl_nil) rfl (by rfl)))
    (db_cons (ds_forD po rfl (pv 2) (dg_name (i := 3) sc_law.nd rfl (.inl rfl)) (db_one (ds_if (dt_not (dt_val (de_call c__law_first hr (by decide) px (da_cons (de_ix hu1 (de_var (pv 1)) de_int (fun _ _ => rfl)) (da_cons (de_var (pv 3)) (da_cons (de_var (pv 2)) da_nil))) rfl (by rfl)))) (db_one (ds_ret (dx_m de_bl))) db_nil)))
    (db_one (ds_ret (dx_m de_bl))))))
end Dl
set_option Elab.async false
set_option linter.all false
set_option maxRecDepth 100000
set_option maxHeartbeats 1000000
/- plain layer 0: the combinators as equations for simp. -/
namespace Dl
open PySem L2
section
variable {ρ : Ev} {f g : Ev → Res Out} {fa fb fc : Ev → Res RV} {fx : Ev → Res (D × Ev)} {ft fu : Ev → Res Bool} {fs : Ev → Res (List RV)} {fl : Ev → Res (List D × Ev)} {i m : Nat}
@[simp] theorem e_dSeq : dSeq f g ρ = (f ρ >>= fun o => match o with
  | .nx ρ' => g ρ'
  | o => .ok o) := (rfl)
@[simp] theorem e_dNext : dNext ρ = .ok (.nx ρ) := (rfl)
@[simp] theorem e_dSet : dSet i fx ρ = (fx ρ >>= fun x => .ok (.nx (x.2.set i (.val x.1)))) := (rfl)
@[simp] theorem e_dXf : dXf fa ρ = (fa ρ >>= fun v => takeF ρ v) := (rfl)
@[simp] theorem e_dXm : dXm fa ρ = (fa ρ >>= fun v => takeM ρ v) := (rfl)
@[simp] theorem e_takeF {d : D} : takeF ρ (.val d) = .ok (d, ρ) := (rfl)
@[simp] theorem e_takeM {d : D} : takeM ρ (.val d) = .ok (d, ρ) := (rfl)
@[simp] theorem e_lookD {d : D} : lookD ρ (.val d) = .ok d := (rfl)
@[simp] theorem e_dC {d : D} : dC d ρ = .ok (.val d) := (rfl)
@[simp] theorem e_dVar : dVar i ρ = (match ρ[i]? with
  | some (.val d) => if noOwn d then .ok (.val d) else .ok (.lv i [])
  | _ => .bad) := (rfl)
@[simp] theorem e_dBin {h : D → D → Res D} : dBin h fa fb ρ = (do
  let x ← fa ρ
  let y ← fb ρ
  let dx ← lookD ρ x
  let dy ← lookD ρ y
  let d ← h dx dy
  .ok (.val d)) := (rfl)
@[simp] theorem e_dIf : dIf ft f g ρ = (ft ρ >>= fun b => if b then f ρ else g ρ) := (rfl)
@[simp] theorem e_dIfE : dIfE ft fa fb ρ = (ft ρ >>= fun b => if b then fa ρ else fb ρ) := (rfl)
@[simp] theorem e_dRet : dRet fx ρ = (fx ρ >>= fun x => .ok (.rt x.1)) := (rfl)
@[simp] theorem e_dDrop : dDrop fa ρ = (fa ρ >>= fun _ => .ok (.nx ρ)) := (rfl)
@[simp] theorem e_dFn {h : List D → Res D} : dFn h fs ρ = (do
  let rs ← fs ρ
  let ds ← lookL ρ rs
  let d ← h ds
  .ok (.val d)) := (rfl)
@[simp] theorem e_dNil : dNil ρ = .ok [] := (rfl)
@[simp] theorem e_dCons : dCons fa fs ρ = (do
  let r ← fa ρ
  let rs ← fs ρ
  .ok (r :: rs)) := (rfl)
@[simp] theorem e_lookL0 : lookL ρ [] = .ok [] := (rfl)
@[simp] theorem e_lookL1 {r : RV} {rs : List RV} : lookL ρ (r :: rs) = (do
  let d ← lookD ρ r
  let ds ← lookL ρ rs
  .ok (d :: ds)) := (rfl)
@[simp] theorem e_valsD0 : valsD [] = .ok [] := (rfl)
@[simp] theorem e_valsD1 {d : D} {rs : List RV} : valsD (.val d :: rs) = (valsD rs >>= fun ds => .ok (d :: ds)) := (rfl)
@[simp] theorem e_dTup : dTup fs ρ = (fs ρ >>= fun rs => valsD rs >>= fun ds => .ok (.val (.tup ds))) := (rfl)
@[simp] theorem e_dLst : dLst fs ρ = (fs ρ >>= fun rs => valsD rs >>= fun ds => .ok (.val (.lst true ds))) := (rfl)
@[simp] theorem e_dXnil : dXnil ρ = .ok ([], ρ) := (rfl)
@[simp] theorem e_dXcons {fy : Ev → Res (List D × Ev)} : dXcons fx fy ρ = (fx ρ >>= fun x => fy x.2 >>= fun y => .ok (x.1 :: y.1, y.2)) := (rfl)
@[simp] theorem e_dXtup {fy : Ev → Res (List D × Ev)} : dXtup fy ρ = (fy ρ >>= fun x => .ok (.tup x.1, x.2)) := (rfl)
@[simp] theorem e_dXlst {fy : Ev → Res (List D × Ev)} : dXlst fy ρ = (fy ρ >>= fun x => .ok (.lst true x.1, x.2)) := (rfl)
@[simp] theorem e_dTst : dTst fa ρ = (fa ρ >>= fun v => rvB v) := (rfl)
@[simp] theorem e_rvB {b : Bool} : rvB (.val (.bl b)) = .ok b := (rfl)
@[simp] theorem e_dAnd : dAnd ft fu ρ = (ft ρ >>= fun b => if b then fu ρ else .ok false) := (rfl)
@[simp] theorem e_dOr : dOr ft fu ρ = (ft ρ >>= fun b => if b then .ok true else fu ρ) := (rfl)
@[simp] theorem e_dNot : dNot ft ρ = (ft ρ >>= fun b => .ok (!b)) := (rfl)
@[simp] theorem e_dAndV : dAndV fa fb ρ = (fa ρ >>= fun v => rvB v >>= fun b => if b then fb ρ else .ok (.val (.bl false))) := (rfl)
@[simp] theorem e_dOrV : dOrV fa fb ρ = (fa ρ >>= fun v => rvB v >>= fun b => if b then .ok (.val (.bl true)) else fb ρ) := (rfl)
@[simp] theorem e_dCall {h : List D → Res D} : dCall h fs ρ = (do
  let rs ← fs ρ
  let ds ← lookL ρ rs
  let d ← h (frzL ds)
  if noOwnL ds || clo d then .ok (.val d) else .bad) := (rfl)
@[simp] theorem e_dXcall {h : List D → Res D} : dXcall h fl ρ = (fl ρ >>= fun x => h (frzL x.1) >>= fun d => .ok (d, x.2)) := (rfl)
@[simp] theorem e_dFor {h : D → Ev → Option Ev} : dFor fl h f ρ = (fl ρ >>= fun x => forL h f x.1 x.2) := (rfl)
@[simp] theorem e_dKeep {fi : Ev → Res (List D)} : dKeep fi ρ = (fi ρ >>= fun ds => .ok (ds, ρ)) := (rfl)
@[simp] theorem e_dRan : dRan fs ρ = (fs ρ >>= fun rs => Res.ofOpt (ranD rs)) := (rfl)
@[simp] theorem e_dItems : dItems fa ρ = (fa ρ >>= fun x => lookD ρ x >>= fun d => Res.ofOpt (itemsD d)) := (rfl)
@[simp] theorem e_dItemsS : dItemsS fx ρ = (fx ρ >>= fun x => match itemsD (frz x.1) with
  | some ds => .ok (ds, x.2)
  | none => .bad) := (rfl)
@[simp] theorem e_dRaise {c : String} : dRaise c ρ = .exc c := (rfl)
@[simp] theorem e_dDictT : dDictT ρ = .ok (.val (.dt true [] [])) := (rfl)
@[simp] theorem e_hN {d : D} : hN i d ρ = some (ρ.set i (.val d)) := (rfl)
@[simp] theorem e_hNil : hNil [] ρ = some ρ := (rfl)
@[simp] theorem e_hCons {h : D → Ev → Option Ev} {hs : List D → Ev → Option Ev} {d : D} {r : List D} : hCons h hs (d :: r) ρ = (h d ρ).bind fun ρ' => hs r ρ' := (rfl)
@[simp] theorem e_hTup {hs : List D → Ev → Option Ev} {ds : List D} : hTup hs (.tup ds) ρ = hs ds ρ := (rfl)
@[simp] theorem e_dAsg {h : D → Ev → Option Ev} : dAsg h fx ρ = (fx ρ >>= fun x => match h x.1 x.2 with
  | some ρ' => .ok (.nx ρ')
  | none => .bad) := (rfl)
@[simp] theorem e_dIx : dIx fa fb ρ = (do
  let x ← fa ρ
  let y ← fb ρ
  let dx ← lookD ρ x
  let dy ← lookD ρ y
  ixR x dx dy) := (rfl)
@[simp] theorem e_dNo : dNo ρ = .ok none := (rfl)
@[simp] theorem e_forL0 {h : D → Ev → Option Ev} : forL h f [] ρ = .ok (.nx ρ) := (rfl)
@[simp] theorem e_forL1 {h : D → Ev → Option Ev} {d : D} {ds : List D} : forL h f (d :: ds) ρ = (match h d ρ with
  | none => .bad
  | some ρ1 => f ρ1 >>= fun o => match o with
    | .nx ρ2 => forL h f ds ρ2
    | .ct ρ2 => forL h f ds ρ2
    | .bk ρ2 => .ok (.nx ρ2)
    | .rt d => .ok (.rt d)) := (rfl)
theorem e_dDef {ds : List D} : dDef m f ds = (match f (ds.map SL.val ++ List.replicate (m - ds.length) SL.none) with
  | .ok (.rt d) => .ok d
  | .ok (.nx _) => .ok .non
  | .exc c => .exc c
  | _ => .bad) := (rfl)
@[simp] theorem e_ofOpt {α : Type} {a : α} : Res.ofOpt (some a) = .ok a := (rfl)
end
section
variable {i j : Int} {b : Bool} {x : Str} {xs ys : List D} {o : Bool}
@[simp] theorem n_non : noOwn .non = true := (rfl)
@[simp] theorem n_int : noOwn (.int i) = true := (rfl)
@[simp] theorem n_bl : noOwn (.bl b) = true := (rfl)
@[simp] theorem n_str : noOwn (.str x) = true := (rfl)
@[simp] theorem n_scr {ns : List Int} : noOwn (.scr ns) = true := (rfl)
@[simp] theorem n_dead : noOwn .dead = true := (rfl)
@[simp] theorem n_tup : noOwn (.tup xs) = noOwnL xs := (rfl)
@[simp] theorem n_lstF : noOwn (.lst false xs) = noOwnL xs := (rfl)
@[simp] theorem n_lstT : noOwn (.lst true xs) = false := (rfl)
@[simp] theorem n_dtT {ks : List (List Key)} : noOwn (.dt true ks xs) = false := (rfl)
@[simp] theorem n_dtF {ks : List (List Key)} : noOwn (.dt false ks xs) = noOwnL xs := (rfl)
@[simp] theorem n_dkT {ks : List Key} : noOwn (.dk true ks xs) = false := (rfl)
@[simp] theorem n_dkF {ks : List Key} : noOwn (.dk false ks xs) = noOwnL xs := (rfl)
@[simp] theorem n_nil : noOwnL [] = true := (rfl)
@[simp] theorem n_cons {d : D} : noOwnL (d :: xs) = (noOwn d && noOwnL xs) := (rfl)
theorem n_all (h : ∀ d ∈ xs, noOwn d = true) : noOwnL xs = true := by rw [noOwnL_all]; exact List.all_eq_true.mpr h
theorem n_map {α : Type} {f : α → D} {l : List α} (h : ∀ a, noOwn (f a) = true) : noOwnL (l.map f) = true := n_all fun d hd => by
  obtain ⟨a, _, e⟩ := List.mem_map.mp hd
  rw [← e]; exact h a
@[simp] theorem c_int : clo (.int i) = true := (rfl)
@[simp] theorem c_non : clo .non = true := (rfl)
@[simp] theorem c_bl : clo (.bl b) = true := (rfl)
@[simp] theorem c_str : clo (.str x) = true := (rfl)
@[simp] theorem c_tup : clo (.tup xs) = cloL xs := (rfl)
@[simp] theorem c_lstT : clo (.lst true xs) = cloL xs := (rfl)
@[simp] theorem c_nil : cloL [] = true := (rfl)
@[simp] theorem c_cons {d : D} : cloL (d :: xs) = (clo d && cloL xs) := (rfl)
@[simp] theorem f_non : frz .non = .non := (rfl)
@[simp] theorem f_int : frz (.int i) = .int i := (rfl)
@[simp] theorem f_bl : frz (.bl b) = .bl b := (rfl)
@[simp] theorem f_str : frz (.str x) = .str x := (rfl)
@[simp] theorem f_scr {ns : List Int} : frz (.scr ns) = .scr ns := (rfl)
@[simp] theorem f_tup : frz (.tup xs) = .tup (frzL xs) := (rfl)
@[simp] theorem f_lst : frz (.lst o xs) = .lst false (frzL xs) := (rfl)
@[simp] theorem f_dt {ks : List (List Key)} : frz (.dt o ks xs) = .dt false ks (frzL xs) := (rfl)
@[simp] theorem f_dk {ks : List Key} : frz (.dk o ks xs) = .dk false ks (frzL xs) := (rfl)
@[simp] theorem f_nil : frzL [] = [] := (rfl)
@[simp] theorem f_cons {d : D} : frzL (d :: xs) = frz d :: frzL xs := (rfl)
theorem f_map {α : Type} {f : α → D} {l : List α} : frzL (l.map f) = l.map (fun a => frz (f a)) := by rw [frzL_map, List.map_map]; rfl
@[simp] theorem g_add : gAdd (.int i) (.int j) = .ok (.int (i + j)) := (rfl)
@[simp] theorem g_sub : gSub (.int i) (.int j) = .ok (.int (i - j)) := (rfl)
@[simp] theorem g_mod : gMod (.int i) (.int j) = if clD (0 < j) then .ok (.int (i % j)) else .bad := (rfl)
@[simp] theorem g_div : gDiv (.int i) (.int j) = if clD (0 < j ∧ j < 1073741824) then .ok (.int (i / j)) else .bad := (rfl)
@[simp] theorem g_mul : gMul (.int i) (.int j) = if sm i || sm j then .ok (.int (i * j)) else .bad := (rfl)
@[simp] theorem g_lt : gLt (.int i) (.int j) = .ok (.bl (decide (i < j))) := (rfl)
@[simp] theorem g_le : gLe (.int i) (.int j) = .ok (.bl (decide (i ≤ j))) := (rfl)
@[simp] theorem g_gt : gGt (.int i) (.int j) = .ok (.bl (decide (i > j))) := (rfl)
@[simp] theorem g_ge : gGe (.int i) (.int j) = .ok (.bl (decide (i ≥ j))) := (rfl)
@[simp] theorem g_min : gMin2 [.int i, .int j] = .ok (.int (if j < i then j else i)) := (rfl)
@[simp] theorem g_max : gMax2 [.int i, .int j] = .ok (.int (if j > i then j else i)) := (rfl)
@[simp] theorem g_lenL : gLen [.lst o xs] = .ok (.int xs.length) := (rfl)
@[simp] theorem g_lenT : gLen [.tup xs] = .ok (.int xs.length) := (rfl)
@[simp] theorem g_lenS {ns : List Int} : gLen [.scr ns] = .ok (.int ns.length) := (rfl)
@[simp] theorem g_int : gInt [.int i] = .ok (.int i) := (rfl)
@[simp] theorem g_intB : gInt [.bl b] = .ok (.int (if b then 1 else 0)) := (rfl)
theorem sm_of (h1 : -18446744073709551616 < i) (h2 : i < 18446744073709551616) : sm i = true := by
  exact clD_of (by omega)
/-! ### comparisons of data -/
theorem toPL_map {α : Type} {f : α → D} {g : α → PyData} (h : ∀ a, toP (f a) = some (g a)) : ∀ l : List α, toPL (l.map f) = some (l.map g)
  | [] => rfl
  | a :: l => by
    show (toP (f a)).bind (fun p => (toPL (l.map f)).map fun q => p :: q) = _
    rw [h a, toPL_map h l]; rfl
theorem lay_map {α : Type} {g : α → PyData} (h : ∀ a, (g a).canLay0 = true) : ∀ l : List α, PyData.canLayAll0 (l.map g) = true
  | [] => rfl
  | a :: l => by
    show ((g a).canLay0 && PyData.canLayAll0 (l.map g)) = true
    rw [h a, lay_map h l]; rfl
theorem depth_map {α : Type} {g : α → PyData} {n : Nat} (h : ∀ a, (g a).depth ≤ n) : ∀ l : List α, PyData.depthAll (l.map g) ≤ n
  | [] => Nat.zero_le _
  | a :: l => by
    show max (g a).depth (PyData.depthAll (l.map g)) ≤ n
    exact Nat.max_le.mpr ⟨h a, depth_map h l⟩
theorem eqv_map {α : Type} [DecidableEq α] {g : α → PyData} (h : ∀ a b, PyData.eqv (g a) (g b) = decide (a = b)) : ∀ l m : List α, PyData.eqvAll (l.map g) (m.map g) = decide (l = m)
  | [], [] => rfl
  | [], _ :: _ => rfl
  | _ :: _, [] => rfl
  | a :: l, b :: m => by
    show (PyData.eqv (g a) (g b) && PyData.eqvAll (l.map g) (m.map g)) = _
    rw [h a b, eqv_map h l m]
    by_cases e : a = b <;> by_cases e2 : l = m <;> simp [e, e2]
/-- what may be laid, of some depth -/
structure Lays (p : PyData) (n : Nat) : Prop where
  lay : p.canLay0 = true
  dep : p.depth ≤ n
theorem Lays.shaped {p : PyData} {n : Nat} (h : Lays p n) (hn : n ≤ 64 := by decide) : SeqAt.shaped p = true := by
  unfold SeqAt.shaped
  rw [h.lay, Bool.true_and]
  exact decide_eq_true (Nat.le_trans h.dep hn)
theorem lays_int {i : Int} {n : Nat} : Lays (.int i) n := ⟨rfl, Nat.zero_le _⟩
theorem lays_bl {b : Bool} {n : Nat} : Lays (.bool b) n := ⟨rfl, Nat.zero_le _⟩
theorem lays_non {n : Nat} : Lays .none n := ⟨rfl, Nat.zero_le _⟩
theorem lays_list {α : Type} {g : α → PyData} {n : Nat} (h : ∀ a, Lays (g a) n) (l : List α) : Lays (.list (l.map g)) (n + 1) := ⟨lay_map (fun a => (h a).lay) l, Nat.succ_le_succ (depth_map (fun a => (h a).dep) l)⟩
theorem lays_tup {α : Type} {g : α → PyData} {n : Nat} (h : ∀ a, Lays (g a) n) (l : List α) : Lays (.tuple (l.map g)) (n + 1) := ⟨lay_map (fun a => (h a).lay) l, Nat.succ_le_succ (depth_map (fun a => (h a).dep) l)⟩
theorem eqD_of {d e : D} {p r : PyData} {n m : Nat} (h1 : toP d = some p) (h2 : toP e = some r) (l1 : Lays p n) (l2 : Lays r m) (hn : n ≤ 64 := by decide) (hm : m ≤ 64 := by decide) : eqD d e = some (PyData.eqv p r) := by
  unfold eqD
  rw [h1, h2]
  show (if SeqAt.shaped p && SeqAt.shaped r then some (PyData.eqv p r) else none) = _
  rw [l1.shaped hn, l2.shaped hm]; rfl
theorem gEq_of {d e : D} {b : Bool} (h : eqD d e = some b) : gEq d e = .ok (.bl b) := by unfold gEq; rw [h]
theorem gNe_of {d e : D} {b : Bool} (h : eqD d e = some b) : gNe d e = .ok (.bl (!b)) := by unfold gNe; rw [h]
theorem eqv_int (i j : Int) : PyData.eqv (.int i) (.int j) = decide (i = j) := by
  show (i == j) = _
  by_cases e : i = j <;> simp [e]
theorem eqv_bl (i j : Bool) : PyData.eqv (.bool i) (.bool j) = decide (i = j) := by
  show (i == j) = _
  by_cases e : i = j <;> simp [e]
theorem eqD_int : eqD (.int i) (.int j) = some (decide (i = j)) := by rw [← eqv_int]; exact eqD_of (n := 0) (m := 0) rfl rfl lays_int lays_int
theorem eqD_ints {o' : Bool} {ns ms : List Int} : eqD (.lst o (ns.map .int)) (.lst o' (ms.map .int)) = some (decide (ns = ms)) := by
  rw [← eqv_map (g := PyData.int) eqv_int]
  exact eqD_of (p := .list (ns.map .int)) (r := .list (ms.map .int)) (n := 1) (m := 1) (by show (toPL _).map _ = _; rw [toPL_map (g := PyData.int) (fun _ => rfl)]; rfl) (by show (toPL _).map _ = _; rw [toPL_map (g := PyData.int) (fun _ => rfl)]; rfl) (lays_list (fun _ => lays_int) _) (lays_list (fun _ => lays_int) _)
theorem eqD_nints {ms : List Int} : eqD .non (.lst o (ms.map .int)) = some false :=
  eqD_of (p := .none) (r := .list (ms.map .int)) (n := 1) (m := 1) rfl (by show (toPL _).map _ = _; rw [toPL_map (g := PyData.int) (fun _ => rfl)]; rfl) lays_non (lays_list (fun _ => lays_int) _)
theorem eqD_bls {bs cs : List Bool} : eqD (.tup (bs.map .bl)) (.tup (cs.map .bl)) = some (decide (bs = cs)) := by
  rw [← eqv_map (g := PyData.bool) eqv_bl]
  exact eqD_of (p := .tuple (bs.map .bool)) (r := .tuple (cs.map .bool)) (n := 1) (m := 1) (by show (toPL _).map _ = _; rw [toPL_map (g := PyData.bool) (fun _ => rfl)]; rfl) (by show (toPL _).map _ = _; rw [toPL_map (g := PyData.bool) (fun _ => rfl)]; rfl) (lays_tup (fun _ => lays_bl) _) (lays_tup (fun _ => lays_bl) _)
@[simp] theorem eq_int : gEq (.int i) (.int j) = .ok (.bl (decide (i = j))) := gEq_of eqD_int
@[simp] theorem ne_int : gNe (.int i) (.int j) = .ok (.bl (!decide (i = j))) := gNe_of eqD_int
@[simp] theorem eq_ints {o' : Bool} {ns ms : List Int} : gEq (.lst o (ns.map .int)) (.lst o' (ms.map .int)) = .ok (.bl (decide (ns = ms))) := gEq_of eqD_ints
@[simp] theorem ne_ints {o' : Bool} {ns ms : List Int} : gNe (.lst o (ns.map .int)) (.lst o' (ms.map .int)) = .ok (.bl (!decide (ns = ms))) := gNe_of eqD_ints
@[simp] theorem ne_bls {bs cs : List Bool} : gNe (.tup (bs.map .bl)) (.tup (cs.map .bl)) = .ok (.bl (!decide (bs = cs))) := gNe_of eqD_bls
@[simp] theorem is_none_int : gIs (.int i) .non = .ok (.bl false) := (rfl)
@[simp] theorem is_none_none : gIs .non .non = .ok (.bl true) := (rfl)
/-! ### subscripts -/
theorem ix_lst {k : Nat} {d : D} {r : RV} (h : xs[k]? = some d) (hn : noOwn d = true) (hi : ixN xs.length j = some k) : ixR r (.lst o xs) (.int j) = .ok (.val d) := by
  unfold ixR leafIx
  simp only [childIx, hi]
  unfold down
  simp only [kids, h, hn]
  rfl
theorem ix_tup {k : Nat} {d : D} {r : RV} (h : xs[k]? = some d) (hn : noOwn d = true) (hi : ixN xs.length j = some k) : ixR r (.tup xs) (.int j) = .ok (.val d) := by
  unfold ixR leafIx
  simp only [childIx, hi]
  unfold down
  simp only [kids, h, hn]
  rfl
end
section
variable {ρ ρ' : Ev} {i j : Nat} {d : D} {fx : Ev → Res (D × Ev)} {fk fa : Ev → Res RV}
theorem place0 : placeD ρ j [] = (match ρ[j]? with
  | some (.val d) => if noOwn d then none else some (d, d)
  | _ => none) := by
  unfold placeD
  cases ρ[j]? with
  | none => rfl
  | some s => cases s <;> rfl
@[simp] theorem e_takeMl : takeM ρ (.lv j []) = (match ρ[j]? with
  | some (.val d) => if noOwn d then .bad else .ok (d, ρ.set j (.val .dead))
  | _ => .bad) := by
  show (match placeD ρ j [] with
    | some (dj, d) => Res.ok (d, ρ.set j (.val (setP dj [] .dead)))
    | none => .bad) = _
  rw [place0]
  cases ρ[j]? with
  | none => rfl
  | some s =>
    cases s with
    | none => rfl
    | val d => simp only; cases noOwn d <;> rfl
@[simp] theorem e_takeFl : takeF ρ (.lv j []) = (match ρ[j]? with
  | some (.val d) => if noOwn d then .bad else .ok (frz d, ρ.set j (.val (frz d)))
  | _ => .bad) := by
  show (match placeD ρ j [] with
    | some (dj, d) => Res.ok (frz d, ρ.set j (.val (setP dj [] (frz d))))
    | none => .bad) = _
  rw [place0]
  cases ρ[j]? with
  | none => rfl
  | some s =>
    cases s with
    | none => rfl
    | val d => simp only; cases noOwn d <;> rfl
@[simp] theorem e_lookDl : lookD ρ (.lv j []) = (match ρ[j]? with
  | some (.val d) => if noOwn d then .bad else .ok d
  | _ => .bad) := by
  show (match ρ[j]? with
    | some (.val d) => (match getP d [] with
      | some d' => if noOwn d' then Res.bad else .ok d'
      | none => .bad)
    | _ => .bad) = _
  cases ρ[j]? with
  | none => rfl
  | some s => cases s <;> rfl
theorem app_is {xs xs0 : List D} (h : ρ[i]? = some (.val (.lst true xs0))) (hx : fx ρ = .ok (d, ρ')) (h' : ρ'[i]? = some (.val (.lst true xs))) (hl : xs.length < 1000000) : dApp i fx ρ = .ok (.nx (ρ'.set i (.val (.lst true (xs ++ [d]))))) := by
  have hz : xs.length < sizeLine := by rw [sizeLine_eq]; omega
  unfold dApp
  rw [h]
  simp only [hx, ok_bind, h', if_pos hz]
theorem put_is {x d' k : D} (hx : fx ρ = .ok (x, ρ')) (h' : ρ'[i]? = some (.val d)) (hn : noOwn d = false) (hk : fk ρ' = .ok (.val k)) (hp : putAt d k x = some d') : dPut i fk fx ρ = .ok (.nx (ρ'.set i (.val d'))) := by
  unfold dPut
  simp [hx, h', hn, hk, hp]
end
end Dl
set_option Elab.async false
set_option linter.all false
set_option maxRecDepth 100000
set_option maxHeartbeats 1000000
/- plain layer 1: loops by invariants. -/
namespace Dl
open PySem L2
section
variable {h : D → Ev → Option Ev} {f : Ev → Res Out} {c : Ev → Res Bool}
/-- a loop that may return -/
theorem forL_gen (I : Nat → Ev → Prop) (R : Nat → D → Prop) : ∀ (ds : List D) (i : Nat) (ρ : Ev), I i ρ →
    (∀ k d ρ, ds[k]? = some d → I (i + k) ρ → ∃ ρ1, h d ρ = some ρ1 ∧ ((∃ x, f ρ1 = .ok (.rt x) ∧ R (i + k) x) ∨ ∃ ρ2, (f ρ1 = .ok (.nx ρ2) ∨ f ρ1 = .ok (.ct ρ2)) ∧ I (i + k + 1) ρ2)) →
    (∃ x k, k < ds.length ∧ forL h f ds ρ = .ok (.rt x) ∧ R (i + k) x) ∨ ∃ ρ', forL h f ds ρ = .ok (.nx ρ') ∧ I (i + ds.length) ρ'
  | [], i, ρ, h0, _ => .inr ⟨ρ, rfl, h0⟩
  | d :: ds, i, ρ, h0, st => by
    obtain ⟨ρ1, e1, q⟩ := st 0 d ρ rfl h0
    rcases q with ⟨x, e2, r⟩ | ⟨ρ2, e2, i2⟩
    · refine .inl ⟨x, 0, Nat.succ_pos _, ?_, r⟩
      rw [e_forL1, e1]
      simp [e2]
    · have e3 : forL h f (d :: ds) ρ = forL h f ds ρ2 := by
        rw [e_forL1, e1]
        rcases e2 with e2 | e2 <;> simp [e2]
      rw [e3]
      have n1 : ∀ k, i + 1 + k = i + (k + 1) := fun k => by omega
      rcases forL_gen I R ds (i + 1) ρ2 i2 (fun k d ρ hk hi => by
        have := st (k + 1) d ρ (by simpa using hk) (by rw [← n1]; exact hi)
        rw [← n1] at this
        exact this) with ⟨x, k, hk, e4, r⟩ | ⟨ρ', e4, r⟩
      · exact .inl ⟨x, k + 1, Nat.succ_lt_succ hk, e4, by rw [← n1]; exact r⟩
      · exact .inr ⟨ρ', e4, by rw [List.length_cons, ← n1]; exact r⟩
/-- a loop that only goes on -/
theorem forL_inv (I : Nat → Ev → Prop) {ds : List D} {ρ : Ev} (h0 : I 0 ρ) (st : ∀ k d ρ, ds[k]? = some d → I k ρ → ∃ ρ1, h d ρ = some ρ1 ∧ ∃ ρ2, (f ρ1 = .ok (.nx ρ2) ∨ f ρ1 = .ok (.ct ρ2)) ∧ I (k + 1) ρ2) : ∃ ρ', forL h f ds ρ = .ok (.nx ρ') ∧ I ds.length ρ' := by
  rcases forL_gen (h := h) (f := f) I (fun _ _ => False) ds 0 ρ h0 (fun k d ρ hk hi => by
    rw [Nat.zero_add] at hi ⊢
    obtain ⟨ρ1, e1, q⟩ := st k d ρ hk hi
    exact ⟨ρ1, e1, .inr q⟩) with ⟨x, k, _, _, r⟩ | ⟨ρ', e, r⟩
  · exact r.elim
  · exact ⟨ρ', e, by rw [Nat.zero_add] at r; exact r⟩
theorem while_inv (I : Nat → Ev → Prop) (Post : Ev → Prop) (st : ∀ m ρ, I m ρ → (c ρ = .ok false ∧ Post ρ) ∨ (c ρ = .ok true ∧ ∃ ρ2 m2, (f ρ = .ok (.nx ρ2) ∨ f ρ = .ok (.ct ρ2)) ∧ I m2 ρ2 ∧ m2 < m)) :
    ∀ (n m : Nat) (ρ : Ev), m < n → I m ρ → ∃ ρ', whileL c f n ρ = .ok (.nx ρ') ∧ Post ρ'
  | 0, m, ρ, hn, _ => absurd hn (Nat.not_lt_zero _)
  | n + 1, m, ρ, hn, hi => by
    rcases st m ρ hi with ⟨e1, p⟩ | ⟨e1, ρ2, m2, e2, i2, hm⟩
    · exact ⟨ρ, by unfold whileL; simp [e1], p⟩
    · obtain ⟨ρ', e3, p⟩ := while_inv I Post st n m2 ρ2 (by omega) i2
      refine ⟨ρ', ?_, p⟩
      unfold whileL
      rcases e2 with e2 | e2 <;> simp [e1, e2, e3]
theorem dWhile_inv (I : Nat → Ev → Prop) (Post : Ev → Prop) (st : ∀ m ρ, I m ρ → (c ρ = .ok false ∧ Post ρ) ∨ (c ρ = .ok true ∧ ∃ ρ2 m2, (f ρ = .ok (.nx ρ2) ∨ f ρ = .ok (.ct ρ2)) ∧ I m2 ρ2 ∧ m2 < m)) {ρ : Ev} {m : Nat} (hi : I m ρ) : ∃ ρ', dWhile c f ρ = .ok (.nx ρ') ∧ Post ρ' := by
  obtain ⟨ρ', e, p⟩ := while_inv I Post st (m + 1) m ρ (Nat.lt_succ_self _) hi
  exact ⟨ρ', dWhile_is e (by intro z; cases z), p⟩
end
/-! ### ranges, indices -/
theorem ixN_of {n k : Nat} (h : k < n) : ixN n (k : Int) = some k := by
  unfold ixN
  simp
  omega
theorem rangeD_get {lo hi : Int} {k : Nat} {d : D} (h : (rangeD lo hi)[k]? = some d) : d = .int (lo + (k : Int)) ∧ k < (hi - lo).toNat := by
  unfold rangeD at h
  rw [List.getElem?_map] at h
  obtain ⟨c, hc, e⟩ := Option.map_eq_some_iff.mp h
  have hl : k < (hi - lo).toNat := by simpa using (List.getElem?_eq_some_iff.mp hc).1
  rw [List.getElem?_range hl] at hc
  cases hc
  exact ⟨e.symm, hl⟩
theorem rangeD_len {lo hi : Int} : (rangeD lo hi).length = (hi - lo).toNat := by simp [rangeD]
theorem ran1 {j : Int} (h : -4611686018427387904 ≤ j ∧ j < 4611686018427387904) : ranD [.val (.int j)] = some (rangeD 0 j) := by
  show (if clD (-(2 ^ 62) ≤ j ∧ j < 2 ^ 62) then some (rangeD 0 j) else none) = _
  rw [if_pos (clD_of (by omega))]
theorem ran1n {n : Nat} (h : n < 4611686018427387904) : ranD [.val (.int (n : Int))] = some (rangeD 0 n) := ran1 (by omega)
theorem ran2 {i j : Int} (h : -4611686018427387904 ≤ i ∧ i < 4611686018427387904 ∧ -4611686018427387904 ≤ j ∧ j < 4611686018427387904) : ranD [.val (.int i), .val (.int j)] = some (rangeD i j) := by
  show (if clD (-(2 ^ 62) ≤ i ∧ i < 2 ^ 62 ∧ -(2 ^ 62) ≤ j ∧ j < 2 ^ 62) then some (rangeD i j) else none) = _
  rw [if_pos (clD_of (by omega))]
end Dl
set_option Elab.async false
set_option linter.all false
set_option maxRecDepth 100000
set_option maxHeartbeats 1000000
namespace Dl
open PySem L2
/-! ### machines -/
abbrev Pr := List Bool × Int
abbrev Mst := List Pr
def prD (p : Pr) : D := .tup [.tup (p.1.map .bl), .int p.2]
def stD (s : Mst) : D := .lst false (s.map prD)
def stsD (S : List Mst) : D := .lst false (S.map stD)
def mcD (many wide : Int) (S : List Mst) : D := .tup [.int many, .int wide, stsD S]
@[simp] theorem n_bls {bs : List Bool} : noOwnL (bs.map .bl) = true := n_map fun _ => rfl
@[simp] theorem n_ints {bs : List Int} : noOwnL (bs.map .int) = true := n_map fun _ => rfl
@[simp] theorem n_prD {p : Pr} : noOwn (prD p) = true := by simp [prD]
@[simp] theorem n_stD {s : Mst} : noOwn (stD s) = true := by simpa [stD] using n_map (f := prD) fun _ => n_prD
@[simp] theorem n_stsD {S : List Mst} : noOwn (stsD S) = true := by simpa [stsD] using n_map (f := stD) fun _ => n_stD
@[simp] theorem n_mcD {a b : Int} {S : List Mst} : noOwn (mcD a b S) = true := by simp [mcD]
@[simp] theorem f_prD {p : Pr} : frz (prD p) = prD p := frz_noOwn _ n_prD
@[simp] theorem f_stD {s : Mst} : frz (stD s) = stD s := frz_noOwn _ n_stD
@[simp] theorem f_stsD {s : List Mst} : frz (stsD s) = stsD s := frz_noOwn _ n_stsD
@[simp] theorem f_mcD {a b : Int} {S : List Mst} : frz (mcD a b S) = mcD a b S := frz_noOwn _ n_mcD
@[simp] theorem len_stD {s : Mst} : gLen [stD s] = .ok (.int s.length) := by simp [stD]
@[simp] theorem len_stsD {s : List Mst} : gLen [stsD s] = .ok (.int s.length) := by simp [stsD]
@[simp] theorem ix_pr0 {p : Pr} {r : RV} : ixR r (prD p) (.int 0) = .ok (.val (.tup (p.1.map .bl))) := ix_tup (k := 0) rfl (by simp) rfl
@[simp] theorem ix_pr1 {p : Pr} {r : RV} : ixR r (prD p) (.int 1) = .ok (.val (.int p.2)) := ix_tup (k := 1) rfl (by simp) rfl
theorem ix_st {s : Mst} {r : RV} {k : Nat} (h : k < s.length) : ixR r (stD s) (.int (k : Int)) = .ok (.val (prD s[k])) := ix_lst (k := k) (by simp [h]) n_prD (ixN_of (by simpa using h))
theorem ix_sts {s : List Mst} {r : RV} {k : Nat} (h : k < s.length) : ixR r (stsD s) (.int (k : Int)) = .ok (.val (stD s[k])) := ix_lst (k := k) (by simp [h]) n_stD (ixN_of (by simpa using h))
/-! ### unlike_row -/
def unl (a b : Mst) (k : Nat) : Bool := decide ((a.getD k default).1 ≠ (b.getD k default).1)
def small (n : Nat) : Prop := n < 1000
theorem getD_eq {α : Type} [Inhabited α] {l : List α} {k : Nat} (h : k < l.length) : l.getD k default = l[k] := by
  rw [List.getD_eq_getElem?_getD, List.getElem?_eq_getElem h]; rfl
theorem unl_at {a b : Mst} {k : Nat} (h1 : k < a.length) (h2 : k < b.length) : unl a b k = decide (a[k].1 ≠ b[k].1) := by
  unfold unl
  rw [getD_eq h1, getD_eq h2]
theorem unlike_row_is {a b : Mst} (hl : b.length = a.length) (hs : small a.length) :
    (∃ k, k < a.length ∧ unl a b k = true ∧ (∀ j, j < k → unl a b j = false) ∧ m_unlike_row [stD a, stD b] = .ok (.int (k : Int))) ∨ ((∀ k, k < a.length → unl a b k = false) ∧ m_unlike_row [stD a, stD b] = .ok .non) := by
  unfold small at hs
  have hr : ranD [.val (.int (a.length : Int))] = some (rangeD 0 a.length) := ran1n (by omega)
  have key := forL_gen (h := hN 2) (f := dIf (dTst (dBin gNe (dIx (dIx (dVar 0) (dVar 2)) (dC (.int 0))) (dIx (dIx (dVar 1) (dVar 2)) (dC (.int 0))))) (dRet (dXm (dVar 2))) dNext)
    (fun k ρ => (∃ x, ρ = [.val (stD a), .val (stD b), x]) ∧ ∀ j, j < k → unl a b j = false) (fun k x => x = .int (k : Int) ∧ unl a b k = true ∧ ∀ j, j < k → unl a b j = false) (rangeD 0 a.length) 0 [.val (stD a), .val (stD b), .none] ⟨⟨_, rfl⟩, fun j hj => absurd hj (Nat.not_lt_zero _)⟩ ?_
  · rcases key with ⟨x, k, hk, e, e2, e3, e4⟩ | ⟨ρ', e, ⟨x, rfl⟩, e2⟩
    · rw [rangeD_len] at hk
      subst e2
      rw [Nat.zero_add] at e3 e4 e
      refine .inl ⟨k, by omega, e3, e4, ?_⟩
      simp [m_unlike_row, e_dDef, b_unlike_row, hr, e]
    · rw [rangeD_len] at e2
      refine .inr ⟨fun k hk => e2 k (by omega), ?_⟩
      simp [m_unlike_row, e_dDef, b_unlike_row, hr, e]
  · rintro k d ρ hk ⟨⟨x, rfl⟩, hj⟩
    obtain ⟨rfl, hk2⟩ := rangeD_get hk
    have hk3 : k < a.length := by omega
    have hk4 : k < b.length := by omega
    rw [Nat.zero_add] at hj ⊢
    refine ⟨_, rfl, ?_⟩
    have e0 : (0 : Int) + (k : Int) = (k : Int) := by omega
    rw [e0]
    simp only [List.set_cons_succ, List.set_cons_zero]
    by_cases c : a[k].1 = b[k].1
    · refine .inr ⟨[.val (stD a), .val (stD b), .val (.int (k : Int))], .inl ?_, ⟨_, rfl⟩, fun j hjk => ?_⟩
      · simp [ix_st hk3, ix_st hk4, c]
      · rcases Nat.lt_succ_iff_lt_or_eq.mp hjk with z | z
        · exact hj j z
        · rw [z, unl_at hk3 hk4]; simp [c]
    · refine .inl ⟨.int (k : Int), ?_, rfl, by rw [unl_at hk3 hk4]; simp [c], hj⟩
      simp [ix_st hk3, ix_st hk4, c]
/-! ### the dict of what parts two states -/
abbrev K2 := Int × Int
abbrev Fd := List (K2 × (Bool × List Int))
def kE (k : K2) : List Key := [.inl k.1, .inl k.2]
def pE (k : K2) : D := .tup [.int k.1, .int k.2]
def vE (e : K2 × (Bool × List Int)) : D := .lst e.2.1 (e.2.2.map .int)
def dF (o : Bool) (F : Fd) : D := .dt o (F.map fun e => kE e.1) (F.map vE)
def fz (F : Fd) : Fd := F.map fun e => (e.1, (false, e.2.2))
def look (F : Fd) (k : K2) : Option (List Int) := match F with
  | [] => none
  | e :: F => if e.1 = k then some e.2.2 else look F k
theorem look_fz (F : Fd) (k : K2) : look (fz F) k = look F k := by
  induction F with
  | nil => rfl
  | cons e F ih =>
    show (if e.1 = k then some e.2.2 else look (fz F) k) = if e.1 = k then some e.2.2 else look F k
    rw [ih]
theorem fz_fz (F : Fd) : fz (fz F) = fz F := by unfold fz; rw [List.map_map]; rfl
theorem frz_dF (o : Bool) (F : Fd) : frz (dF o F) = dF false (fz F) := by
  unfold dF fz
  rw [f_dt, f_map, List.map_map, List.map_map]
  congr 1
  · apply List.map_congr_left
    intro e _
    simp [vE, f_map]
@[simp] theorem n_dF (F : Fd) : noOwn (dF false (fz F)) = true := by
  unfold dF fz
  rw [n_dtF, List.map_map]
  exact n_map fun e => by simp [vE]
theorem kE_inj {k k' : K2} (h : kE k = kE k') : k = k' := by
  unfold kE at h
  injection h with h1 h2
  injection h2 with h2
  injection h1 with h1
  injection h2 with h2
  exact Prod.ext h1 h2
theorem pos_look (F : Fd) (k : K2) : (look F k = none ∧ posK (F.map fun e => kE e.1) (kE k) = none) ∨ ∃ j e, posK (F.map fun e => kE e.1) (kE k) = some j ∧ F[j]? = some e ∧ e.1 = k ∧ look F k = some e.2.2 := by
  induction F with
  | nil => exact .inl ⟨rfl, rfl⟩
  | cons e F ih =>
    have hp : posK (((e :: F).map fun e => kE e.1)) (kE k) = if kE e.1 = kE k then some 0 else (posK (F.map fun e => kE e.1) (kE k)).map (· + 1) := rfl
    by_cases c : e.1 = k
    · refine .inr ⟨0, e, by rw [hp, if_pos (by rw [c])], rfl, c, ?_⟩
      show (if e.1 = k then some e.2.2 else look F k) = _
      rw [if_pos c]
    · have c' : ¬ kE e.1 = kE k := fun z => c (kE_inj z)
      have hl : look (e :: F) k = look F k := by
        show (if e.1 = k then some e.2.2 else look F k) = _
        rw [if_neg c]
      rcases ih with ⟨h1, h2⟩ | ⟨j, e', h1, h2, h3, h4⟩
      · exact .inl ⟨by rw [hl, h1], by rw [hp, if_neg c', h2]; rfl⟩
      · exact .inr ⟨j + 1, e', by rw [hp, if_neg c', h1]; rfl, by simpa using h2, h3, by rw [hl, h4]⟩
theorem in_dF (o : Bool) (F : Fd) (k : K2) : gIn (pE k) (dF o F) = .ok (.bl (look F k).isSome) := by
  have h : inD (pE k) (dF o F) = some ((look F k).isSome) := by
    show (some (kE k)).map (fun y => (posK (F.map fun e => kE e.1) y).isSome) = _
    rcases pos_look F k with ⟨h1, h2⟩ | ⟨j, e, h1, _, _, h4⟩
    · simp [h1, h2]
    · simp [h1, h4]
  unfold gIn
  rw [h]
theorem notin_dF (o : Bool) (F : Fd) (k : K2) : gNotIn (pE k) (dF o F) = .ok (.bl (!(look F k).isSome)) := by
  have h : inD (pE k) (dF o F) = some ((look F k).isSome) := by
    show (some (kE k)).map (fun y => (posK (F.map fun e => kE e.1) y).isSome) = _
    rcases pos_look F k with ⟨h1, h2⟩ | ⟨j, e, h1, _, _, h4⟩
    · simp [h1, h2]
    · simp [h1, h4]
  unfold gNotIn
  rw [h]
theorem ix_dF {F : Fd} {k : K2} {rows : List Int} {r : RV} (h : look F k = some rows) : ixR r (dF false (fz F)) (pE k) = .ok (.val (.lst false (rows.map .int))) := by
  rw [← look_fz] at h
  rcases pos_look (fz F) k with ⟨h1, _⟩ | ⟨j, e, h1, h2, _, h4⟩
  · rw [h] at h1; cases h1
  · rw [h] at h4
    cases h4
    have hc : childIx (dF false (fz F)) (pE k) = some j := h1
    have hk : (kids (dF false (fz F)))[j]? = some (vE e) := by
      show ((fz F).map vE)[j]? = _
      rw [List.getElem?_map, h2]; rfl
    have hf : e.2.1 = false := by
      have hm := List.mem_of_getElem? h2
      unfold fz at hm
      obtain ⟨x, _, ex⟩ := List.mem_map.mp hm
      rw [← ex]
    have hl : leafIx (dF false (fz F)) (pE k) = none := rfl
    unfold ixR
    rw [hl, hc]
    unfold down
    simp only [hk]
    simp [vE, hf]
theorem get2_dF {F : Fd} {k : K2} : getD2 (dF false (fz F)) (pE k) .non = some (match look F k with
    | some rows => .lst false (rows.map .int)
    | none => .non) := by
  have hn : noOwnL ((fz F).map vE) = true := by
    have := n_dF F
    exact this
  show (if noOwnL ((fz F).map vE) && noOwn .non then (some (kE k)).map (fun y => ((posK ((fz F).map fun e => kE e.1) y).bind fun j => ((fz F).map vE)[j]?).getD .non) else none) = _
  rw [hn]
  simp only [n_non, Bool.and_self, if_true, Option.map_some]
  rcases pos_look (fz F) k with ⟨h1, h2⟩ | ⟨j, e, h1, h2, _, h4⟩
  · rw [look_fz] at h1
    rw [h1, h2]; rfl
  · rw [look_fz] at h4
    rw [h4, h1]
    have hf : e.2.1 = false := by
      have hm := List.mem_of_getElem? h2
      unfold fz at hm
      obtain ⟨x, _, ex⟩ := List.mem_map.mp hm
      rw [← ex]
    simp [h2, vE, hf]
/-! ### later_rows -/
def succ (a b : Mst) (j : Nat) : K2 := (if (b.getD j default).2 < (a.getD j default).2 then (b.getD j default).2 else (a.getD j default).2, if (b.getD j default).2 > (a.getD j default).2 then (b.getD j default).2 else (a.getD j default).2)
theorem succ_at {a b : Mst} {k : Nat} (h1 : k < a.length) (h2 : k < b.length) : succ a b k = (if b[k].2 < a[k].2 then b[k].2 else a[k].2, if b[k].2 > a[k].2 then b[k].2 else a[k].2) := by
  unfold succ
  rw [getD_eq h1, getD_eq h2]
theorem add_one_list {k : Int} {rows : List Int} (h : rows.length < 10000) : gAdd (.lst true [.int k]) (.lst false (rows.map .int)) = .ok (.lst true ((k :: rows).map .int)) := by
  unfold gAdd
  have hf : fits ([D.int k].length + (rows.map D.int).length) = true := fits_of (by simp; omega)
  simp [hf]
  have hf : fits (rows.length + 1) = true := fits_of (by omega)
  simpa [Nat.add_comm] using hf
theorem later_rows_is {a b : Mst} {F : Fd} (hl : b.length = a.length) (hs : small a.length) (hF : ∀ k rows, look F k = some rows → rows.length < 10000) :
    (∃ k rows, k < a.length ∧ look F (succ a b k) = some rows ∧ (∀ j, j < k → look F (succ a b j) = none) ∧ m_later_rows [stD a, stD b, dF false (fz F)] = .ok (.lst true (((k : Int) :: rows).map .int))) ∨
      ((∀ k, k < a.length → look F (succ a b k) = none) ∧ m_later_rows [stD a, stD b, dF false (fz F)] = .ok .non) := by
  unfold small at hs
  have hr : ranD [.val (.int (a.length : Int))] = some (rangeD 0 a.length) := ran1n (by omega)
  have key := forL_gen (h := hN 3) (f := (dSeq (dSet 4 (dXf (dFn gMin2 (dCons (dIx (dIx (dVar 0) (dVar 3)) (dC (.int 1))) (dCons (dIx (dIx (dVar 1) (dVar 3)) (dC (.int 1))) dNil)))))
    (dSeq (dSet 5 (dXf (dFn gMax2 (dCons (dIx (dIx (dVar 0) (dVar 3)) (dC (.int 1))) (dCons (dIx (dIx (dVar 1) (dVar 3)) (dC (.int 1))) dNil)))))
    (dIf (dTst (dBin gIn (dTup (dCons (dVar 4) (dCons (dVar 5) dNil))) (dVar 2))) (dRet (dXm (dBin gAdd (dLst (dCons (dVar 3) dNil)) (dIx (dVar 2) (dTup (dCons (dVar 4) (dCons (dVar 5) dNil))))))) dNext))))
    (fun k ρ => (∃ x y z, ρ = [.val (stD a), .val (stD b), .val (dF false (fz F)), x, y, z]) ∧ ∀ j, j < k → look F (succ a b j) = none) (fun k x => ∃ rows, x = .lst true (((k : Int) :: rows).map .int) ∧ look F (succ a b k) = some rows ∧ ∀ j, j < k → look F (succ a b j) = none)
    (rangeD 0 a.length) 0 [.val (stD a), .val (stD b), .val (dF false (fz F)), .none, .none, .none] ⟨⟨_, _, _, rfl⟩, fun j hj => absurd hj (Nat.not_lt_zero _)⟩ ?_
  · rcases key with ⟨x, k, hk, e, rows, e2, e3, e4⟩ | ⟨ρ', e, ⟨x, y, z, rfl⟩, e2⟩
    · rw [rangeD_len] at hk
      subst e2
      rw [Nat.zero_add] at e3 e4 e
      refine .inl ⟨k, rows, by omega, e3, e4, ?_⟩
      simp [m_later_rows, e_dDef, b_later_rows, hr, e]
    · rw [rangeD_len] at e2
      refine .inr ⟨fun k hk => e2 k (by omega), ?_⟩
      simp [m_later_rows, e_dDef, b_later_rows, hr, e]
  · rintro k d ρ hk ⟨⟨x, y, z, rfl⟩, hj⟩
    obtain ⟨rfl, hk2⟩ := rangeD_get hk
    have hk3 : k < a.length := by omega
    have hk4 : k < b.length := by omega
    rw [Nat.zero_add] at hj ⊢
    refine ⟨_, rfl, ?_⟩
    have e0 : (0 : Int) + (k : Int) = (k : Int) := by omega
    rw [e0]
    simp only [List.set_cons_succ, List.set_cons_zero]
    have hs := succ_at hk3 hk4
    have hin := in_dF false (fz F) (succ a b k)
    rw [look_fz] at hin
    have hp : pE (succ a b k) = .tup [.int (succ a b k).1, .int (succ a b k).2] := rfl
    rw [hp, hs] at hin
    cases c : look F (succ a b k) with
    | none =>
      have c2 := c
      rw [hs] at c2
      rw [c2] at hin
      refine .inr ⟨[.val (stD a), .val (stD b), .val (dF false (fz F)), .val (.int (k : Int)), .val (.int (succ a b k).1), .val (.int (succ a b k).2)], .inl ?_, ⟨_, _, _, rfl⟩, fun j hjk => ?_⟩
      · simp [ix_st hk3, ix_st hk4, hin, hs]
      · rcases Nat.lt_succ_iff_lt_or_eq.mp hjk with z | z
        · exact hj j z
        · rw [z]; exact c
    | some rows =>
      have c2 := c
      rw [hs] at c2
      rw [c2] at hin
      have hix := ix_dF (r := .val (dF false (fz F))) c
      rw [hp, hs] at hix
      have hadd := add_one_list (k := (k : Int)) (hF _ _ c)
      refine .inl ⟨_, ?_, rows, rfl, rfl, hj⟩
      simp [ix_st hk3, ix_st hk4, hin, hix, hadd]
/-! ### parted_at_once -/
@[simp] theorem n_dFT (F : Fd) : noOwn (dF true F) = false := (rfl)
@[simp] theorem n_pE (k : K2) : noOwn (pE k) = true := (rfl)
@[simp] theorem f_pE (k : K2) : frz (pE k) = pE k := (rfl)
theorem put_dF {F : Fd} {k : K2} {o : Bool} {rows : List Int} (h : look F k = none) (hl : F.length < 1000000) : putAt (dF true F) (pE k) (.lst o (rows.map .int)) = some (dF true (F ++ [(k, (o, rows))])) := by
  have hz : (F.map fun e => kE e.1).length < sizeLine := by rw [sizeLine_eq, List.length_map]; omega
  show (if (F.map fun e => kE e.1).length < sizeLine then (some (kE k)).map (fun y => D.dt true (putKs (F.map fun e => kE e.1) (F.map vE) y (.lst o (rows.map .int))).1 (putKs (F.map fun e => kE e.1) (F.map vE) y (.lst o (rows.map .int))).2) else none) = _
  rw [if_pos hz]
  rcases pos_look F k with ⟨_, h2⟩ | ⟨j, e, _, _, _, h4⟩
  · unfold putKs
    simp only [Option.map_some, h2]
    unfold dF
    simp [vE]
  · rw [h] at h4; cases h4
theorem look_app {F G : Fd} {k : K2} : look (F ++ G) k = match look F k with
    | some r => some r
    | none => look G k := by
  induction F with
  | nil => rfl
  | cons e F ih =>
    show (if e.1 = k then some e.2.2 else look (F ++ G) k) = (match (if e.1 = k then some e.2.2 else look F k) with
      | some r => some r
      | none => look G k)
    by_cases c : e.1 = k
    · rw [if_pos c, if_pos c]
    · rw [if_neg c, if_neg c, ih]
theorem look_one {k k' : K2} {o : Bool} {rows : List Int} : look [(k, (o, rows))] k' = if k = k' then some rows else none := rfl
theorem look_mem {F : Fd} {k : K2} : look F k = none ↔ k ∉ F.map (·.1) := by
  induction F with
  | nil => simp [look]
  | cons e F ih =>
    show (if e.1 = k then some e.2.2 else look F k) = none ↔ _
    by_cases c : e.1 = k
    · rw [if_pos c]; simp [c]
    · rw [if_neg c, ih]
      simp [show ¬ k = e.1 from fun z => c z.symm]
def stA (S : List Mst) (i : Int) : Mst := S.getD i.toNat default
def Valid (n : Nat) (k : K2) : Prop := 0 ≤ k.1 ∧ k.1 < k.2 ∧ k.2 < n
def FirstU (S : List Mst) (k : K2) (m : Int) : Prop := ∃ j : Nat, m = j ∧ j < (stA S k.1).length ∧ unl (stA S k.1) (stA S k.2) j = true ∧ ∀ i, i < j → unl (stA S k.1) (stA S k.2) i = false
def NoU (S : List Mst) (k : K2) : Prop := ∀ j, j < (stA S k.1).length → unl (stA S k.1) (stA S k.2) j = false
structure Part (S : List Mst) (done : K2 → Prop) (F : Fd) (left : List K2) (B : Nat) : Prop where
  nodF : (F.map (·.1)).Nodup
  nodL : left.Nodup
  cnt : F.length + left.length ≤ B
  fnd : ∀ k rows, look F k = some rows → done k ∧ ∃ m, rows = [m] ∧ FirstU S k m
  lft : ∀ k ∈ left, done k ∧ NoU S k ∧ look F k = none
  all : ∀ k, done k → (look F k).isSome = true ∨ k ∈ left
/-- machines of a size that a law draws -/
structure Sized (S : List Mst) (R : Nat) : Prop where
  n : S.length ≤ 90
  r : R ≤ 100
  len : ∀ s ∈ S, s.length = R
theorem stA_at {S : List Mst} {i : Nat} (h : i < S.length) : stA S (i : Int) = S[i] := by
  unfold stA
  rw [Int.toNat_natCast]
  exact getD_eq h
theorem Part.found {S : List Mst} {done done' : K2 → Prop} {F : Fd} {left : List K2} {B : Nat} (p : Part S done F left B) {k : K2} {m : Int} {o : Bool} (hk : ¬ done k) (hf : FirstU S k m) (hd : ∀ k', done' k' ↔ done k' ∨ k' = k) : Part S done' (F ++ [(k, (o, [m]))]) left (B + 1) := by
  have hl : look F k = none := by
    cases e : look F k with
    | none => rfl
    | some r => exact absurd (p.fnd k r e).1 hk
  refine ⟨?_, p.nodL, by rw [List.length_append]; simp; have := p.cnt; omega, fun k' rows h => ?_, fun k' hk' => ?_, fun k' h => ?_⟩
  · rw [List.map_append]
    refine List.nodup_append.mpr ⟨p.nodF, by simp, fun a ha b hb e => ?_⟩
    have : b = k := by simpa using hb
    rw [e, this] at ha
    exact look_mem.mp hl ha
  · rw [look_app] at h
    cases e : look F k' with
    | some r =>
      rw [e] at h
      cases h
      obtain ⟨h1, h2⟩ := p.fnd k' _ e
      exact ⟨(hd k').mpr (.inl h1), h2⟩
    | none =>
      rw [e] at h
      have h : (if k = k' then some [m] else none) = some rows := h
      split at h
      · rename_i ek
        cases h
        subst ek
        exact ⟨(hd k).mpr (.inr rfl), m, rfl, hf⟩
      · cases h
  · obtain ⟨h1, h2, h3⟩ := p.lft k' hk'
    refine ⟨(hd k').mpr (.inl h1), h2, ?_⟩
    rw [look_app, h3]
    show (if k = k' then some [m] else none) = none
    rw [if_neg (show ¬ k = k' from fun e => hk (by rw [e]; exact h1))]
  · rcases (hd k').mp h with h | h
    · rcases p.all k' h with h | h
      · refine .inl ?_
        rw [look_app]
        cases e : look F k' with
        | none => rw [e] at h; cases h
        | some r => rfl
      · exact .inr h
    · subst h
      refine .inl ?_
      rw [look_app, hl]
      show (if k' = k' then some [m] else none).isSome = true
      rw [if_pos rfl]; rfl
theorem Part.left {S : List Mst} {done done' : K2 → Prop} {F : Fd} {left : List K2} {B : Nat} (p : Part S done F left B) {k : K2} (hk : ¬ done k) (hf : NoU S k) (hd : ∀ k', done' k' ↔ done k' ∨ k' = k) : Part S done' F (left ++ [k]) (B + 1) := by
  have hl : look F k = none := by
    cases e : look F k with
    | none => rfl
    | some r => exact absurd (p.fnd k r e).1 hk
  refine ⟨p.nodF, ?_, by rw [List.length_append]; simp; have := p.cnt; omega, fun k' rows h => ?_, fun k' hk' => ?_, fun k' h => ?_⟩
  · refine List.nodup_append.mpr ⟨p.nodL, by simp, fun a ha b hb e => ?_⟩
    have : b = k := by simpa using hb
    rw [e, this] at ha
    exact hk (p.lft k ha).1
  · obtain ⟨h1, h2⟩ := p.fnd k' rows h
    exact ⟨(hd k').mpr (.inl h1), h2⟩
  · rcases List.mem_append.mp hk' with z | z
    · obtain ⟨h1, h2, h3⟩ := p.lft k' z
      exact ⟨(hd k').mpr (.inl h1), h2, h3⟩
    · have e : k' = k := by simpa using z
      subst e
      exact ⟨(hd k').mpr (.inr rfl), hf, hl⟩
  · rcases (hd k').mp h with h | h
    · rcases p.all k' h with h | h
      · exact .inl h
      · exact .inr (List.mem_append_left _ h)
    · exact .inr (by simp [h])
theorem Part.same {S : List Mst} {done done' : K2 → Prop} {F : Fd} {left : List K2} {B B' : Nat} (p : Part S done F left B) (hd : ∀ k, done' k ↔ done k) (hB : B ≤ B') : Part S done' F left B' :=
  ⟨p.nodF, p.nodL, Nat.le_trans p.cnt hB, fun k r h => let ⟨a, b⟩ := p.fnd k r h; ⟨(hd k).mpr a, b⟩, fun k h => let ⟨a, b⟩ := p.lft k h; ⟨(hd k).mpr a, b⟩, fun k h => p.all k ((hd k).mp h)⟩
theorem parted_is {S : List Mst} {R : Nat} (z : Sized S R) : ∃ F left, m_parted_at_once [stsD S] = .ok (.tup [dF true F, .lst true (left.map pE)]) ∧ Part S (Valid S.length) F left (S.length * S.length) := by
  have hn := z.n
  have hr : ranD [.val (.int (S.length : Int))] = some (rangeD 0 S.length) := ran1n (by omega)
  have key := forL_inv (h := hN 3) (f := (dFor (dKeep (dRan (dCons (dBin gAdd (dVar 3) (dC (.int 1))) (dCons (dFn gLen (dCons (dVar 0) dNil)) dNil)))) (hN 4) (dSeq (dSet 5 (dXf (dCall m_unlike_row (dCons (dIx (dVar 0) (dVar 3)) (dCons (dIx (dVar 0) (dVar 4)) dNil)))))
    (dIf (dTst (dBin gIs (dVar 5) (dC .non))) (dApp 2 (dXtup (dXcons (dXm (dVar 3)) (dXcons (dXm (dVar 4)) dXnil)))) (dPut 1 (dTup (dCons (dVar 3) (dCons (dVar 4) dNil))) (dXlst (dXcons (dXm (dVar 5)) dXnil)))))))
    (fun low ρ => ∃ F left x y w, ρ = [.val (stsD S), .val (dF true F), .val (.lst true (left.map pE)), x, y, w] ∧ Part S (fun k => Valid S.length k ∧ k.1 < low) F left (low * S.length)) (ds := rangeD 0 S.length) (ρ := [.val (stsD S), .val (dF true []), .val (.lst true []), .none, .none, .none])
    ⟨[], [], _, _, _, rfl, ⟨List.nodup_nil, List.nodup_nil, by simp, (fun k r h => by cases h), (fun k h => nomatch h), (fun k h => by obtain ⟨⟨h1, _⟩, h2⟩ := h; omega)⟩⟩ ?_
  · obtain ⟨ρ', e, F, left, x, y, w, rfl, p⟩ := key
    rw [rangeD_len] at p
    refine ⟨F, left, ?_, p.same (fun k => ⟨fun h => ⟨h, by have := h.2.2; have := h.2.1; omega⟩, fun h => h.1⟩) ?_⟩
    · have e : forL _ _ _ [.val (stsD S), .val (.dt true [] []), .val (.lst true []), .none, .none, .none] = _ := e
      simp [m_parted_at_once, e_dDef, b_parted_at_once, hr, e]
    · have : ((S.length : Int) - 0).toNat = S.length := by omega
      rw [this]
      exact Nat.le_refl _
  · rintro low d ρ hd ⟨F, left, x, y, w, rfl, p⟩
    obtain ⟨rfl, hlow⟩ := rangeD_get hd
    have hlow : low < S.length := by omega
    have e0 : (0 : Int) + (low : Int) = (low : Int) := by omega
    rw [e0]
    refine ⟨_, rfl, ?_⟩
    simp only [List.set_cons_succ, List.set_cons_zero]
    have hr2 : ranD [.val (.int ((low : Int) + 1)), .val (.int (S.length : Int))] = some (rangeD ((low : Int) + 1) S.length) := ran2 (by omega)
    have key := forL_inv (h := hN 4) (f := (dSeq (dSet 5 (dXf (dCall m_unlike_row (dCons (dIx (dVar 0) (dVar 3)) (dCons (dIx (dVar 0) (dVar 4)) dNil)))))
      (dIf (dTst (dBin gIs (dVar 5) (dC .non))) (dApp 2 (dXtup (dXcons (dXm (dVar 3)) (dXcons (dXm (dVar 4)) dXnil)))) (dPut 1 (dTup (dCons (dVar 3) (dCons (dVar 4) dNil))) (dXlst (dXcons (dXm (dVar 5)) dXnil))))))
      (fun i ρ => ∃ F left y w, ρ = [.val (stsD S), .val (dF true F), .val (.lst true (left.map pE)), .val (.int low), y, w] ∧ Part S (fun k => Valid S.length k ∧ (k.1 < low ∨ (k.1 = low ∧ k.2 < low + 1 + i))) F left (low * S.length + i)) (ds := rangeD ((low : Int) + 1) S.length) (ρ := [.val (stsD S), .val (dF true F), .val (.lst true (left.map pE)), .val (.int low), y, w])
      ⟨F, left, _, _, rfl, p.same (fun k => ⟨fun h => ⟨h.1, by rcases h.2 with z | z; exact z; have := h.1.2.1; omega⟩, fun h => ⟨h.1, .inl h.2⟩⟩) (Nat.le_refl _)⟩ ?_
    · obtain ⟨ρ', e, F', left', y', w', rfl, p'⟩ := key
      rw [rangeD_len] at p'
      refine ⟨[.val (stsD S), .val (dF true F'), .val (.lst true (left'.map pE)), .val (.int low), y', w'], .inl ?_, F', left', _, _, _, rfl, p'.same (fun k => ?_) ?_⟩
      · simp [hr2, e]
      · constructor
        · rintro ⟨h1, h2⟩
          refine ⟨h1, ?_⟩
          have := h1.2.2
          omega
        · rintro ⟨h1, h2⟩
          refine ⟨h1, ?_⟩
          omega
      · have : low * S.length + ((S.length : Int) - ((low : Int) + 1)).toNat ≤ low * S.length + S.length := by omega
        have e3 : (low + 1) * S.length = low * S.length + S.length := Nat.succ_mul _ _
        omega
    · rintro i d ρ hd ⟨F, left, y, w, rfl, p⟩
      obtain ⟨rfl, hi⟩ := rangeD_get hd
      obtain ⟨high, hh⟩ : ∃ high : Nat, high = low + 1 + i := ⟨_, rfl⟩
      have hhigh : high < S.length := by omega
      have e1 : ((low : Int) + 1) + (i : Int) = (high : Int) := by omega
      rw [e1]
      refine ⟨_, rfl, ?_⟩
      simp only [List.set_cons_succ, List.set_cons_zero]
      have hB : F.length + left.length < 1000000 := by
        have h1 := p.cnt
        have h2 : low * S.length ≤ 100 * 90 := Nat.mul_le_mul (by omega) hn
        omega
      have la : S[low].length = R := z.len _ (List.getElem_mem _)
      have lb : S[high].length = R := z.len _ (List.getElem_mem _)
      have ea := stA_at hlow
      have eb := stA_at hhigh
      have nd : ¬ (Valid S.length ((low : Int), (high : Int)) ∧ (((low : Int), (high : Int)).1 < (low : Int) ∨ (((low : Int), (high : Int)).1 = (low : Int) ∧ ((low : Int), (high : Int)).2 < (low : Int) + 1 + i))) := by
        rintro ⟨_, h⟩
        simp only at h
        omega
      have hd' : ∀ k' : K2, (Valid S.length k' ∧ (k'.1 < low ∨ (k'.1 = low ∧ k'.2 < (low : Int) + 1 + ((i + 1 : Nat) : Int)))) ↔ (Valid S.length k' ∧ (k'.1 < low ∨ (k'.1 = low ∧ k'.2 < (low : Int) + 1 + i))) ∨ k' = ((low : Int), (high : Int)) := by
        intro k'
        constructor
        · rintro ⟨h1, h2⟩
          by_cases c : k'.1 = low ∧ k'.2 = (high : Int)
          · exact .inr (Prod.ext c.1 c.2)
          · refine .inl ⟨h1, ?_⟩
            omega
        · rintro (⟨h1, h2⟩ | h)
          · exact ⟨h1, by omega⟩
          · subst h
            refine ⟨⟨by show (0 : Int) ≤ (low : Int); omega, by show (low : Int) < (high : Int); omega, by show (high : Int) < (S.length : Int); omega⟩, .inr ⟨rfl, by show (high : Int) < (low : Int) + 1 + ((i + 1 : Nat) : Int); omega⟩⟩
      rcases unlike_row_is (a := S[low]) (b := S[high]) (by rw [la, lb]) (by unfold small; rw [la]; have := z.r; omega) with ⟨m, h1, h2, h3, e⟩ | ⟨h1, e⟩
      · refine ⟨[.val (stsD S), .val (dF true (F ++ [(((low : Int), (high : Int)), (true, [(m : Int)]))])), .val (.lst true (left.map pE)), .val (.int low), .val (.int (high : Int)), .val (.int m)], .inl ?_, F ++ [(((low : Int), (high : Int)), (true, [(m : Int)]))], left, _, _, rfl, Part.found p nd ⟨m, rfl, by rw [ea]; exact h1, by rw [ea, eb]; exact h2, by rw [ea, eb]; exact h3⟩ hd'⟩
        have hl : look F ((low : Int), (high : Int)) = none := by
          cases e : look F ((low : Int), (high : Int)) with
          | none => rfl
          | some r => exact absurd (p.fnd _ r e).1 nd
        have hp := put_is (i := 1) (ρ := [.val (stsD S), .val (dF true F), .val (.lst true (left.map pE)), .val (.int low), .val (.int (high : Int)), .val (.int m)]) (ρ' := [.val (stsD S), .val (dF true F), .val (.lst true (left.map pE)), .val (.int low), .val (.int (high : Int)), .val (.int m)])
          (fx := (dXlst (dXcons (dXm (dVar 5)) dXnil))) (fk := (dTup (dCons (dVar 3) (dCons (dVar 4) dNil)))) (x := .lst true ([(m : Int)].map .int)) (d := dF true F) (k := pE ((low : Int), (high : Int))) (d' := dF true (F ++ [(((low : Int), (high : Int)), (true, [(m : Int)]))])) (by simp) rfl (by simp) (by simp [pE]) (put_dF hl (by omega))
        simp [ix_sts hlow, ix_sts hhigh, e, hp]
      · refine ⟨[.val (stsD S), .val (dF true F), .val (.lst true ((left ++ [((low : Int), (high : Int))]).map pE)), .val (.int low), .val (.int (high : Int)), .val .non], .inl ?_, F, left ++ [((low : Int), (high : Int))], _, _, rfl, Part.left p nd (by unfold NoU; simp only; rw [ea, eb]; exact h1) hd'⟩
        have hp := app_is (i := 2) (ρ := [.val (stsD S), .val (dF true F), .val (.lst true (left.map pE)), .val (.int low), .val (.int (high : Int)), .val .non]) (ρ' := [.val (stsD S), .val (dF true F), .val (.lst true (left.map pE)), .val (.int low), .val (.int (high : Int)), .val .non])
          (fx := (dXtup (dXcons (dXm (dVar 3)) (dXcons (dXm (dVar 4)) dXnil)))) (d := pE ((low : Int), (high : Int))) (xs := left.map pE) (xs0 := left.map pE) rfl (by simp [pE]) rfl (by rw [List.length_map]; omega)
        simp [ix_sts hlow, ix_sts hhigh, e, hp]
/-! ### partings -/
def sc (S : List Mst) (k : K2) (j : Nat) : K2 := succ (stA S k.1) (stA S k.2) j
def GoodE (S : List Mst) (F : Fd) (k : K2) (rows : List Int) : Prop := (∃ m, rows = [m] ∧ FirstU S k m) ∨
  (NoU S k ∧ ∃ (j : Nat) (rest : List Int), rows = (j : Int) :: rest ∧ j < (stA S k.1).length ∧ look F (sc S k j) = some rest ∧ 1 ≤ rest.length ∧
    ∀ i, i < (stA S k.1).length → ∀ later, look F (sc S k i) = some later → rest.length ≤ later.length ∧ (i < j → rest.length + 1 ≤ later.length))
structure LoopI (S : List Mst) (r B : Nat) (F : Fd) (left : List K2) : Prop where
  nodF : (F.map (·.1)).Nodup
  nodL : left.Nodup
  cnt : F.length + left.length ≤ B
  rnd : 1 ≤ r ∧ r + left.length ≤ B + 1
  fnd : ∀ k rows, look F k = some rows → Valid S.length k ∧ GoodE S F k rows ∧ 1 ≤ rows.length ∧ rows.length ≤ r
  lft : ∀ k ∈ left, Valid S.length k ∧ NoU S k ∧ look F k = none ∧ ∀ j, j < (stA S k.1).length → ∀ later, look F (sc S k j) = some later → later.length = r
  all : ∀ k, Valid S.length k → (look F k).isSome = true ∨ k ∈ left
/-- what a turn finds -/
structure FreshI (S : List Mst) (F : Fd) (seen : List K2) (G : Fd) : Prop where
  nod : (G.map (·.1)).Nodup
  len : G.length ≤ seen.length
  hit : ∀ k rows, look G k = some rows → k ∈ seen ∧ ∃ (j : Nat) (rest : List Int), rows = (j : Int) :: rest ∧ j < (stA S k.1).length ∧ look F (sc S k j) = some rest ∧ ∀ i, i < j → look F (sc S k i) = none
  mis : ∀ k ∈ seen, look G k = none → ∀ j, j < (stA S k.1).length → look F (sc S k j) = none
theorem Part.loop {S : List Mst} {F : Fd} {left : List K2} {B : Nat} (p : Part S (Valid S.length) F left B) : LoopI S 1 B F left := by
  refine ⟨p.nodF, p.nodL, p.cnt, ⟨Nat.le_refl _, by have := p.cnt; omega⟩, fun k rows h => ?_, fun k hk => ?_, p.all⟩
  · obtain ⟨h1, m, rfl, h2⟩ := p.fnd k rows h
    exact ⟨h1, .inl ⟨m, rfl, h2⟩, Nat.le_refl _, Nat.le_refl _⟩
  · obtain ⟨h1, h2, h3⟩ := p.lft k hk
    refine ⟨h1, h2, h3, fun j hj later hl => ?_⟩
    obtain ⟨_, m, rfl, _⟩ := p.fnd _ later hl
    rfl
theorem look_none_fz {G : Fd} {k : K2} : look (fz G) k = look G k := look_fz G k
theorem fz_keys (G : Fd) : (fz G).map (·.1) = G.map (·.1) := by unfold fz; rw [List.map_map]; rfl
theorem FreshI.next {S : List Mst} {r B : Nat} {F G : Fd} {left : List K2} (L : LoopI S r B F left) (g : FreshI S F left G) :
    (G = [] ∧ left.filter (fun k => (look G k).isNone) = left) ∨ (G ≠ [] ∧ LoopI S (r + 1) B (F ++ fz G) (left.filter fun k => (look G k).isNone) ∧ (left.filter fun k => (look G k).isNone).length < left.length) := by
  cases hG : G with
  | nil =>
    refine .inl ⟨rfl, List.filter_eq_self.mpr fun k _ => rfl⟩
  | cons e0 G0 =>
    rw [← hG]
    have hne : G ≠ [] := by rw [hG]; exact List.cons_ne_nil _ _
    have disj : ∀ k, (look G k).isSome = true → look F k = none := fun k h => by
      cases e : look G k with
      | none => rw [e] at h; cases h
      | some rows => exact (L.lft k (g.hit k rows e).1).2.2.1
    have lk : ∀ k, look (F ++ fz G) k = match look F k with
      | some r => some r
      | none => look G k := fun k => by rw [look_app, look_fz]
    -- rows that are new have one more
    have newlen : ∀ k rows, look G k = some rows → rows.length = r + 1 := fun k rows h => by
      obtain ⟨h1, j, rest, rfl, h2, h3, _⟩ := g.hit k rows h
      have := (L.lft k h1).2.2.2 j h2 rest h3
      simp [this]
    have cl : G.length + (left.filter fun k => (look G k).isNone).length ≤ left.length := by
      have hsub : (G.map (·.1)).Perm (left.filter fun k => (look G k).isSome) := by
        refine (List.perm_ext_iff_of_nodup g.nod (L.nodL.sublist List.filter_sublist)).mpr fun k => ?_
        rw [List.mem_filter]
        constructor
        · intro h
          have : (look G k).isSome = true := by
            cases e : look G k with
            | none => exact absurd h (look_mem.mp e)
            | some r => rfl
          refine ⟨?_, this⟩
          cases e : look G k with
          | none => rw [e] at this; cases this
          | some r => exact (g.hit k r e).1
        · rintro ⟨_, h⟩
          apply Classical.byContradiction
          intro hn
          rw [look_mem.mpr hn] at h
          cases h
      have h1 := hsub.length_eq
      rw [List.length_map] at h1
      have h2 := List.length_eq_countP_add_countP (p := fun k => (look G k).isSome) (l := left)
      rw [← List.countP_eq_length_filter] at h1
      rw [← List.countP_eq_length_filter]
      have e3 : List.countP (fun k => (look G k).isNone) left = List.countP (fun k => decide ¬(look G k).isSome = true) left := by
        congr 1
        funext k
        cases look G k <;> rfl
      omega
    have gl : 1 ≤ G.length := by rw [hG]; simp
    refine .inr ⟨hne, ⟨?_, L.nodL.sublist List.filter_sublist, ?_, ⟨by omega, ?_⟩, fun k rows h => ?_, fun k hk => ?_, fun k hv => ?_⟩, by omega⟩
    · rw [List.map_append, fz_keys]
      refine List.nodup_append.mpr ⟨L.nodF, g.nod, fun a ha b hb e => ?_⟩
      subst e
      have h1 : (look G a).isSome = true := by
        cases e : look G a with
        | none => exact absurd hb (look_mem.mp e)
        | some r => rfl
      exact look_mem.mp (disj a h1) ha
    · rw [List.length_append]
      have : (fz G).length = G.length := by unfold fz; rw [List.length_map]
      have := L.cnt
      omega
    · have := L.rnd.2; omega
    · rw [lk] at h
      cases e : look F k with
      | some rw0 =>
        rw [e] at h
        have h : some rw0 = some rows := h
        cases h
        obtain ⟨h1, h2, h3, h4⟩ := L.fnd k _ e
        refine ⟨h1, ?_, h3, by omega⟩
        rcases h2 with h2 | ⟨h2, j, rest, e1, hj, hl, h1r, hall⟩
        · exact .inl h2
        · refine .inr ⟨h2, j, rest, e1, hj, by rw [lk, hl], h1r, fun i hi later hlt => ?_⟩
          rw [lk] at hlt
          cases e2 : look F (sc S k i) with
          | some l2 =>
            rw [e2] at hlt
            have hlt : some l2 = some later := hlt
            cases hlt
            exact hall i hi _ e2
          | none =>
            rw [e2] at hlt
            have hn := newlen _ _ hlt
            rw [e1] at h4
            rw [List.length_cons] at h4
            omega
      | none =>
        rw [e] at h
        have h : look G k = some rows := h
        obtain ⟨h1, j, rest, e1, h2, h3, h4⟩ := g.hit k rows h
        obtain ⟨k1, k2, k3, k4⟩ := L.lft k h1
        have lr := k4 j h2 rest h3
        refine ⟨k1, .inr ⟨k2, j, rest, e1, h2, by rw [lk, h3], by have := L.rnd.1; omega, fun i hi later hlt => ?_⟩, by rw [e1]; simp, by rw [e1, List.length_cons, lr]; exact Nat.le_refl _⟩
        rw [lk] at hlt
        cases e2 : look F (sc S k i) with
        | some l2 =>
          rw [e2] at hlt
          have hlt : some l2 = some later := hlt
          cases hlt
          have := k4 i hi _ e2
          refine ⟨by omega, fun hij => ?_⟩
          rw [h4 i hij] at e2; cases e2
        | none =>
          rw [e2] at hlt
          have hn := newlen _ _ hlt
          exact ⟨by omega, fun _ => by omega⟩
    · obtain ⟨h1, h2⟩ := List.mem_filter.mp hk
      have hgn : look G k = none := by
        cases e : look G k with
        | none => rfl
        | some r => rw [e] at h2; cases h2
      obtain ⟨k1, k2, k3, k4⟩ := L.lft k h1
      refine ⟨k1, k2, by rw [lk, k3]; exact hgn, fun j hj later hlt => ?_⟩
      rw [lk, g.mis k h1 hgn j hj] at hlt
      exact newlen _ _ hlt
    · rcases L.all k hv with h | h
      · refine .inl ?_
        rw [lk]
        cases e : look F k with
        | none => rw [e] at h; cases h
        | some r => rfl
      · cases e : look G k with
        | none => exact .inr (List.mem_filter.mpr ⟨h, by rw [e]; rfl⟩)
        | some r =>
          refine .inl ?_
          rw [lk, (L.lft k h).2.2.1]
          show (look G k).isSome = true
          rw [e]; rfl
theorem merge_dF {F G : Fd} (hG : (G.map (·.1)).Nodup) (hd : ∀ k, k ∈ G.map (·.1) → k ∉ F.map (·.1)) : mergeKs (F.map fun e => kE e.1) (F.map vE) (G.map fun e => kE e.1) (G.map vE) = ((F ++ G).map (fun e => kE e.1), (F ++ G).map vE) := by
  induction G generalizing F with
  | nil => simp [mergeKs]
  | cons e G ih =>
    have hn : look F e.1 = none := look_mem.mpr (hd e.1 (by simp))
    have hp : posK (F.map fun e => kE e.1) (kE e.1) = none := by
      rcases pos_look F e.1 with ⟨_, h2⟩ | ⟨j, e', _, _, _, h4⟩
      · exact h2
      · rw [hn] at h4; cases h4
    show mergeKs (putKs (F.map fun e => kE e.1) (F.map vE) (kE e.1) (vE e)).1 (putKs (F.map fun e => kE e.1) (F.map vE) (kE e.1) (vE e)).2 (G.map fun e => kE e.1) (G.map vE) = _
    have h2 : putKs (F.map fun e => kE e.1) (F.map vE) (kE e.1) (vE e) = ((F ++ [e]).map (fun e => kE e.1), (F ++ [e]).map vE) := by
      unfold putKs
      rw [hp]
      simp
    rw [h2]
    have nd := List.nodup_cons.mp hG
    rw [ih nd.2 (fun k hk hm => ?_), List.append_assoc]
    · rfl
    · rw [List.map_append, List.mem_append] at hm
      rcases hm with hm | hm
      · exact hd k (by simp at hk ⊢; exact .inr hk) hm
      · have : k = e.1 := by simpa using hm
        rw [this] at hk
        exact nd.1 hk
theorem lcL_is {α : Type} {h : D → Ev → Option Ev} {ft : Ev → Res Bool} {fe : Ev → Res RV} {ρ : Ev} {dec g : α → D} {P : α → Bool} : ∀ {l : List α}, (∀ a ∈ l, ∃ ρ2, h (dec a) ρ = some ρ2 ∧ ft ρ2 = .ok (P a) ∧ (P a = true → fe ρ2 = .ok (.val (g a)))) → lcL h ft fe ρ (l.map dec) = .ok ((l.filter P).map g)
  | [], _ => rfl
  | a :: l, hh => by
    obtain ⟨ρ2, h1, h2, h3⟩ := hh a List.mem_cons_self
    have ih := lcL_is (l := l) fun b hb => hh b (List.mem_cons_of_mem _ hb)
    rw [List.map_cons, lcL, h1]
    simp only [h2]
    cases hp : P a with
    | false => simp only [ih, List.filter_cons, hp]; rfl
    | true => simp only [h3 hp, ih, List.filter_cons, hp]; rfl
@[simp] theorem c_ints {l : List Int} : cloL (l.map .int) = true := by
  rw [cloL_all, List.all_map]
  exact List.all_eq_true.mpr fun _ _ => rfl
theorem ix_stsI {S : List Mst} {r : RV} {i : Int} (h0 : 0 ≤ i) (h : i < S.length) : ixR r (stsD S) (.int i) = .ok (.val (stD (stA S i))) := by
  obtain ⟨n, rfl⟩ := Int.eq_ofNat_of_zero_le h0
  have hn : n < S.length := by omega
  rw [stA_at hn]
  exact ix_sts hn
@[simp] theorem ix_pE0 {k : K2} {r : RV} : ixR r (pE k) (.int 0) = .ok (.val (.int k.1)) := ix_tup (k := 0) rfl rfl rfl
@[simp] theorem ix_pE1 {k : K2} {r : RV} : ixR r (pE k) (.int 1) = .ok (.val (.int k.2)) := ix_tup (k := 1) rfl rfl rfl
@[simp] theorem n_pEs {l : List K2} : noOwnL (l.map pE) = true := n_map fun _ => rfl
@[simp] theorem frz_dF' (o : Bool) (F : Fd) : frz (dF o F) = dF false (fz F) := frz_dF o F
@[simp] theorem f_pEs {l : List K2} : frzL (l.map pE) = l.map pE := by rw [f_map]; rfl
theorem stA_len {S : List Mst} {R : Nat} (z : Sized S R) {i : Int} (h0 : 0 ≤ i) (h : i < S.length) : (stA S i).length = R := by
  obtain ⟨n, rfl⟩ := Int.eq_ofNat_of_zero_le h0
  have hn : n < S.length := by omega
  rw [stA_at hn]
  exact z.len _ (List.getElem_mem _)
/-- the walk over the pairs that are left -/
theorem fresh_is {S : List Mst} {R r B : Nat} {F : Fd} {left : List K2} (z : Sized S R) (L : LoopI S r B F left) (hB : B ≤ 100000) (hr : r ≤ 9999) {a b c d x8 x4 : SL} :
    ∃ G y4 y8, forL (hN 4) (dSeq (dSet 8 (dXf (dCall m_later_rows (dCons (dIx (dVar 1) (dIx (dVar 4) (dC (.int 0)))) (dCons (dIx (dVar 1) (dIx (dVar 4) (dC (.int 1)))) (dCons (dVar 5) dNil))))))
      (dIf (dTst (dBin gIsNot (dVar 8) (dC .non))) (dPut 7 (dVar 4) (dXm (dVar 8))) dNext)) (left.map pE) [a, .val (stsD S), b, c, x4, .val (dF true F), d, .val (dF true []), x8] =
      .ok (.nx [a, .val (stsD S), b, c, y4, .val (dF true F), d, .val (dF true G), y8]) ∧ FreshI S F left G := by
  have key := forL_inv (h := hN 4) (f := (dSeq (dSet 8 (dXf (dCall m_later_rows (dCons (dIx (dVar 1) (dIx (dVar 4) (dC (.int 0)))) (dCons (dIx (dVar 1) (dIx (dVar 4) (dC (.int 1)))) (dCons (dVar 5) dNil))))))
      (dIf (dTst (dBin gIsNot (dVar 8) (dC .non))) (dPut 7 (dVar 4) (dXm (dVar 8))) dNext)))
    (fun i ρ => ∃ G y4 y8, ρ = [a, .val (stsD S), b, c, y4, .val (dF true F), d, .val (dF true G), y8] ∧ FreshI S F (left.take i) G) (ds := left.map pE) (ρ := [a, .val (stsD S), b, c, x4, .val (dF true F), d, .val (dF true []), x8])
    ⟨[], _, _, rfl, ⟨List.nodup_nil, Nat.le_refl _, (fun k rows h => by cases h), (fun k h => nomatch h)⟩⟩ ?_
  · obtain ⟨ρ', e, G, y4, y8, rfl, g⟩ := key
    rw [List.length_map, List.take_length] at g
    exact ⟨G, y4, y8, e, g⟩
  · rintro i p ρ hp ⟨G, y4, y8, rfl, g⟩
    rw [List.getElem?_map] at hp
    obtain ⟨k, hk, rfl⟩ := Option.map_eq_some_iff.mp hp
    have hi : i < left.length := (List.getElem?_eq_some_iff.mp hk).1
    have hkm := List.mem_of_getElem? hk
    obtain ⟨hv, hu, hnf, hlen⟩ := L.lft k hkm
    obtain ⟨v0, v1, v2⟩ := hv
    have hk1 : k.1 < S.length := by omega
    have hk20 : 0 ≤ k.2 := by omega
    have la := stA_len z v0 hk1
    have lb := stA_len z hk20 v2
    refine ⟨_, rfl, ?_⟩
    simp only [List.set_cons_succ, List.set_cons_zero]
    have ht : left.take (i + 1) = left.take i ++ [k] := by
      rw [List.take_add_one, hk]; rfl
    have hni : k ∉ left.take i := fun hm => by
      have nd : (left.take (i + 1)).Nodup := L.nodL.sublist (List.take_sublist _ _)
      rw [ht] at nd
      exact (List.nodup_append.mp nd).2.2 k hm k (by simp) rfl
    have hlG : look G k = none := by
      cases e : look G k with
      | none => rfl
      | some rows => exact absurd (g.hit k rows e).1 hni
    have hGl : G.length < 1000000 := by
      have h1 := g.len
      have h2 : (left.take i).length ≤ left.length := by rw [List.length_take]; exact Nat.min_le_right _ _
      have h3 := L.cnt
      omega
    rcases later_rows_is (a := stA S k.1) (b := stA S k.2) (F := F) (by rw [la, lb]) (by unfold small; rw [la]; have := z.r; omega) (fun k' rows h => by have := (L.fnd k' rows h).2.2.2; omega) with ⟨j, rows, h1, h2, h3, e⟩ | ⟨h1, e⟩
    · refine ⟨[a, .val (stsD S), b, c, .val (pE k), .val (dF true F), d, .val (dF true (G ++ [(k, (true, (j : Int) :: rows))])), .val .dead], .inl ?_, G ++ [(k, (true, (j : Int) :: rows))], _, _, rfl, ?_⟩
      · have hp := put_is (i := 7) (ρ := [a, .val (stsD S), b, c, .val (pE k), .val (dF true F), d, .val (dF true G), .val (.lst true (((j : Int) :: rows).map .int))]) (ρ' := [a, .val (stsD S), b, c, .val (pE k), .val (dF true F), d, .val (dF true G), .val .dead])
          (fx := dXm (dVar 8)) (fk := dVar 4) (x := .lst true (((j : Int) :: rows).map .int)) (d := dF true G) (k := pE k) (d' := dF true (G ++ [(k, (true, (j : Int) :: rows))])) (by simp) rfl (by simp) (by simp) (put_dF hlG hGl)
        have hg : gIsNot (.lst true (((j : Int) :: rows).map .int)) .non = .ok (.bl true) := rfl
        have hc : clo (.lst true (((j : Int) :: rows).map .int)) = true := by rw [c_lstT]; exact c_ints
        simp only [List.map_cons] at hp e hg hc
        simp [ix_stsI v0 hk1, ix_stsI hk20 v2, e, hp, hg]
      · rw [ht]
        refine ⟨?_, by simp; have := g.len; simp at this; omega, fun k' rows' h => ?_, fun k' hk' h => ?_⟩
        · rw [List.map_append]
          refine List.nodup_append.mpr ⟨g.nod, by simp, fun x hx y hy exy => ?_⟩
          have : y = k := by simpa using hy
          rw [exy, this] at hx
          exact look_mem.mp hlG hx
        · rw [look_app] at h
          cases e2 : look G k' with
          | some r2 =>
            rw [e2] at h
            have h : some r2 = some rows' := h
            cases h
            obtain ⟨q1, q2⟩ := g.hit k' _ e2
            exact ⟨List.mem_append_left _ q1, q2⟩
          | none =>
            rw [e2] at h
            have h : (if k = k' then some ((j : Int) :: rows) else none) = some rows' := h
            by_cases ek : k = k'
            · rw [if_pos ek] at h
              have h5 : (j : Int) :: rows = rows' := Option.some.inj h
              subst ek h5
              exact ⟨by simp, j, rows, rfl, h1, h2, h3⟩
            · rw [if_neg ek] at h; cases h
        · rw [look_app] at h
          cases e2 : look G k' with
          | some r2 => rw [e2] at h; cases h
          | none =>
            rw [e2] at h
            have h : (if k = k' then some ((j : Int) :: rows) else none) = none := h
            by_cases ek : k = k'
            · rw [if_pos ek] at h; cases h
            · rcases List.mem_append.mp hk' with z | z
              · exact g.mis k' z e2
              · exact absurd (by simpa using z : k' = k).symm ek
    · refine ⟨[a, .val (stsD S), b, c, .val (pE k), .val (dF true F), d, .val (dF true G), .val .non], .inl ?_, G, _, _, rfl, ?_⟩
      · have hg : gIsNot .non .non = .ok (.bl false) := rfl
        simp [ix_stsI v0 hk1, ix_stsI hk20 v2, e, hg]
      · rw [ht]
        refine ⟨g.nod, by simp; have := g.len; simp at this; omega, fun k' rows' h => ?_, fun k' hk' h => ?_⟩
        · obtain ⟨q1, q2⟩ := g.hit k' rows' h
          exact ⟨List.mem_append_left _ q1, q2⟩
        · rcases List.mem_append.mp hk' with z | z
          · exact g.mis k' z h
          · have : k' = k := by simpa using z
            subst this
            exact h1
section
variable {ρ ρ' : Ev} {i : Nat} {d : D} {fx : Ev → Res (D × Ev)}
theorem upd_is {ks0 ks ms : List (List Key)} {xs0 xs ys : List D} (h : ρ[i]? = some (.val (.dt true ks0 xs0))) (hx : fx ρ = .ok (d, ρ')) (h' : ρ'[i]? = some (.val (.dt true ks xs))) (hd : frz d = .dt false ms ys) (hc : ks ≠ [] ∨ ms = []) (hz : ks.length + ms.length ≤ 1000000) :
    dUpd i fx ρ = .ok (.nx (ρ'.set i (.val (.dt true (mergeKs ks xs ms ys).1 (mergeKs ks xs ms ys).2)))) := by
  have hcc : ((!ks.isEmpty || ms.isEmpty) && fits (ks.length + ms.length)) = true := by
    rw [fits_of hz, Bool.and_true]
    rcases hc with hc | hc
    · cases ks with
      | nil => exact absurd rfl hc
      | cons _ _ => rfl
    · rw [hc]; simp
  unfold dUpd
  rw [h]
  simp only [hx, ok_bind, h', hd, hcc, if_true]
@[simp] theorem e_dLc {fi : Ev → Res (List D)} {h : D → Ev → Option Ev} {ft : Ev → Res Bool} {fe : Ev → Res RV} {vs : List Nat} : dLc fi h ft fe vs ρ = (fi ρ >>= fun ds => match lcL h ft fe (wipeE ρ vs) ds with
  | .ok r => if fits r.length then .ok (.val (.lst true r)) else .bad
  | _ => .bad) := (rfl)
@[simp] theorem e_dSetV {fa : Ev → Res RV} : dSetV i fa ρ = (fa ρ >>= fun x => match x with
  | .val d => .ok (.nx (ρ.set i (.val d)))
  | _ => .bad) := (rfl)
@[simp] theorem e_wipe1 : wipeE ρ [i] = ρ.set i .none := (rfl)
end
@[simp] theorem gt_int (i j : Int) : gGt (.int i) (.int j) = .ok (.bl (decide (i > j))) := (rfl)
def DoneI (S : List Mst) (F : Fd) (left : List K2) : Prop := ∀ k ∈ left, ∀ j, j < (stA S k.1).length → look F (sc S k j) = none
theorem fresh_nil {S : List Mst} {F : Fd} {left : List K2} (g : FreshI S F left []) : DoneI S F left := fun k hk => g.mis k hk rfl
def wC : Ev → Res Bool := dTst (dVar 2)
noncomputable def wF : Ev → Res Out := (dSeq (dSet 7 (dXf dDictT))
    (dSeq (dFor (dItemsS (dXf (dVar 6))) (hN 4) (dSeq (dSet 8 (dXf (dCall m_later_rows (dCons (dIx (dVar 1) (dIx (dVar 4) (dC (.int 0)))) (dCons (dIx (dVar 1) (dIx (dVar 4) (dC (.int 1)))) (dCons (dVar 5) dNil))))))
    (dIf (dTst (dBin gIsNot (dVar 8) (dC .non))) (dPut 7 (dVar 4) (dXm (dVar 8))) dNext)))
    (dSeq (dUpd 5 (dXf (dVar 7)))
    (dSeq (dSetV 6 (dLc (dItems (dVar 6)) (hN 4) (dTst (dBin gNotIn (dVar 4) (dVar 7))) (dVar 4) [4]))
    (dSet 2 (dXf (dBin gGt (dFn gLen (dCons (dVar 7) dNil)) (dC (.int 0)))))))))
theorem round_is {S : List Mst} {R r B : Nat} {F : Fd} {left : List K2} (z : Sized S R) (L : LoopI S r B F left) (hB : B ≤ 9000) {a y3 y4 y7 y8 : SL} {g : Bool} :
    ∃ G z4 z8, wF [a, .val (stsD S), .val (.bl g), y3, y4, .val (dF true F), .val (.lst true (left.map pE)), y7, y8] =
      .ok (.nx [a, .val (stsD S), .val (.bl (!decide (G = []))), y3, z4, .val (dF true (F ++ fz G)), .val (.lst true ((left.filter fun k => (look G k).isNone).map pE)), .val (dF false (fz G)), z8]) ∧ FreshI S F left G := by
  obtain ⟨G, z4, z8, e, gI⟩ := fresh_is (a := a) (b := .val (.bl g)) (c := y3) (d := .val (.lst false (left.map pE))) (x4 := y4) (x8 := y8) z L (by omega) (by have := L.rnd.2; omega)
  refine ⟨G, z4, z8, ?_, gI⟩
  have hz : (F.map fun e => kE e.1).length + ((fz G).map fun e => kE e.1).length ≤ 1000000 := by
    have h1 := gI.len
    have h2 := L.cnt
    have h3 : (fz G).length = G.length := by unfold fz; rw [List.length_map]
    simp only [List.length_map]
    omega
  have hc : (F.map fun e => kE e.1) ≠ [] ∨ ((fz G).map fun e => kE e.1) = [] := by
    cases G with
    | nil => exact .inr rfl
    | cons e0 G0 =>
      refine .inl fun h => ?_
      have hl : look (e0 :: G0) e0.1 = some e0.2.2 := by
        show (if e0.1 = e0.1 then some e0.2.2 else look G0 e0.1) = _
        rw [if_pos rfl]
      obtain ⟨_, j, rest, _, _, h3, _⟩ := gI.hit _ _ hl
      cases F with
      | nil => cases h3
      | cons _ _ => cases h
  have hdis : ∀ k, k ∈ (fz G).map (·.1) → k ∉ F.map (·.1) := by
    intro k hk
    rw [fz_keys] at hk
    cases e2 : look G k with
    | none => exact absurd hk (look_mem.mp e2)
    | some r => exact look_mem.mp (L.lft k (gI.hit k r e2).1).2.2.1
  have hm := merge_dF (F := F) (G := fz G) (by rw [fz_keys]; exact gI.nod) hdis
  have hu := upd_is (i := 5) (ρ := [a, .val (stsD S), .val (.bl g), y3, z4, .val (dF true F), .val (.lst false (left.map pE)), .val (dF true G), z8]) (ρ' := [a, .val (stsD S), .val (.bl g), y3, z4, .val (dF true F), .val (.lst false (left.map pE)), .val (dF false (fz G)), z8])
    (fx := dXf (dVar 7)) (d := dF false (fz G)) (ks0 := F.map fun e => kE e.1) (xs0 := F.map vE) (ks := F.map fun e => kE e.1) (xs := F.map vE) (ms := (fz G).map fun e => kE e.1) (ys := (fz G).map vE) rfl (by simp) rfl (by rw [frz_dF', fz_fz]; rfl) hc hz
  rw [hm] at hu
  have hu : dUpd 5 (dXf (dVar 7)) [a, .val (stsD S), .val (.bl g), y3, z4, .val (dF true F), .val (.lst false (left.map pE)), .val (dF true G), z8] = .ok (.nx [a, .val (stsD S), .val (.bl g), y3, z4, .val (dF true (F ++ fz G)), .val (.lst false (left.map pE)), .val (dF false (fz G)), z8]) := hu
  have hlc := lcL_is (h := hN 4) (ft := dTst (dBin gNotIn (dVar 4) (dVar 7))) (fe := dVar 4) (ρ := [a, .val (stsD S), .val (.bl g), y3, .none, .val (dF true (F ++ fz G)), .val (.lst false (left.map pE)), .val (dF false (fz G)), z8]) (dec := pE) (g := pE) (P := fun k => (look G k).isNone) (l := left) (fun k hk => by
    refine ⟨_, rfl, ?_, fun _ => ?_⟩
    · have := notin_dF false (fz G) k
      rw [look_fz] at this
      simp only [List.set_cons_succ, List.set_cons_zero]
      cases e3 : look G k <;> simp [this, e3]
    · simp)
  have hfit : fits (left.filter fun k => (look G k).isNone).length = true := by
    apply fits_of
    have := List.length_filter_le (fun k => (look G k).isNone) left
    have := L.cnt
    omega
  have hlen : gLen [dF false (fz G)] = .ok (.int (fz G).length) := by
    show Res.ok (D.int (((fz G).map fun e => kE e.1).length : Nat)) = _
    rw [List.length_map]
  have hg : gGt (.int (fz G).length) (.int 0) = .ok (.bl (!decide (G = []))) := by
    have h3 : (fz G).length = G.length := by unfold fz; rw [List.length_map]
    rw [h3]
    cases G with
    | nil => rfl
    | cons e0 G0 =>
      show Res.ok (D.bl (decide (((G0.length + 1 : Nat) : Int) > 0))) = _
      rw [decide_eq_true (by omega)]
      rfl
  have hd : D.dt true [] [] = dF true [] := rfl
  unfold wF
  simp only [e_dSeq, e_dSet, e_dXf, e_dDictT, ok_bind, e_takeF, List.set_cons_succ, List.set_cons_zero, e_dFor, e_dItemsS, hd]
  simp [e, hu, itemsD, hlc, hfit, hlen, hg, -g_gt, -gt_int]
/-! ### the end of partings -/
theorem tkey_pE (k : K2) : tkeyD (kE k) = pE k := rfl
theorem list_dF (o : Bool) (F : Fd) : gList [dF o F] = .ok (.lst true ((F.map (·.1)).map pE)) := by
  show Res.ok (D.lst true ((F.map fun e => kE e.1).map tkeyD)) = _
  rw [List.map_map, List.map_map]; rfl
theorem pairs_pE : ∀ l : List K2, pairsOf (l.map pE) = some l
  | [] => rfl
  | k :: l => by
    show (pairsOf (l.map pE)).map (fun r => (k.1, k.2) :: r) = _
    rw [pairs_pE l]; rfl
theorem sorted_pE (o : Bool) (l : List K2) : gSorted [.lst o (l.map pE)] = .ok (.lst true ((isort SrtO.lexB l).map pE)) := by
  have h : sortD (l.map pE) = some ((isort SrtO.lexB l).map pE) := by
    cases l with
    | nil => rfl
    | cons k l =>
      have h2 := pairs_pE (k :: l)
      unfold sortD
      have h1 : intsOf ((k :: l).map pE) = none := rfl
      rw [h1]
      simp only [h2]
      rfl
  show (match sortD (l.map pE) with
    | some ys => Res.ok (D.lst true ys)
    | none => .bad) = _
  rw [h]
/-- a value read is frozen where it stands -/
theorem freeze_at {F : Fd} {k : K2} {rows : List Int} {a b c d g h j : SL} (hl : look F k = some rows) : ∃ F2, fz F2 = fz F ∧ dXf (dIx (dVar 5) (dVar 4)) [a, b, c, d, .val (pE k), .val (dF true F), g, h, j] = .ok (.lst false (rows.map .int), [a, b, c, d, .val (pE k), .val (dF true F2), g, h, j]) := by
  rcases pos_look F k with ⟨h1, _⟩ | ⟨i, e, h1, h2, h3, h4⟩
  · rw [hl] at h1; cases h1
  · rw [hl] at h4
    cases h4
    have hk : (kids (dF true F))[i]? = some (vE e) := by
      show (F.map vE)[i]? = _
      rw [List.getElem?_map, h2]; rfl
    have hix : ixR (.lv 5 []) (dF true F) (pE k) = if noOwn (vE e) then .ok (.val (vE e)) else .ok (.lv 5 [i]) := by
      have hc : childIx (dF true F) (pE k) = some i := h1
      have hlf : leafIx (dF true F) (pE k) = none := rfl
      unfold ixR
      rw [hlf, hc]
      unfold down
      simp only [hk]
      rfl
    obtain ⟨ke, o, rows'⟩ := e
    cases o with
    | false =>
      refine ⟨F, rfl, ?_⟩
      have hn : noOwn (vE (ke, (false, rows'))) = true := by simp [vE]
      rw [hn, if_pos rfl] at hix
      simp [hix, vE]
    | true =>
      have hn : noOwn (vE (ke, (true, rows'))) = false := rfl
      rw [hn, if_neg Bool.false_ne_true] at hix
      refine ⟨F.set i (ke, (false, rows')), ?_, ?_⟩
      · unfold fz
        rw [List.map_set]
        apply set_id
        rw [List.getElem?_map, h2]; rfl
      · have hkeys : (F.set i (ke, (false, rows'))).map (fun e => kE e.1) = F.map fun e => kE e.1 := by
          rw [List.map_set]
          apply set_id
          rw [List.getElem?_map, h2]; rfl
        have hvals : (F.set i (ke, (false, rows'))).map vE = (F.map vE).set i (.lst false (rows'.map .int)) := by
          rw [List.map_set]; rfl
        have hd : dF true (F.set i (ke, (false, rows'))) = .dt true (F.map fun e => kE e.1) ((F.map vE).set i (.lst false (rows'.map .int))) := by
          unfold dF
          rw [hkeys, hvals]
        have hp : placeD [a, b, c, d, .val (pE k), .val (dF true F), g, h, j] 5 [i] = some (dF true F, .lst true (rows'.map .int)) := by
          have hg : getP (dF true F) [i] = some (.lst true (rows'.map .int)) := by
            show ((F.map vE)[i]?).bind (fun d => getP d []) = _
            rw [List.getElem?_map, h2]; rfl
          unfold placeD
          simp only [List.getElem?_cons_succ, List.getElem?_cons_zero, hg]
          rfl
        have hs : setP (dF true F) [i] (.lst false (rows'.map .int)) = dF true (F.set i (ke, (false, rows'))) := by
          rw [hd]
          show D.dt true _ ((F.map vE).set i (setP _ [] (.lst false (rows'.map .int)))) = _
          rfl
        have ht : takeF [a, b, c, d, .val (pE k), .val (dF true F), g, h, j] (.lv 5 [i]) = .ok (.lst false (rows'.map .int), [a, b, c, d, .val (pE k), .val (dF true (F.set i (ke, (false, rows')))), g, h, j]) := by
          show (match placeD [a, b, c, d, .val (pE k), .val (dF true F), g, h, j] 5 [i] with
            | some (dj, d') => Res.ok (frz d', [a, b, c, d, .val (pE k), .val (dF true F), g, h, j].set 5 (.val (setP dj [i] (frz d'))))
            | none => .bad) = _
          rw [hp]
          have hf : frz (D.lst true (rows'.map .int)) = .lst false (rows'.map .int) := by
            rw [f_lst, f_map]; rfl
          simp only [hf, hs]
          rfl
        simp [hix, ht]
/-- what partings gives -/
structure FinalI (S : List Mst) (O : Fd) : Prop where
  keys : (O.map (·.1)).Pairwise fun a b => SrtO.lexB b a = false
  nod : (O.map (·.1)).Nodup
  own : ∀ e ∈ O, e.2.1 = false
  few : O.length ≤ 10000
  fnd : ∀ k rows, look O k = some rows → Valid S.length k ∧ GoodE S O k rows ∧ 1 ≤ rows.length ∧ rows.length ≤ 10000
  non : ∀ k, Valid S.length k → look O k = none → NoU S k ∧ ∀ j, j < (stA S k.1).length → look O (sc S k j) = none
theorem GoodE.of {S : List Mst} {F O : Fd} (h : ∀ k, look O k = look F k) {k : K2} {rows : List Int} (g : GoodE S F k rows) : GoodE S O k rows := by
  rcases g with g | ⟨g1, j, rest, e, hj, hl, h1, ha⟩
  · exact .inl g
  · exact .inr ⟨g1, j, rest, e, hj, by rw [h, hl], h1, fun i hi later hlt => ha i hi later (by rw [← h]; exact hlt)⟩
theorem b_partings_is : b_partings = (dSeq (dDrop (dCall m_need_machine (dCons (dVar 0) dNil))) (dSeq (dSet 1 (dXf (dIx (dVar 0) (dC (.int 2))))) (dSeq (dAsg (hTup (hCons (hN 5) (hCons (hN 6) hNil))) (dXm (dCall m_parted_at_once (dCons (dVar 1) dNil)))) (dSeq (dSet 2 (dXf (dC (.bl true)))) (dSeq (dWhile wC wF) (dSeq (dSet 3 (dXf dDictT)) (dSeq (dFor (dItemsS (dXf (dFn gSorted (dCons (dFn gList (dCons (dVar 5) dNil)) dNil)))) (hN 4) (dPut 3 (dVar 4) (dXf (dIx (dVar 5) (dVar 4))))) (dRet (dXm (dVar 3)))))))))) := (rfl)
theorem partings_is {S : List Mst} {R : Nat} {mc : D} (z : Sized S R) (hmc : noOwn mc = true) (hneed : m_need_machine [mc] = .ok .non) (h2 : ∀ r, ixR r mc (.int 2) = .ok (.val (stsD S))) : ∃ O, m_partings [mc] = .ok (dF true O) ∧ FinalI S O := by
  have hfm : frz mc = mc := frz_noOwn _ hmc
  obtain ⟨F0, left0, e0, p0⟩ := parted_is z
  have hNN : S.length * S.length ≤ 90 * 90 := Nat.mul_le_mul z.n z.n
  -- the rounds
  have hw := dWhile_inv (c := wC) (f := wF) (fun m ρ => ∃ F left r g y4 y7 y8, ρ = [.val mc, .val (stsD S), .val (.bl g), .none, y4, .val (dF true F), .val (.lst true (left.map pE)), y7, y8] ∧ LoopI S r (S.length * S.length) F left ∧ m = 2 * left.length + (if g then 1 else 0) ∧ (g = false → DoneI S F left))
    (fun ρ => ∃ F left r y4 y7 y8, ρ = [.val mc, .val (stsD S), .val (.bl false), .none, y4, .val (dF true F), .val (.lst true (left.map pE)), y7, y8] ∧ LoopI S r (S.length * S.length) F left ∧ DoneI S F left) ?_
    (ρ := [.val mc, .val (stsD S), .val (.bl true), .none, .none, .val (dF true F0), .val (.lst true (left0.map pE)), .none, .none]) (m := 2 * left0.length + 1) ⟨F0, left0, 1, true, _, _, _, rfl, p0.loop, rfl, fun h => by cases h⟩
  · obtain ⟨ρ', ew, F, left, r, y4, y7, y8, rfl, L, hdone⟩ := hw
    have hlk : ∀ k, look F k = none ∨ ∃ rows, look F k = some rows := fun k => by
      cases look F k with
      | none => exact .inl rfl
      | some r => exact .inr ⟨r, rfl⟩
    have hnk : ∀ k ∈ isort SrtO.lexB (F.map (·.1)), ∃ rows, look F k = some rows := fun k hk => by
      have hm := (isort_perm (lt := SrtO.lexB) (F.map (·.1))).mem_iff.mp hk
      rcases hlk k with h | h
      · exact absurd hm (look_mem.mp h)
      · exact h
    have hnd : (isort SrtO.lexB (F.map (·.1))).Nodup := (isort_perm (lt := SrtO.lexB) (F.map (·.1))).nodup_iff.mpr L.nodF
    have hlen : (isort SrtO.lexB (F.map (·.1))).length = F.length := by rw [(isort_perm (lt := SrtO.lexB) (F.map (·.1))).length_eq, List.length_map]
    have key := forL_inv (h := hN 4) (f := dPut 3 (dVar 4) (dXf (dIx (dVar 5) (dVar 4))))
      (fun i ρ => ∃ O F2 y4, ρ = [.val mc, .val (stsD S), .val (.bl false), .val (dF true O), y4, .val (dF true F2), .val (.lst true (left.map pE)), y7, y8] ∧ fz F2 = fz F ∧ O.map (·.1) = (isort SrtO.lexB (F.map (·.1))).take i ∧ (∀ e ∈ O, e.2.1 = false) ∧ ∀ k rows, look O k = some rows → look F k = some rows) (ds := (isort SrtO.lexB (F.map (·.1))).map pE)
      (ρ := [.val mc, .val (stsD S), .val (.bl false), .val (dF true []), y4, .val (dF true F), .val (.lst true (left.map pE)), y7, y8]) ⟨[], F, _, rfl, rfl, rfl, (fun e h => nomatch h), (fun k rows h => by cases h)⟩ ?_
    · obtain ⟨ρ', e, O, F2, y4', rfl, _, hk, ho, hlo⟩ := key
      rw [List.length_map, List.take_length] at hk
      have hsame : ∀ k, look O k = look F k := fun k => by
        cases h : look O k with
        | some rows => exact (hlo k rows h).symm
        | none =>
          rcases hlk k with h2 | ⟨rows, h2⟩
          · exact h2.symm
          · have hm : k ∈ O.map (·.1) := by
              rw [hk]
              refine (isort_perm (lt := SrtO.lexB) (F.map (·.1))).mem_iff.mpr ?_
              apply Classical.byContradiction
              intro hn
              rw [look_mem.mpr hn] at h2; cases h2
            exact absurd hm (look_mem.mp h)
      refine ⟨O, ?_, ⟨by rw [hk]; exact isort_sorted lexB_swo _, by rw [hk]; exact hnd, ho, ?_, fun k rows h => ?_, fun k hv h => ?_⟩⟩
      · have hd : D.dt true [] [] = dF true [] := rfl
        have ew' : dWhile wC wF [.val mc, .val (stsD S), .val (.bl true), .none, .none, .val (dF true F0), .val (.lst true (left0.map pE)), .none, .none] = _ := ew
        have hi : itemsD (D.lst false ((isort SrtO.lexB (F.map (·.1))).map pE)) = some ((isort SrtO.lexB (F.map (·.1))).map pE) := by simp [itemsD]
        unfold m_partings
        rw [e_dDef, b_partings_is]
        simp [hmc, hfm, hneed, h2, e0, ew', list_dF, sorted_pE, hi, hd, e, -List.map_map]
      · have := congrArg List.length hk
        rw [List.length_map, hlen] at this
        have := L.cnt
        omega
      · rw [hsame] at h
        obtain ⟨q1, q2, q3, q4⟩ := L.fnd k rows h
        have := L.rnd.2
        exact ⟨q1, q2.of hsame, q3, by omega⟩
      · rw [hsame] at h
        rcases L.all k hv with h3 | h3
        · rw [h] at h3; cases h3
        · exact ⟨(L.lft k h3).2.1, fun j hj => by rw [hsame]; exact hdone k h3 j hj⟩
    · rintro i d ρ hd ⟨O, F2, y4', rfl, hF2, hk, ho, hlo⟩
      rw [List.getElem?_map] at hd
      obtain ⟨k, hki, rfl⟩ := Option.map_eq_some_iff.mp hd
      have hkm := List.mem_of_getElem? hki
      obtain ⟨rows, hrows⟩ := hnk k hkm
      have hrows2 : look F2 k = some rows := by rw [← look_fz, hF2, look_fz]; exact hrows
      refine ⟨_, rfl, ?_⟩
      simp only [List.set_cons_succ, List.set_cons_zero]
      obtain ⟨F3, hF3, ef⟩ := freeze_at (F := F2) (k := k) (rows := rows) (a := .val mc) (b := .val (stsD S)) (c := .val (.bl false)) (d := .val (dF true O)) (g := .val (.lst true (left.map pE))) (h := y7) (j := y8) hrows2
      have ht : (isort SrtO.lexB (F.map (·.1))).take (i + 1) = (isort SrtO.lexB (F.map (·.1))).take i ++ [k] := by
        rw [List.take_add_one, hki]; rfl
      have hni : look O k = none := by
        refine look_mem.mpr ?_
        rw [hk]
        intro hm
        have nd := hnd.sublist (List.take_sublist (i + 1) _)
        rw [ht] at nd
        exact (List.nodup_append.mp nd).2.2 k hm k (by simp) rfl
      have hOl : O.length < 1000000 := by
        have h1 := congrArg List.length hk
        rw [List.length_map, List.length_take, hlen] at h1
        have := L.cnt
        omega
      have hp := put_is (i := 3) (ρ := [.val mc, .val (stsD S), .val (.bl false), .val (dF true O), .val (pE k), .val (dF true F2), .val (.lst true (left.map pE)), y7, y8]) (ρ' := [.val mc, .val (stsD S), .val (.bl false), .val (dF true O), .val (pE k), .val (dF true F3), .val (.lst true (left.map pE)), y7, y8])
        (fx := dXf (dIx (dVar 5) (dVar 4))) (fk := dVar 4) (x := .lst false (rows.map .int)) (d := dF true O) (k := pE k) (d' := dF true (O ++ [(k, (false, rows))])) ef rfl (by simp) (by simp) (put_dF hni hOl)
      refine ⟨_, .inl hp, O ++ [(k, (false, rows))], F3, _, rfl, hF3.trans hF2, by rw [List.map_append, hk, ht]; rfl, fun e he => ?_, fun k' rows' h => ?_⟩
      · rcases List.mem_append.mp he with h | h
        · exact ho e h
        · have : e = (k, (false, rows)) := by simpa using h
          rw [this]
      · rw [look_app] at h
        cases e2 : look O k' with
        | some r2 =>
          rw [e2] at h
          have h : some r2 = some rows' := h
          cases h
          exact hlo k' _ e2
        | none =>
          rw [e2] at h
          have h : (if k = k' then some rows else none) = some rows' := h
          by_cases ek : k = k'
          · rw [if_pos ek] at h
            have h5 : rows = rows' := Option.some.inj h
            subst ek h5
            exact hrows
          · rw [if_neg ek] at h; cases h
  · rintro m ρ ⟨F, left, r, g, y4, y7, y8, rfl, L, hm, hg⟩
    cases g with
    | false => exact .inl ⟨by simp [wC], F, left, r, y4, y7, y8, rfl, L, hg rfl⟩
    | true =>
      obtain ⟨G, z4, z8, e, gI⟩ := round_is (a := .val mc) (y3 := .none) (y4 := y4) (y7 := y7) (y8 := y8) (g := true) z L (by omega)
      refine .inr ⟨by simp [wC], _, 2 * (left.filter fun k => (look G k).isNone).length + (if !decide (G = []) then 1 else 0), .inl e, ?_, ?_⟩
      · rcases gI.next L with ⟨rfl, hf⟩ | ⟨hne, L2, _⟩
        · refine ⟨_, _, r, _, _, _, _, rfl, ?_, rfl, fun _ => ?_⟩
          · rw [hf]
            have : F ++ fz [] = F := by show F ++ [] = F; simp
            rw [this]; exact L
          · rw [hf]
            have : F ++ fz [] = F := by show F ++ [] = F; simp
            rw [this]
            exact fresh_nil gI
        · exact ⟨_, _, r + 1, _, _, _, _, rfl, L2, rfl, fun h => absurd h (by simp [hne])⟩
      · rw [hm]
        rcases gI.next L with ⟨rfl, hf⟩ | ⟨hne, _, hlt⟩
        · rw [hf]; simp
        · simp only [hne, decide_false, Bool.not_false, if_true]
          omega
/-! ### rows_of, need_machine -/
theorem rows_of_is {n : Nat} (hn : n ≤ 30) : m_rows_of [.int (n : Int)] = .ok (.int ((2 : Int) ^ n)) := by
  have hr : ranD [.val (.int (n : Int))] = some (rangeD 0 n) := ran1n (by omega)
  have h2 : sm 2 = true := sm_of (by decide) (by decide)
  have key := forL_inv (h := hN 2) (f := dSet 1 (dXf (dBin gMul (dC (.int 2)) (dVar 1)))) (fun i ρ => ∃ y, ρ = [.val (.int (n : Int)), .val (.int ((2 : Int) ^ i)), y]) (ds := rangeD 0 n) (ρ := [.val (.int (n : Int)), .val (.int 1), .none]) ⟨_, rfl⟩ ?_
  · obtain ⟨ρ', e, y, rfl⟩ := key
    have hl : (rangeD 0 (n : Int)).length = n := by rw [rangeD_len]; omega
    rw [hl] at e
    simp [m_rows_of, e_dDef, b_rows_of, hr, e]
  · rintro i d ρ hd ⟨y, rfl⟩
    have e2 : (2 : Int) * 2 ^ i = 2 ^ (i + 1) := by rw [Int.pow_succ, Int.mul_comm]
    refine ⟨_, rfl, [.val (.int (n : Int)), .val (.int ((2 : Int) ^ (i + 1))), .val d], .inl ?_, .val d, rfl⟩
    simp [h2, e2]
structure MachOk (m : Nat) (wide : Int) (S : List Mst) : Prop where
  m3 : m ≤ 3
  n : S.length ≤ 90
  ne : S ≠ []
  len : ∀ s ∈ S, s.length = 2 ^ m
  pr : ∀ s ∈ S, ∀ p ∈ s, (p.1.length : Int) = wide ∧ 0 ≤ p.2 ∧ p.2 < S.length
theorem MachOk.sized {m : Nat} {wide : Int} {S : List Mst} (h : MachOk m wide S) : Sized S (2 ^ m) := ⟨h.n, by
  have := Nat.pow_le_pow_right (n := 2) (by omega) h.m3
  omega, h.len⟩
@[simp] theorem ix_mc0 {a b : Int} {S : List Mst} {r : RV} : ixR r (mcD a b S) (.int 0) = .ok (.val (.int a)) := ix_tup (k := 0) rfl rfl rfl
@[simp] theorem ix_mc1 {a b : Int} {S : List Mst} {r : RV} : ixR r (mcD a b S) (.int 1) = .ok (.val (.int b)) := ix_tup (k := 1) rfl rfl rfl
@[simp] theorem ix_mc2 {a b : Int} {S : List Mst} {r : RV} : ixR r (mcD a b S) (.int 2) = .ok (.val (stsD S)) := ix_tup (k := 2) rfl (by simp) rfl
@[simp] theorem e_dChain {g g' : D → D → Res D} {fa fb fc : Ev → Res RV} {ρ : Ev} : dChain g g' fa fb fc ρ = (do
  let x ← fa ρ
  let y ← fb ρ
  let dx ← lookD ρ x
  let dy ← lookD ρ y
  let d ← g dx dy
  match d with
  | .bl true => do
    let z ← fc ρ
    let dz ← lookD ρ z
    let d' ← g' dy dz
    .ok (.val d')
  | .bl false => .ok (.val (.bl false))
  | _ => .bad) := (rfl)
@[simp] theorem items_sts {S : List Mst} : itemsD (stsD S) = some (S.map stD) := by
  have h : noOwnL (S.map stD) = true := n_map fun _ => n_stD
  show (if noOwnL (S.map stD) then some (S.map stD) else none) = _
  rw [h]; rfl
@[simp] theorem items_st {s : Mst} : itemsD (stD s) = some (s.map prD) := by
  have h : noOwnL (s.map prD) = true := n_map fun _ => n_prD
  show (if noOwnL (s.map prD) then some (s.map prD) else none) = _
  rw [h]; rfl
theorem need_machine_is {m : Nat} {wide : Int} {S : List Mst} (z : MachOk m wide S) : m_need_machine [mcD (m : Int) wide S] = .ok .non := by
  have hne : ¬ ((S.length : Int) = 0) := by
    have := List.length_pos_iff.mpr z.ne
    omega
  have hro := rows_of_is (n := m) (by have := z.m3; omega)
  have hpow : (((2 ^ m : Nat) : Nat) : Int) = (2 : Int) ^ m := by simp
  have key := forL_inv (h := hN 2) (f := (dSeq (dIf (dTst (dBin gNe (dFn gLen (dCons (dVar 2) dNil)) (dCall m_rows_of (dCons (dIx (dVar 0) (dC (.int 0))) dNil)))) (dRaise "NoMachine") dNext)
    (dFor (dItemsS (dXf (dVar 2))) (hN 3) (dIf (dOr (dTst (dBin gNe (dFn gLen (dCons (dIx (dVar 3) (dC (.int 0))) dNil)) (dIx (dVar 0) (dC (.int 1))))) (dNot (dTst (dChain gLe gLt (dC (.int 0)) (dIx (dVar 3) (dC (.int 1))) (dFn gLen (dCons (dVar 1) dNil)))))) (dRaise "NoMachine") dNext))))
    (fun _ ρ => ∃ x y, ρ = [.val (mcD (m : Int) wide S), .val (stsD S), x, y]) (ds := S.map stD) (ρ := [.val (mcD (m : Int) wide S), .val (stsD S), .none, .none]) ⟨_, _, rfl⟩ ?_
  · obtain ⟨ρ', e, x, y, rfl⟩ := key
    simp [m_need_machine, e_dDef, b_need_machine, hne, z.ne, e]
  · rintro i d ρ hd ⟨x, y, rfl⟩
    rw [List.getElem?_map] at hd
    obtain ⟨s, hs, rfl⟩ := Option.map_eq_some_iff.mp hd
    have hsm := List.mem_of_getElem? hs
    have hl := z.len s hsm
    have hl2 : (s.length : Int) = (2 : Int) ^ m := by rw [hl]; exact hpow
    refine ⟨_, rfl, ?_⟩
    simp only [List.set_cons_succ, List.set_cons_zero]
    have key2 := forL_inv (h := hN 3) (f := (dIf (dOr (dTst (dBin gNe (dFn gLen (dCons (dIx (dVar 3) (dC (.int 0))) dNil)) (dIx (dVar 0) (dC (.int 1))))) (dNot (dTst (dChain gLe gLt (dC (.int 0)) (dIx (dVar 3) (dC (.int 1))) (dFn gLen (dCons (dVar 1) dNil)))))) (dRaise "NoMachine") dNext))
      (fun _ ρ => ∃ y, ρ = [.val (mcD (m : Int) wide S), .val (stsD S), .val (stD s), y]) (ds := s.map prD) (ρ := [.val (mcD (m : Int) wide S), .val (stsD S), .val (stD s), y]) ⟨_, rfl⟩ ?_
    · obtain ⟨ρ', e, y', rfl⟩ := key2
      exact ⟨[.val (mcD (m : Int) wide S), .val (stsD S), .val (stD s), y'], .inl (by simp [hro, hl2, e]), _, _, rfl⟩
    · rintro j d ρ hd2 ⟨y', rfl⟩
      rw [List.getElem?_map] at hd2
      obtain ⟨p, hp, rfl⟩ := Option.map_eq_some_iff.mp hd2
      obtain ⟨h1, h2, h3⟩ := z.pr s hsm p (List.mem_of_getElem? hp)
      refine ⟨_, rfl, [.val (mcD (m : Int) wide S), .val (stsD S), .val (stD s), .val (prD p)], .inl ?_, _, rfl⟩
      have h2' : decide ((0 : Int) ≤ p.2) = true := decide_eq_true h2
      simp [h1, h2', h3]
/-! ### slices -/
theorem cut_to1 {α : Type} (xs : List α) : cutG xs none (some 1) = xs.take 1 := by
  unfold cutG
  rw [HT.sIx_none, show (some (1 : Int)) = some ((1 : Nat) : Int) from rfl, HT.sIx_nat, List.drop_zero, Nat.sub_zero]
  cases xs with
  | nil => rfl
  | cons x r =>
    have : min 1 (x :: r).length = 1 := by rw [List.length_cons]; omega
    rw [this]
theorem cut_from1 {α : Type} (xs : List α) : cutG xs (some 1) none = xs.drop 1 := by
  unfold cutG
  rw [HT.sIx_none, show (some (1 : Int)) = some ((1 : Nat) : Int) from rfl, HT.sIx_nat]
  cases xs with
  | nil => rfl
  | cons x r =>
    have : min 1 (x :: r).length = 1 := by rw [List.length_cons]; omega
    rw [this]
    show List.take ((r.length + 1) - 1) (r) = r
    rw [Nat.add_sub_cancel, List.take_length]
theorem slice_to1 {o : Bool} {l : List Int} : sliceD (.lst o (l.map .int)) none (some 1) = .ok (.lst true ((l.take 1).map .int)) := by
  show (if noOwnL (l.map .int) then Res.ok (D.lst true (cutG (l.map .int) none (some 1))) else .bad) = _
  rw [n_ints, if_pos rfl, cut_to1, List.map_take]
theorem slice_from1 {o : Bool} {l : List Int} : sliceD (.lst o (l.map .int)) (some 1) none = .ok (.lst true ((l.drop 1).map .int)) := by
  show (if noOwnL (l.map .int) then Res.ok (D.lst true (cutG (l.map .int) (some 1) none)) else .bad) = _
  rw [n_ints, if_pos rfl, cut_from1, List.map_drop]
@[simp] theorem e_dSlice {fa : Ev → Res RV} {fl fh : Ev → Res (Option Int)} {ρ : Ev} : dSlice fa fl fh ρ = (do
  let x ← fa ρ
  let l ← fl ρ
  let h ← fh ρ
  let dx ← lookD ρ x
  let d ← sliceD dx l h
  .ok (.val d)) := (rfl)
@[simp] theorem e_dSome {fa : Ev → Res RV} {ρ : Ev} : dSome fa ρ = (fa ρ >>= fun v => rvI v) := (rfl)
@[simp] theorem e_rvI {i : Int} : rvI (.val (.int i)) = .ok (some i) := (rfl)
@[simp] theorem e_dGet2 {fo fk fx : Ev → Res RV} {ρ : Ev} : dGet2 fo fk fx ρ = (do
  let o ← fo ρ
  let dO ← lookD ρ o
  if isDic dO then do
    let k ← fk ρ
    let x ← fx ρ
    let dk ← lookD ρ k
    match x with
    | .val dx => match getD2 dO dk dx with
      | some d => .ok (.val d)
      | none => .bad
    | _ => .bad
  else .bad) := (rfl)
/-! ### the law's own -/
theorem pair_is (x y : Int) : m__law_pair [.int x, .int y] = .ok (pE (if y < x then y else x, if y > x then y else x)) := by
  simp [m__law_pair, e_dDef, b__law_pair, pE]
def unlL (a b : Mst) : List Int := ((List.range a.length).filter (unl a b)).map fun (k : Nat) => (k : Int)
theorem unlike_is {a b : Mst} (hl : b.length = a.length) (hs : small a.length) : m__law_unlike [stD a, stD b] = .ok (.lst true ((unlL a b).map .int)) := by
  unfold small at hs
  have hr : ranD [.val (.int (a.length : Int))] = some (rangeD 0 a.length) := ran1n (by omega)
  have hlc := lcL_is (h := hN 2) (ft := dTst (dBin gNe (dIx (dIx (dVar 0) (dVar 2)) (dC (.int 0))) (dIx (dIx (dVar 1) (dVar 2)) (dC (.int 0))))) (fe := dVar 2) (ρ := [.val (stD a), .val (stD b), .none]) (dec := fun (k : Nat) => D.int (k : Int)) (g := fun (k : Nat) => D.int (k : Int)) (P := unl a b) (l := List.range a.length) (fun k hk => by
    have hk3 : k < a.length := List.mem_range.mp hk
    have hk4 : k < b.length := by omega
    refine ⟨_, rfl, ?_, fun _ => ?_⟩
    · rw [unl_at hk3 hk4]
      simp [ix_st hk3, ix_st hk4]
    · simp)
  have hrd : rangeD 0 (a.length : Int) = (List.range a.length).map fun (k : Nat) => D.int (k : Int) := by
    unfold rangeD
    have : ((a.length : Int) - 0).toNat = a.length := by omega
    rw [this]
    apply List.map_congr_left
    intro k _
    rw [Int.zero_add]
  have hf : fits ((List.range a.length).filter (unl a b)).length = true := by
    apply fits_of
    have := List.length_filter_le (unl a b) (List.range a.length)
    rw [List.length_range] at this
    omega
  unfold m__law_unlike
  rw [e_dDef]
  unfold b__law_unlike
  simp [hr, hrd, hlc, hf]
  simp [unlL]
theorem unlL_nil {S : List Mst} {k : K2} (h : NoU S k) : unlL (stA S k.1) (stA S k.2) = [] := by
  unfold unlL
  have : (List.range (stA S k.1).length).filter (unl (stA S k.1) (stA S k.2)) = [] := List.filter_eq_nil_iff.mpr fun j hj => by
    rw [h j (List.mem_range.mp hj)]; exact Bool.false_ne_true
  rw [this]; rfl
theorem filter_first {P : Nat → Bool} {n j : Nat} (hj : j < n) (hp : P j = true) (hl : ∀ i, i < j → P i = false) : ((List.range n).filter P).take 1 = [j] := by
  have e : List.range n = List.range j ++ (j :: (List.range' (j + 1) (n - (j + 1)))) := by
    have h1 : n = j + (1 + (n - (j + 1))) := by omega
    conv => lhs; rw [h1]
    rw [List.range_eq_range', List.range_eq_range', ← List.range'_append_1, ← List.range'_append_1]
    simp
  rw [e, List.filter_append]
  have h0 : (List.range j).filter P = [] := List.filter_eq_nil_iff.mpr fun i hi => by
    rw [hl i (List.mem_range.mp hi)]; exact Bool.false_ne_true
  rw [h0, List.nil_append, List.filter_cons, if_pos hp]
  rfl
theorem unlL_first {S : List Mst} {k : K2} {m : Int} (h : FirstU S k m) : (unlL (stA S k.1) (stA S k.2)).take 1 = [m] ∧ unlL (stA S k.1) (stA S k.2) ≠ [] := by
  obtain ⟨j, rfl, hj, hu, hl⟩ := h
  have e : (unlL (stA S k.1) (stA S k.2)).take 1 = [(j : Int)] := by
    unfold unlL
    rw [← List.map_take, filter_first hj hu hl]; rfl
  refine ⟨e, fun z => ?_⟩
  rw [z] at e; cases e
@[simp] theorem ne_nil {o o' : Bool} {ns : List Int} : gNe (.lst o (ns.map .int)) (.lst o' []) = .ok (.bl (!decide (ns = []))) := ne_ints (ms := [])
theorem ne_of_ints {o o' : Bool} {ns ms : List Int} : gNe (.lst o (ns.map .int)) (.lst o' (ms.map .int)) = .ok (.bl (!decide (ns = ms))) := ne_ints
theorem first_is {S : List Mst} {R : Nat} {O : Fd} {k : K2} {rows : List Int} (z : Sized S R) (fi : FinalI S O) (hk : look O k = some rows) : m__law_first [stsD S, pE k, dF false (fz O)] = .ok (.bl true) := by
  obtain ⟨⟨v0, v1, v2⟩, hg, hr1, hr2⟩ := fi.fnd k rows hk
  have hk1 : k.1 < S.length := by omega
  have hk20 : 0 ≤ k.2 := by omega
  have la := stA_len z v0 hk1
  have lb := stA_len z hk20 v2
  have hz := z.r
  have hun := unlike_is (a := stA S k.1) (b := stA S k.2) (by rw [la, lb]) (by unfold small; omega)
  have hix := fun r => ix_dF (r := r) hk
  have hlen : gLen [D.lst false (rows.map .int)] = .ok (.int rows.length) := by rw [g_lenL, List.length_map]
  have hsl0 : ∀ l : List Int, sliceD (.lst true (l.map .int)) none (some 1) = .ok (.lst true ((l.take 1).map .int)) := fun l => slice_to1
  rcases hg with ⟨m, rfl, hf⟩ | ⟨hnu, j, rest, rfl, hj, hl, hr3, hall⟩
  · obtain ⟨h1, h2⟩ := unlL_first hf
    have hsl := hsl0 (unlL (stA S k.1) (stA S k.2))
    rw [h1] at hsl
    have heq : gEq (D.lst false [.int m]) (D.lst true [.int m]) = .ok (.bl true) := by
      have := eq_ints (o := false) (o' := true) (ns := [m]) (ms := [m])
      simpa using this
    simp only [List.map_cons, List.map_nil] at hix hsl
    have hne : gNe (D.lst true ((unlL (stA S k.1) (stA S k.2)).map .int)) (.lst true []) = .ok (.bl true) := by
      rw [ne_nil, decide_eq_false h2]; rfl
    simp [m__law_first, e_dDef, b__law_first, ix_stsI v0 hk1, ix_stsI hk20 v2, hix, hun, hne, hsl, heq]
  · have hnil := unlL_nil hnu
    rw [hnil] at hun
    have hne : gNe (D.lst true (([] : List Int).map .int)) (.lst true []) = .ok (.bl false) := by
      rw [ne_nil]; rfl
    simp only [List.map_nil] at hun hne
    have hlen1 : gEq (.int ((rest.length : Int) + 1)) (.int 1) = .ok (.bl false) := by
      rw [eq_int, decide_eq_false (by omega)]
    have hr : ranD [.val (.int ((stA S k.1).length : Int))] = some (rangeD 0 (stA S k.1).length) := ran1n (by omega)
    have hdrop : sliceD (.lst false (((j : Int) :: rest).map .int)) (some 1) none = .ok (.lst true (rest.map .int)) := by
      rw [slice_from1]; rfl
    have hdic : isDic (dF false (fz O)) = true := rfl
    have key := forL_inv (h := hN 7) (f := (dSeq (dSet 8 (dXf (dGet2 (dVar 2) (dCall m__law_pair (dCons (dIx (dIx (dVar 3) (dVar 7)) (dC (.int 1))) (dCons (dIx (dIx (dVar 4) (dVar 7)) (dC (.int 1))) dNil))) (dC .non))))
    (dSeq (dIf (dAnd (dTst (dBin gIsNot (dVar 8) (dC .non))) (dTst (dBin gLt (dFn gLen (dCons (dVar 8) dNil)) (dBin gSub (dFn gLen (dCons (dVar 5) dNil)) (dC (.int 1)))))) (dRet (dXm (dC (.bl false)))) dNext)
    (dSeq (dIf (dAnd (dTst (dBin gIsNot (dVar 8) (dC .non))) (dAnd (dTst (dBin gLt (dVar 7) (dIx (dVar 5) (dC (.int 0))))) (dTst (dBin gLt (dFn gLen (dCons (dVar 8) dNil)) (dFn gLen (dCons (dVar 5) dNil)))))) (dRet (dXm (dC (.bl false)))) dNext)
    (dIf (dAnd (dTst (dBin gEq (dVar 7) (dIx (dVar 5) (dC (.int 0))))) (dTst (dBin gNe (dVar 8) (dSlice (dVar 5) (dSome (dC (.int 1))) dNo)))) (dRet (dXm (dC (.bl false)))) dNext)))))
      (fun _ ρ => ∃ x y, ρ = [.val (stsD S), .val (pE k), .val (dF false (fz O)), .val (stD (stA S k.1)), .val (stD (stA S k.2)), .val (.lst false (((j : Int) :: rest).map .int)), .val (.lst true []), x, y]) (ds := rangeD 0 (stA S k.1).length)
      (ρ := [.val (stsD S), .val (pE k), .val (dF false (fz O)), .val (stD (stA S k.1)), .val (stD (stA S k.2)), .val (.lst false (((j : Int) :: rest).map .int)), .val (.lst true []), .none, .none]) ⟨_, _, rfl⟩ ?_
    · obtain ⟨ρ', e, x, y, rfl⟩ := key
      simp only [List.map_cons] at e hix hlen
      simp [m__law_first, e_dDef, b__law_first, ix_stsI v0 hk1, ix_stsI hk20 v2, hix, hun, hne, hlen1, hr, e]
    · rintro i d ρ hd ⟨x, y, rfl⟩
      obtain ⟨rfl, hi2⟩ := rangeD_get hd
      have hi3 : i < (stA S k.1).length := by omega
      have hi4 : i < (stA S k.2).length := by omega
      have e0 : (0 : Int) + (i : Int) = (i : Int) := by omega
      rw [e0]
      refine ⟨_, rfl, ?_⟩
      simp only [List.set_cons_succ, List.set_cons_zero]
      have hsu := succ_at hi3 hi4
      have hpair := pair_is ((stA S k.1)[i].2) ((stA S k.2)[i].2)
      rw [← hsu] at hpair
      have hg2 := get2_dF (F := O) (k := succ (stA S k.1) (stA S k.2) i)
      have hix0 : ∀ r, ixR r (D.lst false (.int (j : Int) :: rest.map .int)) (.int 0) = .ok (.val (.int (j : Int))) := fun r => ix_lst (k := 0) rfl rfl (by unfold ixN; simp)
      have hno : noOwnL (D.int (j : Int) :: rest.map .int) = true := by simp
      simp only [List.map_cons] at hdrop
      cases c : look O (succ (stA S k.1) (stA S k.2) i) with
      | none =>
        rw [c] at hg2
        have hji : ¬ ((i : Int) = (j : Int)) := fun e => by
          have e : i = j := by omega
          subst e
          have hl : look O (succ (stA S k.1) (stA S k.2) i) = some rest := hl
          rw [c] at hl; cases hl
        refine ⟨[.val (stsD S), .val (pE k), .val (dF false (fz O)), .val (stD (stA S k.1)), .val (stD (stA S k.2)), .val (.lst false (((j : Int) :: rest).map .int)), .val (.lst true []), .val (.int (i : Int)), .val .non], .inl ?_, _, _, rfl⟩
        have hin : gIsNot .non .non = .ok (.bl false) := rfl
        simp [ix_st hi3, ix_st hi4, hpair, hg2, hdic, hin, hix0, hji]
      | some later =>
        rw [c] at hg2
        obtain ⟨a1, a2⟩ := hall i hi3 later c
        have hin : gIsNot (D.lst false (later.map .int)) .non = .ok (.bl true) := rfl
        refine ⟨[.val (stsD S), .val (pE k), .val (dF false (fz O)), .val (stD (stA S k.1)), .val (stD (stA S k.2)), .val (.lst false (((j : Int) :: rest).map .int)), .val (.lst true []), .val (.int (i : Int)), .val (.lst false (later.map .int))], .inl ?_, _, _, rfl⟩
        have t1 : ¬ (later.length < rest.length) := by omega
        rcases Nat.lt_trichotomy i j with hij | hij | hij
        · have a3 := a2 hij
          have t2 : ¬ (later.length < rest.length + 1) := by omega
          have t2' : ¬ ((later.length : Int) < (rest.length : Int) + 1) := by omega
          have t3 : ¬ ((i : Int) = (j : Int)) := by omega
          simp [ix_st hi3, ix_st hi4, hpair, hg2, hdic, hin, hix0, t1, t2, t2', t3, hij]
        · subst hij
          have hl : look O (succ (stA S k.1) (stA S k.2) i) = some rest := hl
          rw [c] at hl
          cases hl
          have hnn : gNe (D.lst false (rest.map .int)) (D.lst true (rest.map .int)) = .ok (.bl false) := by
            rw [ne_ints, decide_eq_true rfl]; rfl
          simp [ix_st hi3, ix_st hi4, hpair, hg2, hdic, hin, hix0, hdrop, hnn]
        · have t2 : ¬ (i < j) := by omega
          have t3 : ¬ ((i : Int) = (j : Int)) := by omega
          simp [ix_st hi3, ix_st hi4, hpair, hg2, hdic, hin, hix0, t1, t2, t3]
/-! ### the law's machine -/
theorem cell_is (ns : List Int) {k : Int} (hk : 0 ≤ k) : ∃ c, m__law_cell_at [.scr ns, .int k] = .ok (.int c) := by
  by_cases h : k < ns.length
  · obtain ⟨n, rfl⟩ := Int.eq_ofNat_of_zero_le hk
    have hn : n < ns.length := by omega
    have hix : ∀ r, ixR r (.scr ns) (.int (n : Int)) = .ok (.val (.int ns[n])) := fun r => by
      unfold ixR
      have : leafIx (.scr ns) (.int (n : Int)) = some (.int ns[n]) := by
        show (atI ns (n : Int)).map D.int = _
        unfold atI
        rw [ixN_of hn]
        simp [hn]
      rw [this]
    have h' : decide ((n : Int) < (ns.length : Int)) = true := decide_eq_true h
    exact ⟨ns[n], by simp [m__law_cell_at, e_dDef, b__law_cell_at, hix, hn]⟩
  · exact ⟨0, by simp [m__law_cell_at, e_dDef, b__law_cell_at, h]⟩
theorem mixed_is (c k : Int) : ∃ v, 0 ≤ v ∧ m__law_mixed [.int c, .int k] = .ok (.int v) := by
  have h1 : sm 48271 = true := sm_of (by decide) (by decide)
  have h2 : sm 7919 = true := sm_of (by decide) (by decide)
  have h3 : sm 7 = true := sm_of (by decide) (by decide)
  have h4 : sm ((c + 7919 * k) * 48271 % 2147483647) = true := sm_of (by omega) (by omega)
  refine ⟨_, ?_, by simp [m__law_mixed, e_dDef, b__law_mixed, h1, h2, h3, h4]; rfl⟩
  exact Int.emod_nonneg _ (by decide)
@[simp] theorem eq_bl_int (i j : Int) : gEq (.int i) (.int j) = .ok (.bl (decide (i = j))) := eq_int
theorem mut_is {ρ : Ev} {i : Nat} {m : List D → List D} {xs : List D} (h : ρ[i]? = some (.val (.lst true xs))) : dMut0 m (dVar i) ρ = .ok (.nx (ρ.set i (.val (.lst true (m xs))))) := by
  unfold dMut0
  have hv : dVar i ρ = .ok (.lv i []) := by rw [e_dVar, h]; rfl
  rw [hv]
  simp only [ok_bind, place0, h, n_lstT]
  rfl
theorem row_is (num : Int) {w : Int} (h0 : 0 ≤ w) (h1 : w ≤ 100) : ∃ bs : List Bool, (bs.length : Int) = w ∧ m__law_row [.int num, .int w] = .ok (.tup (bs.map .bl)) := by
  have hr : ranD [.val (.int w)] = some (rangeD 0 w) := ran1 (by omega)
  have key := forL_inv (h := hN 3) (f := (dSeq (dApp 2 (dXm (dBin gEq (dBin gMod (dVar 0) (dC (.int 2))) (dC (.int 1)))))
    (dSet 0 (dXf (dBin gDiv (dVar 0) (dC (.int 2))))))) (fun i ρ => ∃ num bs y, ρ = [.val (.int num), .val (.int w), .val (.lst true ((bs : List Bool).map .bl)), y] ∧ bs.length = i) (ds := rangeD 0 w) (ρ := [.val (.int num), .val (.int w), .val (.lst true []), .none]) ⟨num, [], _, rfl, rfl⟩ ?_
  · obtain ⟨ρ', e, num', bs, y, rfl, hl⟩ := key
    rw [rangeD_len] at hl
    refine ⟨bs.reverse, by rw [List.length_reverse]; omega, ?_⟩
    have hm := mut_is (ρ := [.val (.int num'), .val (.int w), .val (.lst true (bs.map .bl)), y]) (i := 2) (m := List.reverse) (xs := bs.map .bl) rfl
    have hg : gTuple [.lst true ((bs.map D.bl).reverse)] = .ok (.tup ((bs.map D.bl).reverse)) := by
      have : noOwnL ((bs.map D.bl).reverse) = true := by rw [← List.map_reverse]; exact n_bls
      show (if noOwnL ((bs.map D.bl).reverse) then Res.ok (D.tup ((bs.map D.bl).reverse)) else .bad) = _
      rw [this]; rfl
    have hn : noOwnL ((bs.map D.bl).reverse) = true := by rw [← List.map_reverse]; exact n_bls
    simp [m__law_row, e_dDef, b__law_row, hr, e, hm, hg]
  · rintro i d ρ hd ⟨num', bs, y, rfl, hl⟩
    obtain ⟨rfl, hi⟩ := rangeD_get hd
    refine ⟨_, rfl, [.val (.int (num' / 2)), .val (.int w), .val (.lst true ((bs ++ [decide (num' % 2 = 1)]).map .bl)), .val (.int (0 + (i : Int)))], .inl ?_, _, _, _, rfl, by rw [List.length_append, hl]; rfl⟩
    have ha := app_is (i := 2) (ρ := [.val (.int num'), .val (.int w), .val (.lst true (bs.map .bl)), .val (.int (0 + (i : Int)))]) (ρ' := [.val (.int num'), .val (.int w), .val (.lst true (bs.map .bl)), .val (.int (0 + (i : Int)))])
      (fx := dXm (dBin gEq (dBin gMod (dVar 0) (dC (.int 2))) (dC (.int 1)))) (d := .bl (decide (num' % 2 = 1))) (xs := bs.map .bl) (xs0 := bs.map .bl) rfl (by simp) rfl (by rw [List.length_map]; omega)
    simp only [e_dSeq, List.set_cons_succ, List.set_cons_zero, ha, ok_bind]
    simp
theorem rows_of4 {m : Nat} (h : m ≤ 3) : m__law_rows_of [.int (m : Int)] = .ok (.int (((2 ^ m : Nat) : Nat) : Int)) := by
  have hix : ∀ r, ixR r (.lst true [.int 1, .int 2, .int 4, .int 8]) (.int (m : Int)) = .ok (.val (.int (((2 ^ m : Nat) : Nat) : Int))) := fun r => by
    refine ix_lst (k := m) ?_ rfl (ixN_of (by simp; omega))
    match m, h with
    | 0, _ => rfl
    | 1, _ => rfl
    | 2, _ => rfl
    | 3, _ => rfl
  simp [m__law_rows_of, e_dDef, b__law_rows_of, hix]
theorem ix_ints {l : List Int} {o : Bool} {r : RV} {i : Int} (h0 : 0 ≤ i) (h : i < l.length) : ∃ v ∈ l, ixR r (.lst o (l.map .int)) (.int i) = .ok (.val (.int v)) := by
  obtain ⟨n, rfl⟩ := Int.eq_ofNat_of_zero_le h0
  have hn : n < l.length := by omega
  exact ⟨l[n], List.getElem_mem _, ix_lst (k := n) (by simp [hn]) rfl (ixN_of (by simpa using hn))⟩
theorem mul_bl {b : Bool} {w : Int} (h0 : 0 ≤ w) (h1 : w ≤ 100) : gMul (.lst true [.bl b]) (.int w) = .ok (.lst true ((List.replicate w.toNat b).map .bl)) := by
  have hf : fits ([D.bl b].length * w.toNat) = true := fits_of (by simp; omega)
  have hc : clD (-(2 ^ 63) ≤ w ∧ w < 2 ^ 63) = true := clD_of (by omega)
  show (if noOwnL [D.bl b] && clD (-(2 ^ 63) ≤ w ∧ w < 2 ^ 63) && fits ([D.bl b].length * w.toNat) then Res.ok (D.lst true (List.replicate w.toNat [D.bl b]).flatten) else .bad) = _
  rw [hf, hc]
  have : (List.replicate w.toNat [D.bl b]).flatten = (List.replicate w.toNat b).map D.bl := by
    induction w.toNat with
    | zero => rfl
    | succ n ih => rw [List.replicate_succ, List.flatten_cons, ih, List.replicate_succ]; rfl
  rw [this]; rfl
noncomputable def mi1 : Ev → Res Out := (dSet 12 (dXf (dCall m__law_mixed (dCons (dCall m__law_cell_at (dCons (dVar 0) (dCons (dBin gAdd (dBin gAdd (dVar 1) (dC (.int 2))) (dBin gMod (dBin gMod (dVar 9) (dVar 7)) (dC (.int 6)))) dNil))) (dCons (dBin gAdd (dBin gMul (dC (.int 8)) (dBin gMod (dVar 9) (dVar 7))) (dVar 11)) dNil)))))
noncomputable def mi2 : Ev → Res Out := (dSet 13 (dXf (dBin gMul (dLst (dCons (dC (.bl false)) dNil)) (dVar 5))))
noncomputable def mi3 : Ev → Res Out := (dIf (dTst (dBin gEq (dBin gMod (dVar 12) (dC (.int 4))) (dC (.int 0)))) (dSet 13 (dXf (dFn gList (dCons (dCall m__law_row (dCons (dBin gDiv (dVar 12) (dC (.int 4))) (dCons (dVar 5) dNil))) dNil)))) dNext)
noncomputable def mi4 : Ev → Res Out := (dSet 14 (dXf (dBin gMod (dBin gDiv (dVar 12) (dC (.int 64))) (dVar 7))))
noncomputable def mi5 : Ev → Res Out := (dIf (dTst (dBin gEq (dBin gMod (dVar 3) (dC (.int 3))) (dC (.int 1)))) (dSeq (dSet 13 (dXf (dBin gMul (dLst (dCons (dBin gEq (dBin gMod (dVar 9) (dVar 7)) (dBin gSub (dVar 7) (dC (.int 1)))) dNil)) (dVar 5)))) (dSet 14 (dXf (dIx (dLst (dCons (dFn gMin2 (dCons (dBin gAdd (dBin gMod (dVar 9) (dVar 7)) (dC (.int 1))) (dCons (dBin gSub (dVar 7) (dC (.int 1))) dNil))) (dCons (dC (.int 0)) dNil))) (dFn gMin2 (dCons (dVar 11) (dCons (dC (.int 1)) dNil))))))) dNext)
noncomputable def mi6 : Ev → Res Out := (dSet 15 (dXf (dBin gMod (dCall m__law_mixed (dCons (dBin gAdd (dVar 3) (dVar 9)) (dCons (dVar 11) dNil))) (dBin gAdd (dBin gDiv (dBin gSub (dBin gSub (dVar 6) (dC (.int 1))) (dVar 14)) (dVar 7)) (dC (.int 1))))))
noncomputable def mi7 : Ev → Res Out := (dApp 10 (dXtup (dXcons (dXm (dFn gTuple (dCons (dVar 13) dNil))) (dXcons (dXm (dBin gAdd (dVar 14) (dBin gMul (dVar 7) (dVar 15)))) dXnil))))
noncomputable def mIn : Ev → Res Out := (dSeq mi1 (dSeq mi2 (dSeq mi3 (dSeq mi4 (dSeq mi5 (dSeq mi6 mi7))))))
noncomputable def mOut : Ev → Res Out := (dSeq (dSet 10 (dXf (dLst dNil))) (dSeq (dFor (dKeep (dRan (dCons (dCall m__law_rows_of (dCons (dVar 4) dNil)) dNil))) (hN 11) mIn) (dApp 8 (dXm (dVar 10)))))
noncomputable def mo0 : Ev → Res Out := (dSet 2 (dXf (dCall m__law_cell_at (dCons (dVar 0) (dCons (dVar 1) dNil)))))
noncomputable def mo1 : Ev → Res Out := (dSet 3 (dXf (dCall m__law_cell_at (dCons (dVar 0) (dCons (dBin gAdd (dVar 1) (dC (.int 1))) dNil)))))
noncomputable def mo2 : Ev → Res Out := (dSet 4 (dXf (dBin gMod (dVar 2) (dC (.int 4)))))
noncomputable def mo3 : Ev → Res Out := (dSet 5 (dXf (dIx (dLst (dCons (dC (.int 1)) (dCons (dC (.int 2)) (dCons (dC (.int 1)) (dCons (dC (.int 0)) (dCons (dC (.int 3)) (dCons (dBin gAdd (dC (.int 4)) (dBin gMod (dBin gDiv (dVar 3) (dC (.int 24))) (dC (.int 9)))) (dCons (dC (.int 2)) (dCons (dC (.int 1)) dNil))))))))) (dBin gMod (dBin gDiv (dVar 3) (dC (.int 3))) (dC (.int 8))))))
noncomputable def mo4 : Ev → Res Out := (dSet 6 (dXf (dBin gAdd (dC (.int 1)) (dBin gMod (dBin gDiv (dVar 2) (dC (.int 4))) (dC (.int 11))))))
noncomputable def mo5 : Ev → Res Out := (dIf (dOr (dTst (dBin gEq (dVar 6) (dC (.int 9)))) (dTst (dBin gEq (dVar 6) (dC (.int 10))))) (dSeq (dSet 6 (dXf (dBin gAdd (dC (.int 8)) (dBin gMod (dBin gDiv (dVar 2) (dC (.int 44))) (dC (.int 5)))))) (dSet 4 (dXf (dFn gMin2 (dCons (dVar 4) (dCons (dIx (dLst (dCons (dC (.int 3)) (dCons (dC (.int 2)) dNil))) (dFn gInt (dCons (dBin gGt (dVar 6) (dC (.int 9))) dNil))) dNil)))))) dNext)
noncomputable def mo6 : Ev → Res Out := (dIf (dTst (dBin gEq (dVar 6) (dC (.int 11)))) (dSeq (dSet 6 (dXf (dBin gAdd (dC (.int 12)) (dBin gMod (dBin gDiv (dVar 2) (dC (.int 44))) (dC (.int 9)))))) (dSet 4 (dXf (dBin gMod (dVar 4) (dC (.int 2)))))) dNext)
noncomputable def mo7 : Ev → Res Out := (dSet 7 (dXf (dBin gSub (dVar 6) (dBin gMod (dBin gDiv (dVar 3) (dC (.int 24))) (dVar 6)))))
noncomputable def mo8 : Ev → Res Out := (dSet 8 (dXf (dLst dNil)))
noncomputable def mo10 : Ev → Res Out := (dRet (dXtup (dXcons (dXm (dVar 4)) (dXcons (dXm (dVar 5)) (dXcons (dXm (dVar 8)) dXnil)))))
noncomputable def mo9 : Ev → Res Out := (dFor (dKeep (dRan (dCons (dVar 6) dNil))) (hN 9) mOut)
theorem b_machine_is : b__law_machine = (dSeq mo0 (dSeq mo1 (dSeq mo2 (dSeq mo3 (dSeq mo4 (dSeq mo5 (dSeq mo6 (dSeq mo7 (dSeq mo8 (dSeq mo9 mo10)))))))))) := (rfl)
@[simp] theorem list_bls {bs : List Bool} : gList [.tup (bs.map .bl)] = .ok (.lst true (bs.map .bl)) := by
  show (if noOwnL (bs.map .bl) then Res.ok (D.lst true (bs.map .bl)) else .bad) = _
  rw [n_bls]; rfl
theorem tup_bls {bs : List Bool} : gTuple [.lst true (bs.map .bl)] = .ok (.tup (bs.map .bl)) := by
  show (if noOwnL (bs.map .bl) then Res.ok (D.tup (bs.map .bl)) else .bad) = _
  rw [n_bls]; rfl
section
variable {ns : List Int} {at_ c kd m w n b k j : Int} {x8 x12 x13 x14 x15 : SL} {L : Mst}
/-- the slots of the inner loop -/
def iE (ns : List Int) (at_ c kd m w n b : Int) (x8 : SL) (k : Int) (L : Mst) (j : Int) (x12 x13 x14 x15 : SL) : Ev :=
  [.val (.scr ns), .val (.int at_), .val (.int c), .val (.int kd), .val (.int m), .val (.int w), .val (.int n), .val (.int b), x8, .val (.int k), .val (.lst true (L.map prD)), .val (.int j), x12, x13, x14, x15]
theorem mi1_is (ha : 0 ≤ at_) (hb : 0 < b) (hk : 0 ≤ k) (hj : 0 ≤ j) (hbs : b ≤ 100) : ∃ v, 0 ≤ v ∧ mi1 (iE ns at_ c kd m w n b x8 k L j x12 x13 x14 x15) = .ok (.nx (iE ns at_ c kd m w n b x8 k L j (.val (.int v)) x13 x14 x15)) := by
  have h1 : 0 ≤ k % b % 6 := Int.emod_nonneg _ (by decide)
  obtain ⟨cc, hc⟩ := cell_is ns (k := at_ + 2 + k % b % 6) (by omega)
  obtain ⟨v, hv, hm⟩ := mixed_is cc (8 * (k % b) + j)
  have h8 : sm 8 = true := sm_of (by decide) (by decide)
  exact ⟨v, hv, by simp [mi1, iE, hb, hc, hm, h8]⟩
theorem mi23_is {v : Int} (hv : 0 ≤ v) (hw0 : 0 ≤ w) (hw : w ≤ 100) : ∃ bs : List Bool, (bs.length : Int) = w ∧ (dSeq mi2 mi3) (iE ns at_ c kd m w n b x8 k L j (.val (.int v)) x13 x14 x15) = .ok (.nx (iE ns at_ c kd m w n b x8 k L j (.val (.int v)) (.val (.lst true (bs.map .bl))) x14 x15)) := by
  have hmul := mul_bl (b := false) hw0 hw
  by_cases h : v % 4 = 0
  · obtain ⟨bs, hl, hr⟩ := row_is (v / 4) hw0 hw
    exact ⟨bs, hl, by simp [mi2, mi3, iE, hmul, h, hr]⟩
  · refine ⟨List.replicate w.toNat false, by rw [List.length_replicate]; omega, ?_⟩
    simp only [e_dSeq, mi2, mi3, iE]
    simp [hmul, h, -List.map_replicate]
theorem mi45_is {v : Int} {bs : List Bool} (hl : (bs.length : Int) = w) (hv : 0 ≤ v) (hw0 : 0 ≤ w) (hw : w ≤ 100) (hb : 0 < b) (hbs : b ≤ 100) (hk : 0 ≤ k) (hj : 0 ≤ j) : ∃ (bs' : List Bool) (g : Int), (bs'.length : Int) = w ∧ 0 ≤ g ∧ g < b ∧
    (dSeq mi4 mi5) (iE ns at_ c kd m w n b x8 k L j (.val (.int v)) (.val (.lst true (bs.map .bl))) x14 x15) = .ok (.nx (iE ns at_ c kd m w n b x8 k L j (.val (.int v)) (.val (.lst true (bs'.map .bl))) (.val (.int g)) x15)) := by
  by_cases h : kd % 3 = 1
  · have hmul := mul_bl (b := decide (k % b = b - 1)) hw0 hw
    have h1 : 0 ≤ k % b := Int.emod_nonneg _ (by omega)
    obtain ⟨g, hg, hix⟩ := ix_ints (l := [if b - 1 < k % b + 1 then b - 1 else k % b + 1, 0]) (o := true) (r := .val (.lst true [.int (if b - 1 < k % b + 1 then b - 1 else k % b + 1), .int 0])) (i := if (1 : Int) < j then 1 else j) (by split <;> omega) (by simp; split <;> omega)
    simp only [List.map_cons, List.map_nil] at hix
    have hgb : 0 ≤ g ∧ g < b := by
      simp only [List.mem_cons, List.not_mem_nil, or_false] at hg
      rcases hg with rfl | rfl
      · split <;> omega
      · omega
    refine ⟨List.replicate w.toNat (decide (k % b = b - 1)), g, by rw [List.length_replicate]; omega, hgb.1, hgb.2, ?_⟩
    simp only [e_dSeq, mi4, mi5, iE]
    simp [hb, h, hmul, hix, -List.map_replicate]
  · refine ⟨bs, v / 64 % b, hl, Int.emod_nonneg _ (by omega), Int.emod_lt_of_pos _ hb, ?_⟩
    simp [mi4, mi5, iE, hb, h]
theorem mi67_is {v g : Int} {bs : List Bool} (hl : (bs.length : Int) = w) (hg0 : 0 ≤ g) (hg : g < b) (hb : 0 < b) (hbs : b ≤ 100) (hn : b ≤ n) (hL : L.length < 1000) : ∃ p : Pr, (p.1.length : Int) = w ∧ 0 ≤ p.2 ∧ p.2 < n ∧ ∃ y,
    (dSeq mi6 mi7) (iE ns at_ c kd m w n b x8 k L j (.val (.int v)) (.val (.lst true (bs.map .bl))) (.val (.int g)) x15) = .ok (.nx (iE ns at_ c kd m w n b x8 k (L ++ [p]) j (.val (.int v)) (.val (.lst true (bs.map .bl))) (.val (.int g)) y)) := by
  obtain ⟨u, hu, hm⟩ := mixed_is (kd + k) j
  have hq : 0 ≤ (n - 1 - g) / b := Int.ediv_nonneg (by omega) (by omega)
  have hq1 : 0 < (n - 1 - g) / b + 1 := by omega
  have hb2 : b < 1073741824 := by omega
  have hsb : sm b = true := sm_of (by omega) (by omega)
  have ht0 : 0 ≤ u % ((n - 1 - g) / b + 1) := Int.emod_nonneg _ (by omega)
  have ht1 : u % ((n - 1 - g) / b + 1) < (n - 1 - g) / b + 1 := Int.emod_lt_of_pos _ hq1
  have hbt : b * (u % ((n - 1 - g) / b + 1)) ≤ n - 1 - g := by
    have h1 : b * (u % ((n - 1 - g) / b + 1)) ≤ b * ((n - 1 - g) / b) := Int.mul_le_mul_of_nonneg_left (by omega) (by omega)
    have h2 := Int.mul_ediv_self_le (x := n - 1 - g) (k := b) (by omega)
    omega
  have hbt0 : 0 ≤ b * (u % ((n - 1 - g) / b + 1)) := Int.mul_nonneg (by omega) ht0
  refine ⟨(bs, g + b * (u % ((n - 1 - g) / b + 1))), hl, by show 0 ≤ g + _; omega, by show g + _ < n; omega, .val (.int (u % ((n - 1 - g) / b + 1))), ?_⟩
  have ha := app_is (i := 10) (ρ := iE ns at_ c kd m w n b x8 k L j (.val (.int v)) (.val (.lst true (bs.map .bl))) (.val (.int g)) (.val (.int (u % ((n - 1 - g) / b + 1))))) (ρ' := iE ns at_ c kd m w n b x8 k L j (.val (.int v)) (.val (.lst true (bs.map .bl))) (.val (.int g)) (.val (.int (u % ((n - 1 - g) / b + 1)))))
    (fx := (dXtup (dXcons (dXm (dFn gTuple (dCons (dVar 13) dNil))) (dXcons (dXm (dBin gAdd (dVar 14) (dBin gMul (dVar 7) (dVar 15)))) dXnil)))) (d := prD (bs, g + b * (u % ((n - 1 - g) / b + 1)))) (xs := L.map prD) (xs0 := L.map prD) rfl (by simp [iE, tup_bls, hsb, prD]) rfl (by rw [List.length_map]; omega)
  have h6 : mi6 (iE ns at_ c kd m w n b x8 k L j (.val (.int v)) (.val (.lst true (bs.map .bl))) (.val (.int g)) x15) = .ok (.nx (iE ns at_ c kd m w n b x8 k L j (.val (.int v)) (.val (.lst true (bs.map .bl))) (.val (.int g)) (.val (.int (u % ((n - 1 - g) / b + 1)))))) := by
    simp [mi6, iE, hm, hb, hb2, hq1]
  rw [e_dSeq, h6, ok_bind]
  show dApp 10 _ _ = _
  rw [ha]
  simp [iE]
theorem mIn_is (ha : 0 ≤ at_) (hb : 0 < b) (hbs : b ≤ 100) (hn : b ≤ n) (hk : 0 ≤ k) (hj : 0 ≤ j) (hw0 : 0 ≤ w) (hw : w ≤ 100) (hL : L.length < 1000) : ∃ p : Pr, (p.1.length : Int) = w ∧ 0 ≤ p.2 ∧ p.2 < n ∧ ∃ y12 y13 y14 y15,
    mIn (iE ns at_ c kd m w n b x8 k L j x12 x13 x14 x15) = .ok (.nx (iE ns at_ c kd m w n b x8 k (L ++ [p]) j y12 y13 y14 y15)) := by
  obtain ⟨v, hv, e1⟩ := mi1_is (ns := ns) (at_ := at_) (c := c) (kd := kd) (m := m) (w := w) (n := n) (b := b) (k := k) (j := j) (x8 := x8) (x12 := x12) (x13 := x13) (x14 := x14) (x15 := x15) (L := L) ha hb hk hj hbs
  obtain ⟨bs, hl, e2⟩ := mi23_is (ns := ns) (at_ := at_) (c := c) (kd := kd) (m := m) (w := w) (n := n) (b := b) (k := k) (j := j) (x8 := x8) (x13 := x13) (x14 := x14) (x15 := x15) (L := L) hv hw0 hw
  obtain ⟨bs', g, hl', hg0, hg, e3⟩ := mi45_is (ns := ns) (at_ := at_) (c := c) (kd := kd) (m := m) (w := w) (n := n) (b := b) (k := k) (j := j) (x8 := x8) (x14 := x14) (x15 := x15) (L := L) hl hv hw0 hw hb hbs hk hj
  obtain ⟨p, h1, h2, h3, y, e4⟩ := mi67_is (ns := ns) (at_ := at_) (c := c) (kd := kd) (m := m) (w := w) (n := n) (b := b) (k := k) (j := j) (x8 := x8) (x15 := x15) (L := L) (v := v) hl' hg0 hg hb hbs hn hL
  refine ⟨p, h1, h2, h3, .val (.int v), .val (.lst true (bs'.map .bl)), .val (.int g), y, ?_⟩
  have two : ∀ (f g h : Ev → Res Out) (ρ ρ' : Ev), (dSeq f g) ρ = .ok (.nx ρ') → (dSeq f (dSeq g h)) ρ = h ρ' := fun f g h ρ ρ' e => by
    rw [e_dSeq] at e ⊢
    cases ef : f ρ with
    | bad => rw [ef] at e; cases e
    | exc c => rw [ef] at e; cases e
    | ok o =>
      rw [ef] at e
      cases o with
      | nx ρ1 =>
        have e : g ρ1 = .ok (.nx ρ') := e
        show dSeq g h ρ1 = _
        rw [e_dSeq, e]; rfl
      | rt d => cases e
      | bk ρ1 => cases e
      | ct ρ1 => cases e
  show (dSeq mi1 (dSeq mi2 (dSeq mi3 (dSeq mi4 (dSeq mi5 (dSeq mi6 mi7)))))) _ = _
  rw [e_dSeq, e1, ok_bind]
  show (dSeq mi2 (dSeq mi3 (dSeq mi4 (dSeq mi5 (dSeq mi6 mi7))))) _ = _
  rw [two _ _ _ _ _ e2, two _ _ _ _ _ e3, e4]
end
section
variable {ns : List Int} {at_ c kd m w n b k : Int} {x7 x8 x9 x10 x11 x12 x13 x14 x15 : SL}
def stO (s : Mst) : D := .lst true (s.map prD)
def OkSt (mm : Nat) (w n : Int) (s : Mst) : Prop := s.length = 2 ^ mm ∧ ∀ p ∈ s, (p.1.length : Int) = w ∧ 0 ≤ p.2 ∧ p.2 < n
theorem mOut_is {S : List Mst} {mm : Nat} (hm : mm ≤ 3) (ha : 0 ≤ at_) (hb : 0 < b) (hbs : b ≤ 100) (hn : b ≤ n) (hk : 0 ≤ k) (hw0 : 0 ≤ w) (hw : w ≤ 100) (hS : S.length < 1000) : ∃ L y10 y11 y12 y13 y14 y15, OkSt mm w n L ∧
    mOut [.val (.scr ns), .val (.int at_), .val (.int c), .val (.int kd), .val (.int (mm : Int)), .val (.int w), .val (.int n), .val (.int b), .val (.lst true (S.map stO)), .val (.int k), x10, x11, x12, x13, x14, x15] =
      .ok (.nx [.val (.scr ns), .val (.int at_), .val (.int c), .val (.int kd), .val (.int (mm : Int)), .val (.int w), .val (.int n), .val (.int b), .val (.lst true ((S ++ [L]).map stO)), .val (.int k), y10, y11, y12, y13, y14, y15]) := by
  have h2m : 2 ^ mm ≤ 8 := Nat.pow_le_pow_right (n := 2) (by omega) hm
  have hr : ranD [.val (.int (((2 ^ mm : Nat) : Nat) : Int))] = some (rangeD 0 ((2 ^ mm : Nat) : Int)) := ran1n (by omega)
  have hro := rows_of4 hm
  have key := forL_inv (h := hN 11) (f := mIn) (fun i ρ => ∃ L y11 y12 y13 y14 y15, ρ = [.val (.scr ns), .val (.int at_), .val (.int c), .val (.int kd), .val (.int (mm : Int)), .val (.int w), .val (.int n), .val (.int b), .val (.lst true (S.map stO)), .val (.int k), .val (.lst true ((L : Mst).map prD)), y11, y12, y13, y14, y15] ∧ L.length = i ∧ ∀ p ∈ L, (p.1.length : Int) = w ∧ 0 ≤ p.2 ∧ p.2 < n)
    (ds := rangeD 0 ((2 ^ mm : Nat) : Int)) (ρ := [.val (.scr ns), .val (.int at_), .val (.int c), .val (.int kd), .val (.int (mm : Int)), .val (.int w), .val (.int n), .val (.int b), .val (.lst true (S.map stO)), .val (.int k), .val (.lst true []), x11, x12, x13, x14, x15]) ⟨[], _, _, _, _, _, rfl, rfl, fun p h => nomatch h⟩ ?_
  · obtain ⟨ρ', e, L, y11, y12, y13, y14, y15, rfl, hl, hok⟩ := key
    rw [rangeD_len, Int.sub_zero, Int.toNat_natCast] at hl
    refine ⟨L, .val .dead, y11, y12, y13, y14, y15, ⟨hl, hok⟩, ?_⟩
    have hap := app_is (i := 8) (ρ := [.val (.scr ns), .val (.int at_), .val (.int c), .val (.int kd), .val (.int (mm : Int)), .val (.int w), .val (.int n), .val (.int b), .val (.lst true (S.map stO)), .val (.int k), .val (.lst true (L.map prD)), y11, y12, y13, y14, y15])
      (ρ' := [.val (.scr ns), .val (.int at_), .val (.int c), .val (.int kd), .val (.int (mm : Int)), .val (.int w), .val (.int n), .val (.int b), .val (.lst true (S.map stO)), .val (.int k), .val .dead, y11, y12, y13, y14, y15])
      (fx := dXm (dVar 10)) (d := stO L) (xs := S.map stO) (xs0 := S.map stO) rfl (by simp [stO]) rfl (by rw [List.length_map]; omega)
    simp only [mOut, e_dSeq, e_dSet, e_dXf, e_dLst, e_dNil, e_valsD0, ok_bind, e_takeF, List.set_cons_succ, List.set_cons_zero, e_dFor, e_dKeep, e_dRan]
    simp only [e_dCons, e_dCall, e_dVar, List.getElem?_cons_succ, List.getElem?_cons_zero, n_int, if_true, ok_bind, e_dNil, e_lookL1, e_lookL0, e_lookD, f_cons, f_int, f_nil, hro, n_cons, n_nil, Bool.and_true, Bool.true_or, hr, e_ofOpt, e, hap]
    simp
  · rintro i d ρ hd ⟨L, y11, y12, y13, y14, y15, rfl, hl, hok⟩
    obtain ⟨rfl, hi⟩ := rangeD_get hd
    refine ⟨_, rfl, ?_⟩
    simp only [List.set_cons_succ, List.set_cons_zero]
    obtain ⟨p, h1, h2, h3, z12, z13, z14, z15, e⟩ := mIn_is (ns := ns) (at_ := at_) (c := c) (kd := kd) (m := (mm : Int)) (w := w) (n := n) (b := b) (k := k) (j := 0 + (i : Int)) (x8 := .val (.lst true (S.map stO))) (x12 := y12) (x13 := y13) (x14 := y14) (x15 := y15) (L := L) ha hb hbs hn hk (by omega) hw0 hw (by omega)
    refine ⟨_, .inl e, L ++ [p], _, _, _, _, _, rfl, by rw [List.length_append, hl]; rfl, fun q hq => ?_⟩
    rcases List.mem_append.mp hq with z | z
    · exact hok q z
    · have : q = p := by simpa using z
      rw [this]; exact ⟨h1, h2, h3⟩
theorem mo9_is {mm nn : Nat} (hm : mm ≤ 3) (ha : 0 ≤ at_) (hb : 0 < b) (hbs : b ≤ 100) (hn : b ≤ (nn : Int)) (hnn : nn ≤ 100) (hw0 : 0 ≤ w) (hw : w ≤ 100) : ∃ (S : List Mst) (y9 y10 y11 y12 y13 y14 y15 : SL), S.length = nn ∧ (∀ s ∈ S, OkSt mm w (nn : Int) s) ∧
    mo9 [.val (.scr ns), .val (.int at_), .val (.int c), .val (.int kd), .val (.int (mm : Int)), .val (.int w), .val (.int (nn : Int)), .val (.int b), .val (.lst true []), x9, x10, x11, x12, x13, x14, x15] =
      .ok (.nx [.val (.scr ns), .val (.int at_), .val (.int c), .val (.int kd), .val (.int (mm : Int)), .val (.int w), .val (.int (nn : Int)), .val (.int b), .val (.lst true (S.map stO)), y9, y10, y11, y12, y13, y14, y15]) := by
  have hr : ranD [.val (.int (nn : Int))] = some (rangeD 0 (nn : Int)) := ran1n (by omega)
  have key := forL_inv (h := hN 9) (f := mOut) (fun i ρ => ∃ S y9 y10 y11 y12 y13 y14 y15, ρ = [.val (.scr ns), .val (.int at_), .val (.int c), .val (.int kd), .val (.int (mm : Int)), .val (.int w), .val (.int (nn : Int)), .val (.int b), .val (.lst true ((S : List Mst).map stO)), y9, y10, y11, y12, y13, y14, y15] ∧ S.length = i ∧ ∀ s ∈ S, OkSt mm w (nn : Int) s)
    (ds := rangeD 0 (nn : Int)) (ρ := [.val (.scr ns), .val (.int at_), .val (.int c), .val (.int kd), .val (.int (mm : Int)), .val (.int w), .val (.int (nn : Int)), .val (.int b), .val (.lst true []), x9, x10, x11, x12, x13, x14, x15]) ⟨[], _, _, _, _, _, _, _, rfl, rfl, fun p h => nomatch h⟩ ?_
  · obtain ⟨ρ', e, S, y9, y10, y11, y12, y13, y14, y15, rfl, hl, hok⟩ := key
    rw [rangeD_len] at hl
    refine ⟨S, y9, y10, y11, y12, y13, y14, y15, by omega, hok, ?_⟩
    simp only [mo9, e_dFor, e_dKeep, e_dRan, e_dCons, e_dVar, List.getElem?_cons_succ, List.getElem?_cons_zero, n_int, if_true, ok_bind, e_dNil, hr, e_ofOpt, e]
  · rintro i d ρ hd ⟨S, y9, y10, y11, y12, y13, y14, y15, rfl, hl, hok⟩
    obtain ⟨rfl, hi⟩ := rangeD_get hd
    refine ⟨_, rfl, ?_⟩
    simp only [List.set_cons_succ, List.set_cons_zero]
    obtain ⟨L, z10, z11, z12, z13, z14, z15, h1, e⟩ := mOut_is (ns := ns) (at_ := at_) (c := c) (kd := kd) (w := w) (n := (nn : Int)) (b := b) (k := 0 + (i : Int)) (x10 := y10) (x11 := y11) (x12 := y12) (x13 := y13) (x14 := y14) (x15 := y15) (S := S) hm ha hb hbs hn (by omega) hw0 hw (by omega)
    refine ⟨_, .inl e, S ++ [L], _, _, _, _, _, _, _, rfl, by rw [List.length_append, hl]; rfl, fun s hs => ?_⟩
    rcases List.mem_append.mp hs with z | z
    · exact hok s z
    · have : s = L := by simpa using z
      rw [this]; exact h1
theorem mo5_is (hm0 : 0 ≤ m) (hm3 : m ≤ 3) (hn1 : 1 ≤ n) (hn2 : n ≤ 20) : ∃ m' n', 0 ≤ m' ∧ m' ≤ 3 ∧ 1 ≤ n' ∧ n' ≤ 20 ∧
    mo5 [.val (.scr ns), .val (.int at_), .val (.int c), .val (.int kd), .val (.int m), .val (.int w), .val (.int n), x7, x8, x9, x10, x11, x12, x13, x14, x15] = .ok (.nx [.val (.scr ns), .val (.int at_), .val (.int c), .val (.int kd), .val (.int m'), .val (.int w), .val (.int n'), x7, x8, x9, x10, x11, x12, x13, x14, x15]) := by
  by_cases h : n = 9 ∨ n = 10
  · have hq : 0 ≤ c / 44 % 5 ∧ c / 44 % 5 < 5 := ⟨Int.emod_nonneg _ (by decide), Int.emod_lt_of_pos _ (by decide)⟩
    obtain ⟨v, hv, hix⟩ := ix_ints (l := [3, 2]) (o := true) (r := .val (.lst true [.int 3, .int 2])) (i := if decide (8 + c / 44 % 5 > 9) then 1 else 0) (by split <;> omega) (by simp; split <;> omega)
    simp only [List.map_cons, List.map_nil] at hix
    have hv2 : v = 3 ∨ v = 2 := by simpa using hv
    refine ⟨if v < m then v else m, 8 + c / 44 % 5, by split <;> omega, by split <;> omega, by omega, by omega, ?_⟩
    rcases h with rfl | rfl
    · simp [mo5] 
      simp at hix
      simp [hix]
    · simp [mo5]
      simp at hix
      simp [hix]
  · refine ⟨m, n, hm0, hm3, hn1, hn2, ?_⟩
    have h1 : ¬ n = 9 := fun e => h (.inl e)
    have h2 : ¬ n = 10 := fun e => h (.inr e)
    simp [mo5, h1, h2]
theorem mo6_is (hm0 : 0 ≤ m) (hm3 : m ≤ 3) (hn1 : 1 ≤ n) (hn2 : n ≤ 20) : ∃ m' n', 0 ≤ m' ∧ m' ≤ 3 ∧ 1 ≤ n' ∧ n' ≤ 20 ∧
    mo6 [.val (.scr ns), .val (.int at_), .val (.int c), .val (.int kd), .val (.int m), .val (.int w), .val (.int n), x7, x8, x9, x10, x11, x12, x13, x14, x15] = .ok (.nx [.val (.scr ns), .val (.int at_), .val (.int c), .val (.int kd), .val (.int m'), .val (.int w), .val (.int n'), x7, x8, x9, x10, x11, x12, x13, x14, x15]) := by
  by_cases h : n = 11
  · subst h
    exact ⟨m % 2, 12 + c / 44 % 9, by omega, by omega, by omega, by omega, by simp [mo6]⟩
  · exact ⟨m, n, hm0, hm3, hn1, hn2, by simp [mo6, h]⟩
end
theorem frz_stO (s : Mst) : frz (stO s) = stD s := by
  unfold stO stD
  rw [f_lst, f_map]
  congr 1
  exact List.map_congr_left fun p _ => f_prD
theorem machine_is (ns : List Int) : ∃ (d : D) (mm : Nat) (w : Int) (S : List Mst), m__law_machine [.scr ns, .int 0] = .ok d ∧ noOwn d = false ∧ frz d = mcD (mm : Int) w S ∧ MachOk mm w S := by
  obtain ⟨c, hc⟩ := cell_is ns (k := 0) (Int.le_refl _)
  obtain ⟨kd, hkd⟩ := cell_is ns (k := 1) (by decide)
  have hq8 : 0 ≤ kd / 3 % 8 ∧ kd / 3 % 8 < 8 := ⟨Int.emod_nonneg _ (by decide), Int.emod_lt_of_pos _ (by decide)⟩
  have hq9 : 0 ≤ kd / 24 % 9 ∧ kd / 24 % 9 < 9 := ⟨Int.emod_nonneg _ (by decide), Int.emod_lt_of_pos _ (by decide)⟩
  obtain ⟨w, hwm, hix⟩ := ix_ints (l := [1, 2, 1, 0, 3, 4 + kd / 24 % 9, 2, 1]) (o := true) (r := .val (.lst true [.int 1, .int 2, .int 1, .int 0, .int 3, .int (4 + kd / 24 % 9), .int 2, .int 1])) (i := kd / 3 % 8) hq8.1 (by simp; omega)
  simp only [List.map_cons, List.map_nil] at hix
  have hw : 0 ≤ w ∧ w ≤ 100 := by
    simp only [List.mem_cons, List.not_mem_nil, or_false] at hwm
    omega
  have hq4 : 0 ≤ c % 4 ∧ c % 4 < 4 := ⟨Int.emod_nonneg _ (by decide), Int.emod_lt_of_pos _ (by decide)⟩
  have hq11 : 0 ≤ c / 4 % 11 ∧ c / 4 % 11 < 11 := ⟨Int.emod_nonneg _ (by decide), Int.emod_lt_of_pos _ (by decide)⟩
  have h0 : mo0 [.val (.scr ns), .val (.int 0), .none, .none, .none, .none, .none, .none, .none, .none, .none, .none, .none, .none, .none, .none] = .ok (.nx [.val (.scr ns), .val (.int 0), .val (.int c), .none, .none, .none, .none, .none, .none, .none, .none, .none, .none, .none, .none, .none]) := by
    simp [mo0, hc]
  have h1 : mo1 [.val (.scr ns), .val (.int 0), .val (.int c), .none, .none, .none, .none, .none, .none, .none, .none, .none, .none, .none, .none, .none] = .ok (.nx [.val (.scr ns), .val (.int 0), .val (.int c), .val (.int kd), .none, .none, .none, .none, .none, .none, .none, .none, .none, .none, .none, .none]) := by
    simp [mo1, hkd]
  have h2 : mo2 [.val (.scr ns), .val (.int 0), .val (.int c), .val (.int kd), .none, .none, .none, .none, .none, .none, .none, .none, .none, .none, .none, .none] = .ok (.nx [.val (.scr ns), .val (.int 0), .val (.int c), .val (.int kd), .val (.int (c % 4)), .none, .none, .none, .none, .none, .none, .none, .none, .none, .none, .none]) := by
    simp [mo2]
  have h3 : mo3 [.val (.scr ns), .val (.int 0), .val (.int c), .val (.int kd), .val (.int (c % 4)), .none, .none, .none, .none, .none, .none, .none, .none, .none, .none, .none] = .ok (.nx [.val (.scr ns), .val (.int 0), .val (.int c), .val (.int kd), .val (.int (c % 4)), .val (.int w), .none, .none, .none, .none, .none, .none, .none, .none, .none, .none]) := by
    simp [mo3, hix]
  have h4 : mo4 [.val (.scr ns), .val (.int 0), .val (.int c), .val (.int kd), .val (.int (c % 4)), .val (.int w), .none, .none, .none, .none, .none, .none, .none, .none, .none, .none] = .ok (.nx [.val (.scr ns), .val (.int 0), .val (.int c), .val (.int kd), .val (.int (c % 4)), .val (.int w), .val (.int (1 + c / 4 % 11)), .none, .none, .none, .none, .none, .none, .none, .none, .none]) := by
    simp [mo4]
  obtain ⟨m1, n1, a1, a2, a3, a4, h5⟩ := mo5_is (ns := ns) (at_ := 0) (c := c) (kd := kd) (m := c % 4) (w := w) (n := 1 + c / 4 % 11) (x7 := .none) (x8 := .none) (x9 := .none) (x10 := .none) (x11 := .none) (x12 := .none) (x13 := .none) (x14 := .none) (x15 := .none) (by omega) (by omega) (by omega) (by omega)
  obtain ⟨m2, n2, b1, b2, b3, b4, h6⟩ := mo6_is (ns := ns) (at_ := 0) (c := c) (kd := kd) (m := m1) (w := w) (n := n1) (x7 := .none) (x8 := .none) (x9 := .none) (x10 := .none) (x11 := .none) (x12 := .none) (x13 := .none) (x14 := .none) (x15 := .none) a1 a2 a3 a4
  obtain ⟨mm, rfl⟩ := Int.eq_ofNat_of_zero_le b1
  obtain ⟨nn, rfl⟩ := Int.eq_ofNat_of_zero_le (show (0 : Int) ≤ n2 by omega)
  have hn0 : (0 : Int) < (nn : Int) := by omega
  have hb : 0 ≤ kd / 24 % (nn : Int) ∧ kd / 24 % (nn : Int) < (nn : Int) := ⟨Int.emod_nonneg _ (by omega), Int.emod_lt_of_pos _ hn0⟩
  have h7 : mo7 [.val (.scr ns), .val (.int 0), .val (.int c), .val (.int kd), .val (.int (mm : Int)), .val (.int w), .val (.int (nn : Int)), .none, .none, .none, .none, .none, .none, .none, .none, .none] = .ok (.nx [.val (.scr ns), .val (.int 0), .val (.int c), .val (.int kd), .val (.int (mm : Int)), .val (.int w), .val (.int (nn : Int)), .val (.int ((nn : Int) - kd / 24 % (nn : Int))), .none, .none, .none, .none, .none, .none, .none, .none]) := by
    have hp : 0 < nn := by omega
    simp [mo7, hp]
  have h8 : mo8 [.val (.scr ns), .val (.int 0), .val (.int c), .val (.int kd), .val (.int (mm : Int)), .val (.int w), .val (.int (nn : Int)), .val (.int ((nn : Int) - kd / 24 % (nn : Int))), .none, .none, .none, .none, .none, .none, .none, .none] = .ok (.nx [.val (.scr ns), .val (.int 0), .val (.int c), .val (.int kd), .val (.int (mm : Int)), .val (.int w), .val (.int (nn : Int)), .val (.int ((nn : Int) - kd / 24 % (nn : Int))), .val (.lst true []), .none, .none, .none, .none, .none, .none, .none]) := by
    simp [mo8]
  obtain ⟨S, y9, y10, y11, y12, y13, y14, y15, hl, hok, h9⟩ := mo9_is (ns := ns) (at_ := 0) (c := c) (kd := kd) (w := w) (b := (nn : Int) - kd / 24 % (nn : Int)) (mm := mm) (nn := nn) (x9 := .none) (x10 := .none) (x11 := .none) (x12 := .none) (x13 := .none) (x14 := .none) (x15 := .none) (by omega) (Int.le_refl _) (by omega) (by omega) (by omega) (by omega) hw.1 hw.2
  refine ⟨.tup [.int (mm : Int), .int w, .lst true (S.map stO)], mm, w, S, ?_, rfl, ?_, ⟨by omega, by omega, fun z => ?_, fun s hs => (hok s hs).1, fun s hs p hp => ?_⟩⟩
  · unfold m__law_machine
    rw [e_dDef, b_machine_is]
    have step : ∀ (f g : Ev → Res Out) (ρ ρ' : Ev), f ρ = .ok (.nx ρ') → dSeq f g ρ = g ρ' := fun f g ρ ρ' e => by rw [e_dSeq, e]; rfl
    have env : (List.map SL.val [D.scr ns, D.int 0] ++ List.replicate (16 - [D.scr ns, D.int 0].length) SL.none) = [.val (.scr ns), .val (.int 0), .none, .none, .none, .none, .none, .none, .none, .none, .none, .none, .none, .none, .none, .none] := rfl
    rw [env, step _ _ _ _ h0, step _ _ _ _ h1, step _ _ _ _ h2, step _ _ _ _ h3, step _ _ _ _ h4, step _ _ _ _ h5, step _ _ _ _ h6, step _ _ _ _ h7, step _ _ _ _ h8, step _ _ _ _ h9]
    have h10 : mo10 [.val (.scr ns), .val (.int 0), .val (.int c), .val (.int kd), .val (.int (mm : Int)), .val (.int w), .val (.int (nn : Int)), .val (.int ((nn : Int) - kd / 24 % (nn : Int))), .val (.lst true (S.map stO)), y9, y10, y11, y12, y13, y14, y15] = .ok (.rt (.tup [.int (mm : Int), .int w, .lst true (S.map stO)])) := by
      simp [mo10]
    rw [h10]
  · rw [f_tup, f_cons, f_cons, f_cons, f_nil, f_int, f_int, f_lst, f_map]
    unfold mcD stsD
    have hm : S.map (fun s => frz (stO s)) = S.map stD := List.map_congr_left fun s _ => frz_stO s
    first
      | rw [hm]
      | (show D.tup [.int (mm : Int), .int w, .lst false (S.map fun s => frz (stO s))] = _; rw [hm])
  · rw [z] at hl
    have : nn = 0 := hl.symm
    omega
  · obtain ⟨k1, k2, k3⟩ := (hok s hs).2 p hp
    exact ⟨k1, k2, by rw [hl]; exact k3⟩
theorem plain_law (ns : List Int) (h : ns.length ≤ 63) : m_law [.scr ns] = .ok (.bl true) := by
  obtain ⟨d, mm, w, S, e, hn, hf, z⟩ := machine_is ns
  obtain ⟨O, ep, fi⟩ := partings_is (mc := mcD (mm : Int) w S) z.sized n_mcD (need_machine_is z) (fun _ => ix_mc2)
  have hfo : fz O = O := by
    unfold fz
    conv => rhs; rw [← List.map_id O]
    exact List.map_congr_left fun e he => by
      have := fi.own e he
      obtain ⟨k, o, r⟩ := e
      simp only at this
      subst this; rfl
  have key := forL_inv (h := hN 3) (f := (dIf (dNot (dTst (dCall m__law_first (dCons (dIx (dVar 1) (dC (.int 2))) (dCons (dVar 3) (dCons (dVar 2) dNil)))))) (dRet (dXm (dC (.bl false)))) dNext))
    (fun _ ρ => ∃ y, ρ = [.val (.scr ns), .val (mcD (mm : Int) w S), .val (dF false (fz O)), y]) (ds := (O.map (·.1)).map pE) (ρ := [.val (.scr ns), .val (mcD (mm : Int) w S), .val (dF false (fz O)), .none]) ⟨_, rfl⟩ ?_
  · obtain ⟨ρ', ee, y, rfl⟩ := key
    have hfd : dForD 2 (hN 3) (dIf (dNot (dTst (dCall m__law_first (dCons (dIx (dVar 1) (dC (.int 2))) (dCons (dVar 3) (dCons (dVar 2) dNil)))))) (dRet (dXm (dC (.bl false)))) dNext) [.val (.scr ns), .val (mcD (mm : Int) w S), .val (dF true O), .none] = .ok (.nx [.val (.scr ns), .val (mcD (mm : Int) w S), .val (dF false (fz O)), y]) := by
      rw [← ee]
      have hk : ownKeys (.val (dF true O)) = some ((O.map (·.1)).map pE, dF false (fz O)) := by
        have h1 : ownKeys (.val (dF true O)) = some ((O.map fun e => kE e.1).map tkeyD, frz (dF true O)) := rfl
        rw [h1, frz_dF, List.map_map, List.map_map]; rfl
      unfold dForD
      simp only [List.getElem?_cons_succ, List.getElem?_cons_zero, hk, List.set_cons_succ, List.set_cons_zero]
    simp [m_law, e_dDef, b_law, e, hn, hf, ep, hfd]
  · rintro i x ρ hx ⟨y, rfl⟩
    rw [List.getElem?_map, List.getElem?_map] at hx
    obtain ⟨k, hk, rfl⟩ := Option.map_eq_some_iff.mp hx
    obtain ⟨e0, he0, rfl⟩ := Option.map_eq_some_iff.mp hk
    have hm : e0.1 ∈ O.map (·.1) := List.mem_map.mpr ⟨e0, List.mem_of_getElem? he0, rfl⟩
    cases hl : look O e0.1 with
    | none => exact absurd hm (look_mem.mp hl)
    | some rows =>
      have hfi := first_is z.sized fi hl
      have hff : frz (dF false (fz O)) = dF false (fz O) := frz_noOwn _ (n_dF O)
      refine ⟨_, rfl, [.val (.scr ns), .val (mcD (mm : Int) w S), .val (dF false (fz O)), .val (pE e0.1)], .inl ?_, _, rfl⟩
      simp [hfi, hff, fz_fz]
end Dl
set_option Elab.async false
set_option linter.all false
set_option maxRecDepth 100000
set_option maxHeartbeats 4000000
namespace Dl
open PySem PySem.Spec PyProof.Rows L2
def fnD : List He.DefD := [⟨("_law_pair", none), "_law_pair", "_law_pair", defArgs s__law_pair, defBody s__law_pair, defScope s__law_pair, [], []⟩,
  ⟨("_law_unlike", none), "_law_unlike", "_law_unlike", defArgs s__law_unlike, defBody s__law_unlike, defScope s__law_unlike, [], []⟩,
  ⟨("_law_first", none), "_law_first", "_law_first", defArgs s__law_first, defBody s__law_first, defScope s__law_first, [], []⟩,
  ⟨("later_rows", none), "later_rows", "later_rows", defArgs s_later_rows, defBody s_later_rows, defScope s_later_rows, [], []⟩,
  ⟨("unlike_row", none), "unlike_row", "unlike_row", defArgs s_unlike_row, defBody s_unlike_row, defScope s_unlike_row, [], []⟩,
  ⟨("parted_at_once", none), "parted_at_once", "parted_at_once", defArgs s_parted_at_once, defBody s_parted_at_once, defScope s_parted_at_once, [], []⟩,
  ⟨("rows_of", none), "rows_of", "rows_of", defArgs s_rows_of, defBody s_rows_of, defScope s_rows_of, [], []⟩,
  ⟨("need_machine", none), "need_machine", "need_machine", defArgs s_need_machine, defBody s_need_machine, defScope s_need_machine, [], []⟩,
  ⟨("partings", none), "partings", "partings", defArgs s_partings, defBody s_partings, defScope s_partings, [], []⟩,
  ⟨("_law_rows_of", none), "_law_rows_of", "_law_rows_of", defArgs s__law_rows_of, defBody s__law_rows_of, defScope s__law_rows_of, [], []⟩,
  ⟨("_law_mixed", none), "_law_mixed", "_law_mixed", defArgs s__law_mixed, defBody s__law_mixed, defScope s__law_mixed, [], []⟩,
  ⟨("_law_row", none), "_law_row", "_law_row", defArgs s__law_row, defBody s__law_row, defScope s__law_row, [], []⟩,
  ⟨("_law_cell_at", none), "_law_cell_at", "_law_cell_at", defArgs s__law_cell_at, defBody s__law_cell_at, defScope s__law_cell_at, [], []⟩,
  ⟨("_law_machine", none), "_law_machine", "_law_machine", defArgs s__law_machine, defBody s__law_machine, defScope s__law_machine, [], []⟩,
  ⟨("law", none), "law", "law", defArgs s_law, defBody s_law, defScope s_law, [], []⟩]
def faL : List He.Fa := [.glo "_law_pair", .glo "_law_unlike", .glo "_law_first", .glo "later_rows", .glo "unlike_row", .glo "parted_at_once", .glo "rows_of", .glo "need_machine", .glo "partings", .glo "_law_rows_of", .glo "_law_mixed", .glo "_law_row", .glo "_law_cell_at", .glo "_law_machine", .glo "law", .free "int", .free "len", .free "list", .free "max", .free "min", .free "range", .free "sorted", .free "tuple", .glo "NoMachine", .exc "NoMachine"]
abbrev rowR : PySem.W.OpenRow := PySem.W.OpenLaw.row PySem.Challenge.rw_circuits_k50_partings_first
abbrev hk : PySem.W.Hook := He.hookD 4 faL fnD
def ob (s : PySem.W.SharedT) : He.AlD := He.obsDG 4 faL fnD (HandSHeadRun.getT s)
theorem ob_eq (s : PySem.W.SharedT) : ob s = hk.obs s.abs := He.obsDG_eq (HandSHeadRun.getT_eq s)
theorem run (w : World) : HandSHeadRun.RunEq rowR (PySem.W.view rowR.prog [20]) hk ob 3000 ["CircuitError", "NoMachine", "rows_of", "need_machine", "unlike_row", "later_rows", "parted_at_once", "partings", "_law_cell_at", "_law_mixed", "_law_row", "_law_rows_of", "_law_machine", "_law_pair", "_law_unlike", "_law_first"] w := by
  intro os
  kernel_rfl
theorem facts {P : Program} {w : World} {K : PySem.W.Frag} {h : Heap} {mg : Str → Option Value} {f : Addr} (X : K.In h) (G : h.Ns mainGlobals mg) (hfa : mg ("law" : Str) = some (.ref f)) (c : He.SaysD faL fnD K) :
    ∃ fd : FuncData, (∀ (s : Shared) (v : Value), BindsTo s fd ⟨[v], []⟩ [("_law_script", v)]) ∧ ∀ base : Heap, K.In base → base.Ns mainGlobals mg → FnOk P w K mg base (L2.CX P w) 4 f fd ["_law_script"] (spD K mg 1 m_law) := by
  obtain ⟨fd__law_pair, F__law_pair⟩ := c.def_ 0 rfl
  have g__law_pair := He.glo_ok X G (c.fact 0 (f := .glo "_law_pair") rfl)
  obtain ⟨fd__law_unlike, F__law_unlike⟩ := c.def_ 1 rfl
  have g__law_unlike := He.glo_ok X G (c.fact 1 (f := .glo "_law_unlike") rfl)
  obtain ⟨fd__law_first, F__law_first⟩ := c.def_ 2 rfl
  have g__law_first := He.glo_ok X G (c.fact 2 (f := .glo "_law_first") rfl)
  obtain ⟨fd_later_rows, F_later_rows⟩ := c.def_ 3 rfl
  have g_later_rows := He.glo_ok X G (c.fact 3 (f := .glo "later_rows") rfl)
  obtain ⟨fd_unlike_row, F_unlike_row⟩ := c.def_ 4 rfl
  have g_unlike_row := He.glo_ok X G (c.fact 4 (f := .glo "unlike_row") rfl)
  obtain ⟨fd_parted_at_once, F_parted_at_once⟩ := c.def_ 5 rfl
  have g_parted_at_once := He.glo_ok X G (c.fact 5 (f := .glo "parted_at_once") rfl)
  obtain ⟨fd_rows_of, F_rows_of⟩ := c.def_ 6 rfl
  have g_rows_of := He.glo_ok X G (c.fact 6 (f := .glo "rows_of") rfl)
  obtain ⟨fd_need_machine, F_need_machine⟩ := c.def_ 7 rfl
  have g_need_machine := He.glo_ok X G (c.fact 7 (f := .glo "need_machine") rfl)
  obtain ⟨fd_partings, F_partings⟩ := c.def_ 8 rfl
  have g_partings := He.glo_ok X G (c.fact 8 (f := .glo "partings") rfl)
  obtain ⟨fd__law_rows_of, F__law_rows_of⟩ := c.def_ 9 rfl
  have g__law_rows_of := He.glo_ok X G (c.fact 9 (f := .glo "_law_rows_of") rfl)
  obtain ⟨fd__law_mixed, F__law_mixed⟩ := c.def_ 10 rfl
  have g__law_mixed := He.glo_ok X G (c.fact 10 (f := .glo "_law_mixed") rfl)
  obtain ⟨fd__law_row, F__law_row⟩ := c.def_ 11 rfl
  have g__law_row := He.glo_ok X G (c.fact 11 (f := .glo "_law_row") rfl)
  obtain ⟨fd__law_cell_at, F__law_cell_at⟩ := c.def_ 12 rfl
  have g__law_cell_at := He.glo_ok X G (c.fact 12 (f := .glo "_law_cell_at") rfl)
  obtain ⟨fd__law_machine, F__law_machine⟩ := c.def_ 13 rfl
  have g__law_machine := He.glo_ok X G (c.fact 13 (f := .glo "_law_machine") rfl)
  obtain ⟨fd_law, F_law⟩ := c.def_ 14 rfl
  have g_law := He.glo_ok X G (c.fact 14 (f := .glo "law") rfl)
  have bi : Bi mg := ⟨He.free_ok X G (c.fact 15 (f := .free "int") rfl), He.free_ok X G (c.fact 16 (f := .free "len") rfl), He.free_ok X G (c.fact 17 (f := .free "list") rfl), He.free_ok X G (c.fact 18 (f := .free "max") rfl), He.free_ok X G (c.fact 19 (f := .free "min") rfl), He.free_ok X G (c.fact 20 (f := .free "range") rfl), He.free_ok X G (c.fact 21 (f := .free "sorted") rfl), He.free_ok X G (c.fact 22 (f := .free "tuple") rfl)⟩
  have x_NoMachine : ExcD K mg (Str.ofString "NoMachine") := let z := He.exc_ok (c.fact 24 (f := .exc "NoMachine") rfl); ⟨_, He.glo_ok X G (c.fact 23 (f := .glo "NoMachine") rfl), z.1, z.2.1, z.2.2.1, z.2.2.2⟩
  have e := hfa.symm.trans g_law
  cases e
  have b := FunD.bindsA (ps := ["_law_script"]) F_law fun _ _ _ _ _ _ us hl => match us, hl with | [_], _ => rfl
  refine ⟨fd_law, fun s v => b s [v] rfl, fun base _ _ => ?_⟩
  have c__law_pair := ok__law_pair (P := P) (w := w) (base := base) bi F__law_pair g__law_pair
  have c__law_unlike := ok__law_unlike (P := P) (w := w) (base := base) bi F__law_unlike g__law_unlike
  have c__law_first := ok__law_first (P := P) (w := w) (base := base) bi F__law_first g__law_first c__law_pair c__law_unlike
  have c_later_rows := ok_later_rows (P := P) (w := w) (base := base) bi F_later_rows g_later_rows
  have c_unlike_row := ok_unlike_row (P := P) (w := w) (base := base) bi F_unlike_row g_unlike_row
  have c_parted_at_once := ok_parted_at_once (P := P) (w := w) (base := base) bi F_parted_at_once g_parted_at_once c_unlike_row
  have c_rows_of := ok_rows_of (P := P) (w := w) (base := base) bi F_rows_of g_rows_of
  have c_need_machine := ok_need_machine (P := P) (w := w) (base := base) bi F_need_machine g_need_machine c_rows_of x_NoMachine
  have c_partings := ok_partings (P := P) (w := w) (base := base) bi F_partings g_partings c_later_rows c_parted_at_once c_need_machine
  have c__law_rows_of := ok__law_rows_of (P := P) (w := w) (base := base) bi F__law_rows_of g__law_rows_of
  have c__law_mixed := ok__law_mixed (P := P) (w := w) (base := base) bi F__law_mixed g__law_mixed
  have c__law_row := ok__law_row (P := P) (w := w) (base := base) bi F__law_row g__law_row
  have c__law_cell_at := ok__law_cell_at (P := P) (w := w) (base := base) bi F__law_cell_at g__law_cell_at
  have c__law_machine := ok__law_machine (P := P) (w := w) (base := base) bi F__law_machine g__law_machine c__law_rows_of c__law_mixed c__law_row c__law_cell_at
  exact ok_law bi F_law g_law c__law_first c_partings c__law_machine
end Dl
open PySem PySem.W PySem.Calls PyProof.Rows
theorem PySem.Challenge.cw_circuits_k50_partings_first_holds : PySem.Challenge.rw_circuits_k50_partings_first.Holds := by
  w_on; o_law
  refine HandSHeadRun.head_any (r := OpenLaw.row PySem.Challenge.rw_circuits_k50_partings_first) (q := view (OpenLaw.row PySem.Challenge.rw_circuits_k50_partings_first).prog [20]) (H := Dl.hk) (ob := Dl.ob) (M := 3000) (loose := ["CircuitError", "NoMachine", "rows_of", "need_machine", "unlike_row", "later_rows", "parted_at_once", "partings", "_law_cell_at", "_law_mixed", "_law_row", "_law_rows_of", "_law_machine", "_law_pair", "_law_unlike", "_law_first"]) (d := HandSHeadRun.topDef (OpenLaw.row PySem.Challenge.rw_circuits_k50_partings_first).prog 20) (kwd := []) Dl.ob_eq
    (by kernel_rfl) (fun s => by kernel_rfl) Dl.run (by kernel_rfl) (by kernel_rfl) (by kernel_rfl) (by rfl) (by first | assumption | decide +kernel) (by decide +kernel) ⟨rfl, rfl, rfl, rfl, rfl, by decide +kernel⟩ ?hw ?hc
  case hw => w_witness2
  case hc =>
    refine Dl.law_end (l := PySem.Challenge.rw_circuits_k50_partings_first) (n := 63) (k := 4) (x := "_law_script") (g := Dl.m_law) rfl (by decide) (by kernel_rfl) ⟨rfl, by decide, by decide⟩ Dl.plain_law ?F
    intro w mg fa h Y G hmg0
    obtain ⟨K, KX, c⟩ := Y
    have hmg : mg ("law" : PySem.Str) = some (.ref fa) := by
      have e : (HandSHeadRun.topDef (OpenLaw.row PySem.Challenge.rw_circuits_k50_partings_first).prog 20).name = ("law" : PySem.Str) := by kernel_rfl
      rw [← e]
      exact hmg0
    obtain ⟨fd, hb, hF⟩ := Dl.facts (P := (PySem.Challenge.rw_circuits_k50_partings_first).prog) (w := w) KX G hmg c
    exact ⟨K, fd, KX, hb, hF⟩
