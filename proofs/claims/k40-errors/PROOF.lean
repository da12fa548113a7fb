import PyProof.Rows.All
import Wide.All
import OpenK.AllK
import Wide.FinOn
import HandS.ForMost
import HandS.IsInst
import KE.KeyNested
import KE.KDictKeyed
import HandS.ExcInit
import HandS.Style
import HandS.TryOnly
import KE.SortData
import PyProof.ReprRoads
import PyProof.Rows.InDataRows
import HandS.Deep
import KE.DataMinMax
import HandS.TupAny
import HandS.Iter
import HandS.Text
import HandS.Comp
import HandS.Property
import KE.KStateDown
import HandS.Ends
import HandS.Defaults
import HandS.Words
import HandS.WordsExc
import HandS.Head0
import HandS.Head1
import HandS.Head2
import HandS.HeadEnd
import HandS.HeadHook1
import HandS.HeadHook2
import HandS.ExcIs
import HandS.ExcValue
import HandS.ExcField
import HandS.FStr
import PySem.Challenge.RW_seencursors_k40_errors
set_option Elab.async false
set_option linter.all false
set_option maxRecDepth 100000
set_option maxHeartbeats 0
/-! Ev1: plain data trees with marks of ownership, and what it is for a value to be such a tree. -/
namespace Ev
open PySem PySem.Spec PyProof.Rows L2

/-- data; the mark of a list, a dict, an instance: it is owned (its one reference is here), so it may be changed -/
inductive D where
  | non
  | bl (b : Bool)
  | int (i : Int)
  | str (x : Str)
  | lst (o : Bool) (xs : List D)
  | tup (xs : List D)
  | dic (o : Bool) (kvs : List (D × D))
  | ins (o : Bool) (c : Nat) (fs : List (Str × D))
  /-- the script as it is handed in: read, never written -/
  | scr (ns : List Int)
  /-- an exception object, with the line it bears, perhaps -/
  | exc (c : Nat) (ln : Option Int)
  deriving Inhabited

/-! ### marks -/
mutual
/-- all marks off -/
def frz : D → D
  | .non => .non
  | .bl b => .bl b
  | .int i => .int i
  | .str x => .str x
  | .lst _ xs => .lst false (frzL xs)
  | .tup xs => .tup (frzL xs)
  | .dic _ kvs => .dic false (frzK kvs)
  | .ins _ c fs => .ins false c (frzF fs)
  | .scr ns => .scr ns
  | .exc c l => .exc c l
def frzL : List D → List D
  | [] => []
  | x :: xs => frz x :: frzL xs
def frzK : List (D × D) → List (D × D)
  | [] => []
  | (k, v) :: r => (frz k, frz v) :: frzK r
def frzF : List (Str × D) → List (Str × D)
  | [] => []
  | (f, v) :: r => (f, frz v) :: frzF r
end
/-- the marks of the parts off, its own as it is -/
def shz : D → D
  | .lst o xs => .lst o (frzL xs)
  | .tup xs => .tup (frzL xs)
  | .dic o kvs => .dic o (frzK kvs)
  | .ins o c fs => .ins o c (frzF fs)
  | d => d
mutual
theorem frz_frz : ∀ d : D, frz (frz d) = frz d
  | .non => rfl
  | .bl _ => rfl
  | .int _ => rfl
  | .str _ => rfl
  | .lst _ xs => by simp only [frz, frzL_frzL xs]
  | .tup xs => by simp only [frz, frzL_frzL xs]
  | .dic _ kvs => by simp only [frz, frzK_frzK kvs]
  | .ins _ _ fs => by simp only [frz, frzF_frzF fs]
  | .scr _ => rfl
  | .exc _ _ => rfl
theorem frzL_frzL : ∀ xs : List D, frzL (frzL xs) = frzL xs
  | [] => rfl
  | x :: xs => by simp only [frzL, frz_frz x, frzL_frzL xs]
theorem frzK_frzK : ∀ xs : List (D × D), frzK (frzK xs) = frzK xs
  | [] => rfl
  | (k, v) :: xs => by simp only [frzK, frz_frz k, frz_frz v, frzK_frzK xs]
theorem frzF_frzF : ∀ xs : List (Str × D), frzF (frzF xs) = frzF xs
  | [] => rfl
  | (k, v) :: xs => by simp only [frzF, frz_frz v, frzF_frzF xs]
end
theorem frz_shz (d : D) : frz (shz d) = frz d := by
  cases d <;> simp only [shz, frz, frzL_frzL, frzK_frzK, frzF_frzF]
theorem frzL_map : ∀ xs : List D, frzL xs = xs.map frz
  | [] => rfl
  | x :: xs => by simp only [frzL, List.map_cons, frzL_map xs]
theorem frzL_append (xs ys : List D) : frzL (xs ++ ys) = frzL xs ++ frzL ys := by simp only [frzL_map, List.map_append]

/-! ### keys -/
mutual
def nk : D → Option NestedKey
  | .non => some .none
  | .bl b => some (.num (if b = true then 1 else 0))
  | .int i => some (.num i)
  | .str x => some (.text x)
  | .tup xs => (nkL xs).map .tup
  | .lst _ _ => none
  | .dic _ _ => none
  | .ins _ _ _ => none
  | .scr _ => none
  | .exc _ _ => none
def nkL : List D → Option (List NestedKey)
  | [] => some []
  | x :: xs => match nk x, nkL xs with
    | some k, some ks => some (k :: ks)
    | _, _ => none
end

/-! ### dicts as objects -/
/-- the very object at an address -/
def exO (a : Addr) (o : Obj) : HO := .ext fun h => h.get? a = some o
theorem exO_ok {P : Program} {w : World} {H : Hp} {h : Heap} {a : Addr} {o : Obj} (e : h.get? a = some o) : ObjOk P w H h a (exO a o) :=
  ⟨e, ⟨o, e⟩, fun _ _ e1 k => k o e1⟩
theorem exO_get {P : Program} {w : World} {H : Hp} {h : Heap} {a : Addr} {o : Obj} (x : ObjOk P w H h a (exO a o)) : h.get? a = some o := x.1
/-- one entry -/
def EntR (w : World) (p : (D × V) × V) (e : DictEntry) : Prop := ∃ k, nk p.1.1 = some k ∧ k.depth ≤ 8 ∧ e.hash = k.hash w ∧ RelV p.1.2 e.key ∧ RelV p.2 e.val
/-- the object holds these keys (with their values) and values, in order -/
structure DicO (w : World) (a : Addr) (o : Obj) (es : List ((D × V) × V)) : Prop where
  ex : o.ExactDict
  ents : ∃ arr ep, o.data = .dict arr ep ∧ Paired (EntR w) es arr.toList
  nd : (es.map fun p => nk p.1.1).Nodup
  len : es.length ≤ sizeLine
  sm : (a == sysModules) = false

theorem paired_mem {α β : Type} {R : α → β → Prop} : ∀ {l : List α} {m : List β}, Paired R l m → ∀ a ∈ l, ∃ b ∈ m, R a b
  | _, _, .nil, a, h => nomatch h
  | _, _, .cons r t, a, h => by
    rcases List.mem_cons.mp h with e | h
    · exact ⟨_, List.mem_cons_self, e ▸ r⟩
    · obtain ⟨b, hb, q⟩ := paired_mem t a h
      exact ⟨b, List.mem_cons_of_mem _ hb, q⟩
theorem DicO.keys {w : World} {a : Addr} {o : Obj} {es : List ((D × V) × V)} (x : DicO w a o es) : ∀ p ∈ es, ∃ k, nk p.1.1 = some k := fun p hp => by
  obtain ⟨arr, ep, _, q⟩ := x.ents
  obtain ⟨e, _, k, h, _⟩ := paired_mem q p hp
  exact ⟨k, h⟩
mutual
/-- a key bears no marks -/
theorem frz_key : ∀ (d : D) (k : NestedKey), nk d = some k → frz d = d
  | .non, _, _ => rfl
  | .bl _, _, _ => rfl
  | .int _, _, _ => rfl
  | .str _, _, _ => rfl
  | .tup xs, k, h => by
    simp only [nk, Option.map_eq_some_iff] at h
    obtain ⟨ks, h, _⟩ := h
    simp only [frz, frzL_keys xs ks h]
  | .lst _ _, _, h => by simp [nk] at h
  | .dic _ _, _, h => by simp [nk] at h
  | .ins _ _ _, _, h => by simp [nk] at h
  | .scr _, _, h => by simp [nk] at h
  | .exc _ _, _, h => by simp [nk] at h
theorem frzL_keys : ∀ (xs : List D) (ks : List NestedKey), nkL xs = some ks → frzL xs = xs
  | [], _, _ => rfl
  | x :: xs, ks, h => by
    simp only [nkL] at h
    cases e : nk x with
    | none => rw [e] at h; simp at h
    | some k =>
      cases e2 : nkL xs with
      | none => rw [e, e2] at h; simp at h
      | some ks => simp only [frzL, frz_key x k e, frzL_keys xs ks e2]
end

/-! ### what a value is -/
/-- the program's side: the world, the written part, the classes by number -/
structure Cg where
  P : Program
  w : World
  K : PySem.W.Frag
  cls : Nat → Addr

/-- the exception object v of the class numbered c; l: its line, where it has a dict -/
def ExR (cls : Nat → Addr) (I : Hp) (c : Nat) (l : Option Int) (v : V) : Prop := ∃ (a : Addr) (oe : Obj) (vs : Array Value), v = .ref a ∧ I a = some (exO a oe) ∧ oe.data = .fields vs ∧ oe.cls = .ref (cls c) ∧
  match l with
  | none => oe.dict = none
  | some i => ∃ dx, oe.dict = some dx ∧ I dx = some (L2.exd dx [("line", .int i)])
theorem ExR.sub {cls : Nat → Addr} {I I' : Hp} {c : Nat} {l : Option Int} {v : V} (h : ExR cls I c l v) (s : Same I I') : ExR cls I' c l v := by
  obtain ⟨a, oe, vs, e, ha, hd, hc, q⟩ := h
  refine ⟨a, oe, vs, e, s _ _ ha, hd, hc, ?_⟩
  cases l with
  | none => exact q
  | some i =>
    obtain ⟨dx, e1, e2⟩ := q
    exact ⟨dx, e1, s _ _ e2⟩
mutual
/-- in the frozen part I and the whole heap H the value v is the tree d; A: the addresses of the owned objects in it -/
def Rp (G : Cg) (I H : Hp) : D → V → List Addr → Prop
  | .non, v, A => v = .non ∧ A = []
  | .bl b, v, A => v = .bl b ∧ A = []
  | .int i, v, A => v = .int i ∧ A = []
  | .str x, v, A => v = .str x ∧ A = []
  | .lst false xs, v, A => A = [] ∧ ∃ a vs, v = .ref a ∧ I a = some (.lst vs) ∧ RpL G I H xs vs []
  | .lst true xs, v, A => ∃ a vs B, v = .ref a ∧ A = a :: B ∧ H a = some (.lst vs) ∧ RpL G I H xs vs B
  | .tup xs, v, A => ∃ a vs, v = .ref a ∧ SqT G.K I a vs ∧ RpL G I H xs vs A
  | .dic false kvs, v, A => A = [] ∧ ∃ a o es, v = .ref a ∧ I a = some (exO a o) ∧ DicO G.w a o es ∧ RpK G I H kvs es []
  | .dic true kvs, v, A => ∃ a o es B, v = .ref a ∧ A = a :: B ∧ H a = some (exO a o) ∧ DicO G.w a o es ∧ RpK G I H kvs es B
  | .ins false c fs, v, A => A = [] ∧ ∃ a dx gs, v = .ref a ∧ I a = some (.ins (G.cls c) dx gs) ∧ I dx = some (.own a) ∧ RpF G I H fs gs []
  | .ins true c fs, v, A => ∃ a dx gs B, v = .ref a ∧ A = a :: dx :: B ∧ H a = some (.ins (G.cls c) dx gs) ∧ H dx = some (.own a) ∧ RpF G I H fs gs B
  | .scr ns, v, A => A = [] ∧ ∃ a, v = .ref a ∧ SqL G.K I a (ns.map V.int)
  | .exc c l, v, A => A = [] ∧ ExR G.cls I c l v
def RpL (G : Cg) (I H : Hp) : List D → List V → List Addr → Prop
  | [], vs, A => vs = [] ∧ A = []
  | x :: xs, vs, A => ∃ v r B C, vs = v :: r ∧ A = B ++ C ∧ Rp G I H x v B ∧ RpL G I H xs r C
def RpK (G : Cg) (I H : Hp) : List (D × D) → List ((D × V) × V) → List Addr → Prop
  | [], es, A => es = [] ∧ A = []
  | (k, d) :: ks, es, A => ∃ kv v r B C, es = ((k, kv), v) :: r ∧ A = B ++ C ∧ Rp G I H k kv [] ∧ Rp G I H d v B ∧ RpK G I H ks r C
def RpF (G : Cg) (I H : Hp) : List (Str × D) → List (Str × V) → List Addr → Prop
  | [], gs, A => gs = [] ∧ A = []
  | (f, d) :: fs, gs, A => ∃ v r B C, gs = (f, v) :: r ∧ A = B ++ C ∧ Rp G I H d v B ∧ RpF G I H fs r C
end

theorem SqL.sub {K : PySem.W.Frag} {I I' : Hp} {a : Addr} {vs : List V} (h : SqL K I a vs) (s : Same I I') : SqL K I' a vs := s.seq h
theorem SqT.sub {K : PySem.W.Frag} {I I' : Hp} {a : Addr} {vs : List V} (h : SqT K I a vs) (s : Same I I') : SqT K I' a vs := by
  rcases h with (h | ⟨o, h⟩) | h
  · exact .inl (.inl (s _ _ h))
  · exact .inl (.inr ⟨o, s _ _ h⟩)
  · exact .inr h

section
variable {G : Cg} {I I' H H' : Hp}
mutual
/-- the frozen part grows, the owned objects stay -/
theorem Rp.stay (s : Same I I') : ∀ (d : D) (v : V) (A : List Addr), (∀ a o, a ∈ A → H a = some o → H' a = some o) → Rp G I H d v A → Rp G I' H' d v A
  | .non, v, A, k, h => by simpa only [Rp] using h
  | .bl b, v, A, k, h => by simpa only [Rp] using h
  | .int i, v, A, k, h => by simpa only [Rp] using h
  | .str x, v, A, k, h => by simpa only [Rp] using h
  | .lst false xs, v, A, k, h => by
    simp only [Rp] at h ⊢
    obtain ⟨rfl, a, vs, e, q, r⟩ := h
    exact ⟨rfl, a, vs, e, s _ _ q, RpL.stay s xs vs [] (fun _ _ z => nomatch z) r⟩
  | .lst true xs, v, A, k, h => by
    simp only [Rp] at h ⊢
    obtain ⟨a, vs, B, e, rfl, q, r⟩ := h
    exact ⟨a, vs, B, e, rfl, k _ _ List.mem_cons_self q, RpL.stay s xs vs B (fun b o z => k b o (List.mem_cons_of_mem _ z)) r⟩
  | .tup xs, v, A, k, h => by
    simp only [Rp] at h ⊢
    obtain ⟨a, vs, e, q, r⟩ := h
    exact ⟨a, vs, e, SqT.sub q s, RpL.stay s xs vs A k r⟩
  | .dic false kvs, v, A, k, h => by
    simp only [Rp] at h ⊢
    obtain ⟨rfl, a, o, es, e, q, z, r⟩ := h
    exact ⟨rfl, a, o, es, e, s _ _ q, z, RpK.stay s kvs es [] (fun _ _ z => nomatch z) r⟩
  | .dic true kvs, v, A, k, h => by
    simp only [Rp] at h ⊢
    obtain ⟨a, o, es, B, e, rfl, q, z, r⟩ := h
    exact ⟨a, o, es, B, e, rfl, k _ _ List.mem_cons_self q, z, RpK.stay s kvs es B (fun b o z => k b o (List.mem_cons_of_mem _ z)) r⟩
  | .ins false c fs, v, A, k, h => by
    simp only [Rp] at h ⊢
    obtain ⟨rfl, a, dx, gs, e, q, z, r⟩ := h
    exact ⟨rfl, a, dx, gs, e, s _ _ q, s _ _ z, RpF.stay s fs gs [] (fun _ _ z => nomatch z) r⟩
  | .ins true c fs, v, A, k, h => by
    simp only [Rp] at h ⊢
    obtain ⟨a, dx, gs, B, e, rfl, q, z, r⟩ := h
    exact ⟨a, dx, gs, B, e, rfl, k _ _ List.mem_cons_self q, k _ _ (List.mem_cons_of_mem _ List.mem_cons_self) z, RpF.stay s fs gs B (fun b o z => k b o (List.mem_cons_of_mem _ (List.mem_cons_of_mem _ z))) r⟩
  | .scr ns, v, A, k, h => by
    simp only [Rp] at h ⊢
    obtain ⟨rfl, a, e, q⟩ := h
    exact ⟨rfl, a, e, SqL.sub q s⟩
  | .exc c l, v, A, k, h => by
    simp only [Rp] at h ⊢
    exact ⟨h.1, h.2.sub s⟩
theorem RpL.stay (s : Same I I') : ∀ (xs : List D) (vs : List V) (A : List Addr), (∀ a o, a ∈ A → H a = some o → H' a = some o) → RpL G I H xs vs A → RpL G I' H' xs vs A
  | [], vs, A, k, h => by simpa only [RpL] using h
  | x :: xs, vs, A, k, h => by
    simp only [RpL] at h ⊢
    obtain ⟨v, r, B, C, e, rfl, q, z⟩ := h
    exact ⟨v, r, B, C, e, rfl, Rp.stay s x v B (fun a o m => k a o (List.mem_append_left _ m)) q, RpL.stay s xs r C (fun a o m => k a o (List.mem_append_right _ m)) z⟩
theorem RpK.stay (s : Same I I') : ∀ (xs : List (D × D)) (vs : List ((D × V) × V)) (A : List Addr), (∀ a o, a ∈ A → H a = some o → H' a = some o) → RpK G I H xs vs A → RpK G I' H' xs vs A
  | [], vs, A, k, h => by simpa only [RpK] using h
  | (x, y) :: xs, vs, A, k, h => by
    simp only [RpK] at h ⊢
    obtain ⟨kv, v, r, B, C, e, rfl, p, q, z⟩ := h
    exact ⟨kv, v, r, B, C, e, rfl, Rp.stay s x kv [] (fun _ _ z => nomatch z) p, Rp.stay s y v B (fun a o m => k a o (List.mem_append_left _ m)) q, RpK.stay s xs r C (fun a o m => k a o (List.mem_append_right _ m)) z⟩
theorem RpF.stay (s : Same I I') : ∀ (xs : List (Str × D)) (vs : List (Str × V)) (A : List Addr), (∀ a o, a ∈ A → H a = some o → H' a = some o) → RpF G I H xs vs A → RpF G I' H' xs vs A
  | [], vs, A, k, h => by simpa only [RpF] using h
  | (f, y) :: xs, vs, A, k, h => by
    simp only [RpF] at h ⊢
    obtain ⟨v, r, B, C, e, rfl, q, z⟩ := h
    exact ⟨v, r, B, C, e, rfl, Rp.stay s y v B (fun a o m => k a o (List.mem_append_left _ m)) q, RpF.stay s xs r C (fun a o m => k a o (List.mem_append_right _ m)) z⟩
end
mutual
/-- freezing: what is owned joins the frozen part -/
theorem Rp.frz (s : Same I I') : ∀ (d : D) (v : V) (A : List Addr), (∀ a o, a ∈ A → H a = some o → I' a = some o) → Rp G I H d v A → Rp G I' H' (frz d) v []
  | .non, v, A, k, h => by simp only [Ev.frz, Rp] at h ⊢; exact ⟨h.1, trivial⟩
  | .bl b, v, A, k, h => by simp only [Ev.frz, Rp] at h ⊢; exact ⟨h.1, trivial⟩
  | .int i, v, A, k, h => by simp only [Ev.frz, Rp] at h ⊢; exact ⟨h.1, trivial⟩
  | .str x, v, A, k, h => by simp only [Ev.frz, Rp] at h ⊢; exact ⟨h.1, trivial⟩
  | .lst false xs, v, A, k, h => by
    simp only [Ev.frz, Rp] at h ⊢
    obtain ⟨rfl, a, vs, e, q, r⟩ := h
    exact ⟨trivial, a, vs, e, s _ _ q, RpL.frz s xs vs [] (fun _ _ z => nomatch z) r⟩
  | .lst true xs, v, A, k, h => by
    simp only [Ev.frz, Rp] at h ⊢
    obtain ⟨a, vs, B, e, rfl, q, r⟩ := h
    exact ⟨trivial, a, vs, e, k _ _ List.mem_cons_self q, RpL.frz s xs vs B (fun b o z => k b o (List.mem_cons_of_mem _ z)) r⟩
  | .tup xs, v, A, k, h => by
    simp only [Ev.frz, Rp] at h ⊢
    obtain ⟨a, vs, e, q, r⟩ := h
    exact ⟨a, vs, e, SqT.sub q s, RpL.frz s xs vs A k r⟩
  | .dic false kvs, v, A, k, h => by
    simp only [Ev.frz, Rp] at h ⊢
    obtain ⟨rfl, a, o, es, e, q, z, r⟩ := h
    exact ⟨trivial, a, o, es, e, s _ _ q, z, RpK.frz s kvs es [] z.keys (fun _ _ z => nomatch z) r⟩
  | .dic true kvs, v, A, k, h => by
    simp only [Ev.frz, Rp] at h ⊢
    obtain ⟨a, o, es, B, e, rfl, q, z, r⟩ := h
    exact ⟨trivial, a, o, es, e, k _ _ List.mem_cons_self q, z, RpK.frz s kvs es B z.keys (fun b o z => k b o (List.mem_cons_of_mem _ z)) r⟩
  | .ins false c fs, v, A, k, h => by
    simp only [Ev.frz, Rp] at h ⊢
    obtain ⟨rfl, a, dx, gs, e, q, z, r⟩ := h
    exact ⟨trivial, a, dx, gs, e, s _ _ q, s _ _ z, RpF.frz s fs gs [] (fun _ _ z => nomatch z) r⟩
  | .ins true c fs, v, A, k, h => by
    simp only [Ev.frz, Rp] at h ⊢
    obtain ⟨a, dx, gs, B, e, rfl, q, z, r⟩ := h
    exact ⟨trivial, a, dx, gs, e, k _ _ List.mem_cons_self q, k _ _ (List.mem_cons_of_mem _ List.mem_cons_self) z, RpF.frz s fs gs B (fun b o z => k b o (List.mem_cons_of_mem _ (List.mem_cons_of_mem _ z))) r⟩
  | .scr ns, v, A, k, h => by
    simp only [Ev.frz, Rp] at h ⊢
    obtain ⟨rfl, a, e, q⟩ := h
    exact ⟨trivial, a, e, SqL.sub q s⟩
  | .exc c l, v, A, k, h => by
    simp only [Ev.frz, Rp] at h ⊢
    exact ⟨trivial, h.2.sub s⟩
theorem RpL.frz (s : Same I I') : ∀ (xs : List D) (vs : List V) (A : List Addr), (∀ a o, a ∈ A → H a = some o → I' a = some o) → RpL G I H xs vs A → RpL G I' H' (frzL xs) vs []
  | [], vs, A, k, h => by simp only [frzL, RpL] at h ⊢; exact ⟨h.1, trivial⟩
  | x :: xs, vs, A, k, h => by
    simp only [frzL, RpL] at h ⊢
    obtain ⟨v, r, B, C, e, rfl, q, z⟩ := h
    exact ⟨v, r, [], [], e, rfl, Rp.frz s x v B (fun a o m => k a o (List.mem_append_left _ m)) q, RpL.frz s xs r C (fun a o m => k a o (List.mem_append_right _ m)) z⟩
theorem RpK.frz (s : Same I I') : ∀ (xs : List (D × D)) (es : List ((D × V) × V)) (A : List Addr), (∀ p ∈ es, ∃ k, nk p.1.1 = some k) → (∀ a o, a ∈ A → H a = some o → I' a = some o) → RpK G I H xs es A → RpK G I' H' (frzK xs) es []
  | [], es, A, hk, k, h => by simp only [frzK, RpK] at h ⊢; exact ⟨h.1, trivial⟩
  | (x, y) :: xs, es, A, hk, k, h => by
    simp only [frzK, RpK] at h ⊢
    obtain ⟨kv, v, r, B, C, rfl, rfl, p, q, z⟩ := h
    obtain ⟨kx, hx⟩ := hk _ List.mem_cons_self
    exact ⟨kv, v, r, [], [], by rw [frz_key x kx hx], rfl, Rp.frz s x kv [] (fun _ _ z => nomatch z) p, Rp.frz s y v B (fun a o m => k a o (List.mem_append_left _ m)) q, RpK.frz s xs r C (fun p m => hk p (List.mem_cons_of_mem _ m)) (fun a o m => k a o (List.mem_append_right _ m)) z⟩
theorem RpF.frz (s : Same I I') : ∀ (xs : List (Str × D)) (gs : List (Str × V)) (A : List Addr), (∀ a o, a ∈ A → H a = some o → I' a = some o) → RpF G I H xs gs A → RpF G I' H' (frzF xs) gs []
  | [], gs, A, k, h => by simp only [frzF, RpF] at h ⊢; exact ⟨h.1, trivial⟩
  | (f, y) :: xs, gs, A, k, h => by
    simp only [frzF, RpF] at h ⊢
    obtain ⟨v, r, B, C, e, rfl, q, z⟩ := h
    exact ⟨v, r, [], [], e, rfl, Rp.frz s y v B (fun a o m => k a o (List.mem_append_left _ m)) q, RpF.frz s xs r C (fun a o m => k a o (List.mem_append_right _ m)) z⟩
end
end
end Ev

/-! Ev2: a def's names as data; a step; the judgements DE, DA, DT over HandS's PE, PT. -/
namespace Ev
open PySem PySem.Spec PyProof.Rows L2

/-- what each name of a def holds, where that is known -/
abbrev Env := List (Option D)
abbrev M := Env → Option (D × Env)

section
variable (G : Cg) (I H : Hp)
def EnvR : Env → L2.St → List Addr → Prop
  | [], σ, F => σ = [] ∧ F = []
  | none :: ρ, σ, F => ∃ s r, σ = s :: r ∧ EnvR ρ r F
  | some c :: ρ, σ, F => ∃ v r B C, σ = some v :: r ∧ F = B ++ C ∧ Rp G I H c v B ∧ EnvR ρ r C
end
section
variable {G : Cg} {I I' H H' : Hp}
theorem EnvR.len : ∀ {ρ : Env} {σ : L2.St} {F : List Addr}, EnvR G I H ρ σ F → ρ.length = σ.length
  | [], _, _, h => by rw [h.1]; rfl
  | none :: ρ, _, _, ⟨s, r, e, h⟩ => by rw [e, List.length_cons, List.length_cons, EnvR.len h]
  | some c :: ρ, _, _, ⟨v, r, B, C, e, _, _, h⟩ => by rw [e, List.length_cons, List.length_cons, EnvR.len h]
theorem EnvR.stay (s : Same I I') : ∀ {ρ : Env} {σ : L2.St} {F : List Addr}, (∀ a o, a ∈ F → H a = some o → H' a = some o) → EnvR G I H ρ σ F → EnvR G I' H' ρ σ F
  | [], _, _, _, h => h
  | none :: ρ, _, _, k, ⟨x, r, e, h⟩ => ⟨x, r, e, EnvR.stay s k h⟩
  | some c :: ρ, _, _, k, ⟨v, r, B, C, e, f, p, h⟩ => ⟨v, r, B, C, e, f, p.stay s _ _ _ fun a o m => k a o (by rw [f]; exact List.mem_append_left _ m), EnvR.stay s (fun a o m => k a o (by rw [f]; exact List.mem_append_right _ m)) h⟩
/-- the cell at a place, and the rest around it -/
theorem EnvR.at : ∀ {ρ : Env} {σ : L2.St} {F : List Addr} {i : Nat} {c : D}, EnvR G I H ρ σ F → ρ[i]? = some (some c) →
    ∃ v L B R, σ[i]? = some (some v) ∧ F = L ++ (B ++ R) ∧ Rp G I H c v B ∧
      ∀ {I' H' : Hp} (c' : Option D) (s' : Option V) (B' : List Addr), Same I I' → (∀ a o, a ∈ L → H a = some o → H' a = some o) → (∀ a o, a ∈ R → H a = some o → H' a = some o) →
        (match c' with
          | none => B' = []
          | some c1 => ∃ v', s' = some v' ∧ Rp G I' H' c1 v' B') → EnvR G I' H' (ρ.set i c') (σ.set i s') (L ++ (B' ++ R))
  | [], _, _, i, _, _, e => by simp at e
  | none :: ρ, _, F, 0, c, _, e => by simp at e
  | none :: ρ, _, F, i + 1, c, ⟨s, r, e1, h⟩, e => by
    obtain ⟨v, L, B, R, e2, e3, p, k⟩ := EnvR.at (i := i) h (by simpa using e)
    exact ⟨v, L, B, R, by rw [e1]; simpa using e2, e3, p, fun c' s' B' x y z q => ⟨s, r.set i s', by rw [e1]; rfl, k c' s' B' x y z q⟩⟩
  | some c0 :: ρ, _, F, 0, c, ⟨v, r, B, C, e1, e2, p, h⟩, e => by
    have ec : c0 = c := by simpa using e
    subst ec
    refine ⟨v, [], B, C, by rw [e1]; rfl, by simpa using e2, p, fun c' s' B' x y z q => ?_⟩
    rw [e1]
    cases c' with
    | none =>
      subst q
      exact ⟨s', r, rfl, h.stay x z⟩
    | some c1 =>
      obtain ⟨v', e4, q⟩ := q
      exact ⟨v', r, B', C, by rw [e4]; rfl, rfl, q, h.stay x z⟩
  | some c0 :: ρ, _, F, i + 1, c, ⟨v, r, B, C, e1, e2, p, h⟩, e => by
    obtain ⟨v', L, B', R, e3, e4, q, k⟩ := EnvR.at (i := i) h (by simpa using e)
    refine ⟨v', B ++ L, B', R, by rw [e1]; simpa using e3, by rw [e2, e4, List.append_assoc], q, fun c' s' B2 x y z w => ?_⟩
    exact ⟨v, r.set i s', B, L ++ (B2 ++ R), by rw [e1]; rfl, by rw [List.append_assoc], p.stay x _ _ _ fun a o m => y a o (List.mem_append_left _ m), k c' s' B2 x (fun a o m => y a o (List.mem_append_right _ m)) z w⟩
/-- a place without a cell -/
theorem EnvR.free : ∀ {ρ : Env} {σ : L2.St} {F : List Addr} {i : Nat}, EnvR G I H ρ σ F → ρ[i]? = some none →
    (∃ s, σ[i]? = some s) ∧ ∃ L R, F = L ++ R ∧ ∀ {I' H' : Hp} (c' : Option D) (s' : Option V) (B' : List Addr), Same I I' → (∀ a o, a ∈ F → H a = some o → H' a = some o) →
        (match c' with
          | none => B' = []
          | some c1 => ∃ v', s' = some v' ∧ Rp G I' H' c1 v' B') → EnvR G I' H' (ρ.set i c') (σ.set i s') (L ++ (B' ++ R))
  | [], _, _, i, _, e => by simp at e
  | none :: ρ, _, F, 0, ⟨s, r, e1, h⟩, e => by
    refine ⟨⟨s, by rw [e1]; rfl⟩, [], F, rfl, fun c' s' B' x y q => ?_⟩
    rw [e1]
    cases c' with
    | none =>
      subst q
      exact ⟨s', r, rfl, h.stay x y⟩
    | some c1 =>
      obtain ⟨v', e4, q⟩ := q
      exact ⟨v', r, B', F, by rw [e4]; rfl, rfl, q, h.stay x y⟩
  | none :: ρ, _, F, i + 1, ⟨s, r, e1, h⟩, e => by
    obtain ⟨⟨s2, e2⟩, L, R, e3, k⟩ := EnvR.free (i := i) h (by simpa using e)
    exact ⟨⟨s2, by rw [e1]; simpa using e2⟩, L, R, e3, fun c' s' B' x y q => ⟨s, r.set i s', by rw [e1]; rfl, k c' s' B' x y q⟩⟩
  | some c0 :: ρ, _, F, 0, _, e => by simp at e
  | some c0 :: ρ, _, F, i + 1, ⟨v, r, B, C, e1, e2, p, h⟩, e => by
    obtain ⟨⟨s2, e3⟩, L, R, e4, k⟩ := EnvR.free (i := i) h (by simpa using e)
    refine ⟨⟨s2, by rw [e1]; simpa using e3⟩, B ++ L, R, by rw [e2, e4, List.append_assoc], fun c' s' B2 x y w => ?_⟩
    exact ⟨v, r.set i s', B, L ++ (B2 ++ R), by rw [e1]; rfl, by rw [List.append_assoc], p.stay x _ _ _ fun a o m => y a o (by rw [e2]; exact List.mem_append_left _ m), k c' s' B2 x (fun a o m => y a o (by rw [e2]; exact List.mem_append_right _ m)) w⟩
end

/-! ### live addresses -/
section
variable {G : Cg} {I H : Hp}
mutual
theorem Rp.live : ∀ (d : D) (v : V) (A : List Addr), Rp G I H d v A → ∀ a ∈ A, ∃ o, H a = some o
  | .non, v, A, h, a, m => by simp only [Rp] at h; rw [h.2] at m; cases m
  | .bl b, v, A, h, a, m => by simp only [Rp] at h; rw [h.2] at m; cases m
  | .int i, v, A, h, a, m => by simp only [Rp] at h; rw [h.2] at m; cases m
  | .str x, v, A, h, a, m => by simp only [Rp] at h; rw [h.2] at m; cases m
  | .lst false xs, v, A, h, a, m => by simp only [Rp] at h; rw [h.1] at m; cases m
  | .lst true xs, v, A, h, a, m => by
    simp only [Rp] at h
    obtain ⟨b, vs, B, e, rfl, q, r⟩ := h
    rcases List.mem_cons.mp m with rfl | m
    · exact ⟨_, q⟩
    · exact RpL.live xs vs B r a m
  | .tup xs, v, A, h, a, m => by
    simp only [Rp] at h
    obtain ⟨b, vs, e, q, r⟩ := h
    exact RpL.live xs vs A r a m
  | .dic false kvs, v, A, h, a, m => by simp only [Rp] at h; rw [h.1] at m; cases m
  | .dic true kvs, v, A, h, a, m => by
    simp only [Rp] at h
    obtain ⟨b, o, es, B, e, rfl, q, z, r⟩ := h
    rcases List.mem_cons.mp m with rfl | m
    · exact ⟨_, q⟩
    · exact RpK.live kvs es B r a m
  | .ins false c fs, v, A, h, a, m => by simp only [Rp] at h; rw [h.1] at m; cases m
  | .ins true c fs, v, A, h, a, m => by
    simp only [Rp] at h
    obtain ⟨b, dx, gs, B, e, rfl, q, z, r⟩ := h
    rcases List.mem_cons.mp m with rfl | m
    · exact ⟨_, q⟩
    rcases List.mem_cons.mp m with rfl | m
    · exact ⟨_, z⟩
    · exact RpF.live fs gs B r a m
  | .scr ns, v, A, h, a, m => by simp only [Rp] at h; rw [h.1] at m; cases m
  | .exc c l, v, A, h, a, m => by simp only [Rp] at h; rw [h.1] at m; cases m
theorem RpL.live : ∀ (xs : List D) (vs : List V) (A : List Addr), RpL G I H xs vs A → ∀ a ∈ A, ∃ o, H a = some o
  | [], vs, A, h, a, m => by simp only [RpL] at h; rw [h.2] at m; cases m
  | x :: xs, vs, A, h, a, m => by
    simp only [RpL] at h
    obtain ⟨v, r, B, C, e, rfl, q, z⟩ := h
    rcases List.mem_append.mp m with m | m
    · exact Rp.live x v B q a m
    · exact RpL.live xs r C z a m
theorem RpK.live : ∀ (xs : List (D × D)) (vs : List ((D × V) × V)) (A : List Addr), RpK G I H xs vs A → ∀ a ∈ A, ∃ o, H a = some o
  | [], vs, A, h, a, m => by simp only [RpK] at h; rw [h.2] at m; cases m
  | (x, y) :: xs, vs, A, h, a, m => by
    simp only [RpK] at h
    obtain ⟨kv, v, r, B, C, e, rfl, p, q, z⟩ := h
    rcases List.mem_append.mp m with m | m
    · exact Rp.live y v B q a m
    · exact RpK.live xs r C z a m
theorem RpF.live : ∀ (xs : List (Str × D)) (vs : List (Str × V)) (A : List Addr), RpF G I H xs vs A → ∀ a ∈ A, ∃ o, H a = some o
  | [], vs, A, h, a, m => by simp only [RpF] at h; rw [h.2] at m; cases m
  | (f, y) :: xs, vs, A, h, a, m => by
    simp only [RpF] at h
    obtain ⟨v, r, B, C, e, rfl, q, z⟩ := h
    rcases List.mem_append.mp m with m | m
    · exact Rp.live y v B q a m
    · exact RpF.live xs r C z a m
end
theorem EnvR.live : ∀ {ρ : Env} {σ : L2.St} {F : List Addr}, EnvR G I H ρ σ F → ∀ a ∈ F, ∃ o, H a = some o
  | [], _, _, h, a, m => by rw [h.2] at m; cases m
  | none :: ρ, _, _, ⟨x, r, e, h⟩, a, m => EnvR.live h a m
  | some c :: ρ, _, _, ⟨v, r, B, C, e, f, p, h⟩, a, m => by
    rw [f] at m
    rcases List.mem_append.mp m with m | m
    · exact Rp.live _ _ _ p a m
    · exact EnvR.live h a m
end

/-! ### a step -/
/-- from (I, H) with the owned addresses F to (I', H') with F' -/
structure Go (I H : Hp) (F : List Addr) (I' H' : Hp) (F' : List Addr) : Prop where
  sub : Same I I'
  top : Same I' H'
  keep : ∀ a o, H a = some o → a ∉ F → H' a = some o
  frz : ∀ a o, I' a = some o → I a = some o ∨ a ∈ F ∨ H a = none
  own : ∀ a ∈ F', a ∈ F ∨ H a = none
  off : ∀ a ∈ F', I' a = none
  nd : F'.Nodup
/-- a state that fits -/
structure Fit (G : Cg) (I H : Hp) (ρ : Env) (σ : L2.St) (F : List Addr) : Prop where
  env : EnvR G I H ρ σ F
  top : Same I H
  nd : F.Nodup
  off : ∀ a ∈ F, I a = none
section
variable {G : Cg} {I I1 I2 H H1 H2 : Hp} {F F1 F2 T T' : List Addr} {ρ : Env} {σ : L2.St}
theorem Fit.go (x : Fit G I H ρ σ F) : Go I H F I H F := ⟨Same.refl _, x.top, fun _ _ h _ => h, fun _ _ h => .inl h, fun _ h => .inl h, x.off, x.nd⟩
/-- two steps, the first one's fruits T stay -/
theorem Go.trans (x : Go I H F I1 H1 (T ++ F1)) (y : Go I1 H1 F1 I2 H2 F2) (lv : ∀ a ∈ T, ∃ o, H1 a = some o) : Go I H F I2 H2 (T ++ F2) := by
  have own1 : ∀ a ∈ F1, a ∈ F ∨ H a = none := fun a m => x.own a (List.mem_append_right _ m)
  have gone : ∀ a, H1 a = none → a ∈ F ∨ H a = none := fun a e => by
    by_cases m : a ∈ F
    · exact .inl m
    · cases q : H a with
      | none => exact .inr rfl
      | some o => rw [x.keep a o q m] at e; cases e
  have apart : ∀ a ∈ T, a ∉ F1 := fun a m m1 => (List.nodup_append.mp x.nd).2.2 a m a m1 rfl
  refine ⟨x.sub.trans y.sub, y.top, fun a o h n => y.keep a o (x.keep a o h n) fun m => ?_, fun a o h => ?_, fun a m => ?_, fun a m => ?_, ?_⟩
  · rcases own1 a m with z | z
    · exact n z
    · rw [z] at h; cases h
  · rcases y.frz a o h with z | z | z
    · exact x.frz a o z
    · exact .inr (own1 a z)
    · exact .inr (gone a z)
  · rcases List.mem_append.mp m with m | m
    · exact x.own a (List.mem_append_left _ m)
    · rcases y.own a m with z | z
      · exact own1 a z
      · exact gone a z
  · rcases List.mem_append.mp m with m | m
    · cases q : I2 a with
      | none => rfl
      | some o =>
        rcases y.frz a o q with z | z | z
        · rw [x.off a (List.mem_append_left _ m)] at z; cases z
        · exact absurd z (apart a m)
        · obtain ⟨u, hu⟩ := lv a m
          rw [z] at hu; cases hu
    · exact y.off a m
  · refine List.nodup_append.mpr ⟨(List.nodup_append.mp x.nd).1, y.nd, fun a m b m2 e => ?_⟩
    subst e
    rcases y.own a m2 with z | z
    · exact apart a m z
    · obtain ⟨u, hu⟩ := lv a m
      rw [z] at hu; cases hu
theorem Go.weak (x : Go I H F I1 H1 F1) (s : ∀ a ∈ F2, a ∈ F1) (nd : F2.Nodup) : Go I H F I1 H1 F2 :=
  ⟨x.sub, x.top, x.keep, x.frz, fun a m => x.own a (s a m), fun a m => x.off a (s a m), nd⟩
theorem Go.perm (x : Go I H F I1 H1 F1) (p : F1.Perm F2) : Go I H F I1 H1 F2 := x.weak (fun a m => p.mem_iff.mpr m) (p.nodup_iff.mp x.nd)
/-- a rest beside -/
theorem Go.tail {T : List Addr} (x : Go I H F I1 H1 (T ++ F1)) : Go I H F I1 H1 F1 := x.weak (fun a m => List.mem_append_right _ m) (List.nodup_append.mp x.nd).2.1
/-- what stands beside a step stays -/
theorem Go.stays {d : D} {v : V} {A : List Addr} (x : Go I H F I1 H1 F1) (h : Rp G I H d v A) (n : ∀ a ∈ A, a ∉ F) : Rp G I1 H1 d v A :=
  h.stay x.sub _ _ _ fun a o m e => x.keep a o e (n a m)
theorem Fit.of {ρ' : Env} {F' : List Addr} (x : Go I H F I1 H1 F') (e : EnvR G I1 H1 ρ' σ F') : Fit G I1 H1 ρ' σ F' := ⟨e, x.top, x.nd, x.off⟩
end

/-! ### the judgements -/
abbrev cgOf (X : Cx) (cls : Nat → Addr) : Cg := ⟨X.prog, X.w, X.K, cls⟩
/-- an expression's reading, by what it makes of the cells; q: nothing that stands is changed -/
def tE (G : Cg) (q : Bool) (m : M) : TE := fun σ H Q => ∃ I F ρ d ρ', Fit G I H ρ σ F ∧ m ρ = some (d, ρ') ∧
  ∀ v H' I' A F', Go I H F I' H' (A ++ F') → (q = true → Same H H') → EnvR G I' H' ρ' σ F' → Rp G I' H' d v A → Q v H'
/-- a value that an operation looks at: its parts are frozen, it itself may be owned -/
def Sv (G : Cg) (I H : Hp) : D → V → Prop
  | .lst _ xs, v => ∃ a vs, v = .ref a ∧ H a = some (.lst vs) ∧ RpL G I H xs vs []
  | .dic _ kvs, v => ∃ a o es, v = .ref a ∧ H a = some (exO a o) ∧ DicO G.w a o es ∧ RpK G I H kvs es []
  | .ins _ c fs, v => ∃ a dx gs, v = .ref a ∧ H a = some (.ins (G.cls c) dx gs) ∧ H dx = some (.own a) ∧ RpF G I H fs gs []
  | d, v => Rp G I H d v []
/-- an operation's argument: p: it stays whatever comes behind, else as long as nothing is changed -/
def tA (G : Cg) (p q : Bool) (m : M) : TE := fun σ H Q => ∃ I F ρ d ρ', Fit G I H ρ σ F ∧ m ρ = some (d, ρ') ∧
  ∀ v H' I' F', Go I H F I' H' F' → (q = true → Same H H') → EnvR G I' H' ρ' σ F' → Sv G I' H' d v → (p = true → Rp G I' H' d v []) → Q v H'
structure DE (X : Cx) (cls : Nat → Addr) (e : Expr) (q : Bool) (m : M) : Prop where
  pe : PE X e (tE (cgOf X cls) q m)
/-- what it says of its data: no marks -/
def Plain (m : M) : Prop := ∀ ρ d ρ', m ρ = some (d, ρ') → frz d = d
structure DA (X : Cx) (cls : Nat → Addr) (e : Expr) (p q : Bool) (m : M) : Prop where
  pe : PE X e (tA (cgOf X cls) p q m)
  pl : Plain m
theorem PE.imp {X : Cx} {e : Expr} {t t' : TE} (h : PE X e t) (k : ∀ σ H Q, t' σ H Q → t σ H Q) : PE X e t' := ⟨fun pins s σ H Q I q => h.run pins s σ H Q I (k σ H Q q)⟩
theorem PT.imp {X : Cx} {e : Expr} {t t' : TT} (h : PT X e t) (k : ∀ σ H Q, t' σ H Q → t σ H Q) : PT X e t' := ⟨fun pins s σ H Q I q => h.run pins s σ H Q I (k σ H Q q)⟩
theorem PW.imp {X : Cx} {e : Expr} {t t' : TT} (h : PW X e t) (k : ∀ σ H Q, t' σ H Q → t σ H Q) : PW X e t' := ⟨fun wh pins s σ H Q I q => h.run wh pins s σ H Q I (k σ H Q q)⟩
theorem PA.imp {X : Cx} {e : List Expr} {t t' : TA} (h : PA X e t) (k : ∀ σ H Q, t' σ H Q → t σ H Q) : PA X e t' := ⟨fun p pins s σ H Q I q => h.run p pins s σ H Q I (k σ H Q q)⟩
theorem PS.imp {X : Cx} {e : Stmt} {t t' : TS} (h : PS X e t) (k : ∀ D σ H, t' D σ H → t D σ H) : PS X e t' := ⟨fun pins s σ H D I q => h.run pins s σ H D I (k D σ H q)⟩
theorem PSs.imp {X : Cx} {e : List Stmt} {t t' : TS} (h : PSs X e t) (k : ∀ D σ H, t' D σ H → t D σ H) : PSs X e t' := ⟨fun pins s σ H D I q => h.run pins s σ H D I (k D σ H q)⟩
end Ev

/-! Ev3: names, constants, operations, displays, tests. -/
namespace Ev
open PySem PySem.Spec PyProof.Rows L2

section
variable {G : Cg} {I H : Hp}
mutual
/-- what bears no mark owns nothing -/
theorem Rp.bare : ∀ {d : D} {v : V} {A : List Addr}, Rp G I H d v A → Ev.frz d = d → A = []
  | .non, v, A, h, _ => by simp only [Rp] at h; exact h.2
  | .bl b, v, A, h, _ => by simp only [Rp] at h; exact h.2
  | .int i, v, A, h, _ => by simp only [Rp] at h; exact h.2
  | .str x, v, A, h, _ => by simp only [Rp] at h; exact h.2
  | .lst false xs, v, A, h, _ => by simp only [Rp] at h; exact h.1
  | .lst true xs, v, A, h, z => by simp [Ev.frz] at z
  | .tup xs, v, A, h, z => by
    simp only [Rp] at h
    obtain ⟨a, vs, e, q, r⟩ := h
    exact RpL.bare r (by simpa [Ev.frz] using z)
  | .dic false kvs, v, A, h, _ => by simp only [Rp] at h; exact h.1
  | .dic true kvs, v, A, h, z => by simp [Ev.frz] at z
  | .ins false c fs, v, A, h, _ => by simp only [Rp] at h; exact h.1
  | .ins true c fs, v, A, h, z => by simp [Ev.frz] at z
  | .scr ns, v, A, h, _ => by simp only [Rp] at h; exact h.1
  | .exc c l, v, A, h, _ => by simp only [Rp] at h; exact h.1
theorem RpL.bare : ∀ {xs : List D} {vs : List V} {A : List Addr}, RpL G I H xs vs A → frzL xs = xs → A = []
  | [], vs, A, h, _ => by simp only [RpL] at h; exact h.2
  | x :: xs, vs, A, h, z => by
    simp only [RpL] at h
    obtain ⟨v, r, B, C, e, rfl, q, w⟩ := h
    simp only [frzL, List.cons.injEq] at z
    rw [Rp.bare q z.1, RpL.bare w z.2]
    rfl
end
end

/-- I with the objects at A as they stand in H -/
def froze (I H : Hp) (A : List Addr) : Hp := fun a => if a ∈ A then H a else I a
theorem froze_in {I H : Hp} {A : List Addr} {a : Addr} (h : a ∈ A) : froze I H A a = H a := if_pos h
theorem froze_out {I H : Hp} {A : List Addr} {a : Addr} (h : a ∉ A) : froze I H A a = I a := if_neg h
section
variable {I H : Hp} {A : List Addr}
theorem froze_sub (off : ∀ a ∈ A, I a = none) : Same I (froze I H A) := fun a o h => by
  rw [froze_out fun m => by rw [off a m] at h; cases h]
  exact h
theorem froze_top (s : Same I H) : Same (froze I H A) H := fun a o h => by
  by_cases m : a ∈ A
  · rw [froze_in m] at h; exact h
  · rw [froze_out m] at h; exact s a o h
end

section
variable {G : Cg} {I H : Hp} {ρ : Env} {σ : L2.St} {F : List Addr}
theorem nodup_mid {α : Type} {L B R : List α} (h : (L ++ (B ++ R)).Nodup) : (L ++ R).Nodup ∧ B.Nodup ∧ (∀ a ∈ B, a ∉ L) ∧ (∀ a ∈ B, a ∉ R) := by
  have h1 := List.nodup_append.mp h
  have h2 := List.nodup_append.mp h1.2.1
  refine ⟨List.nodup_append.mpr ⟨h1.1, h2.2.1, fun a m b m2 e => h1.2.2 a m b (List.mem_append_right _ m2) e⟩, h2.1, fun a m m2 => h1.2.2 a m2 a (List.mem_append_left _ m) rfl, fun a m m2 => h2.2.2 a m a m2 rfl⟩
/-- a part of the cells is frozen -/
theorem Fit.freeze {L C R B : List Addr} (x : Fit G I H ρ σ F) (e : ∀ a, a ∈ F ↔ a ∈ L ∨ a ∈ B ∨ a ∈ C ∨ a ∈ R) (nd : (L ++ (B ++ R)).Nodup) (n1 : ∀ a ∈ C, a ∉ L ∧ a ∉ B ∧ a ∉ R) : Go I H F (froze I H C) H (L ++ (B ++ R)) := by
  have mem : ∀ a, a ∈ L ++ (B ++ R) → a ∈ F ∧ a ∉ C := fun a m => by
    rcases List.mem_append.mp m with m | m
    · exact ⟨(e a).mpr (.inl m), fun z => (n1 a z).1 m⟩
    · rcases List.mem_append.mp m with m | m
      · exact ⟨(e a).mpr (.inr (.inl m)), fun z => (n1 a z).2.1 m⟩
      · exact ⟨(e a).mpr (.inr (.inr (.inr m))), fun z => (n1 a z).2.2 m⟩
  refine ⟨froze_sub fun a m => x.off a ((e a).mpr (.inr (.inr (.inl m)))), froze_top x.top, fun _ _ h _ => h, fun a o h => ?_, fun a m => .inl (mem a m).1, fun a m => ?_, nd⟩
  · by_cases m : a ∈ C
    · exact .inr (.inl ((e a).mpr (.inr (.inr (.inl m)))))
    · rw [froze_out m] at h; exact .inl h
  · rw [froze_out (mem a m).2]
    exact x.off a (mem a m).1
end

theorem set_same {α : Type} : ∀ {l : List α} {i : Nat} {x : α}, l[i]? = some x → l.set i x = l
  | [], i, x, h => by simp at h
  | y :: l, 0, x, h => by simp at h; rw [h]; rfl
  | y :: l, i + 1, x, h => by
    show y :: l.set i x = y :: l
    rw [set_same (by simpa using h)]

/-! ### names -/
/-- a name as a value: it is frozen -/
def eVar (i : Nat) : M := fun ρ => match ρ[i]? with
  | some (some d) => some (frz d, ρ.set i (some (frz d)))
  | _ => none
/-- a name's value moved out -/
def eMov (i : Nat) : M := fun ρ => match ρ[i]? with
  | some (some d) => some (d, ρ.set i none)
  | _ => none
/-- a name lent to an operation -/
def eBor (i : Nat) : M := fun ρ => match ρ[i]? with
  | some (some d) => some (frz d, ρ.set i (some (shz d)))
  | _ => none
def eLit (d : D) : M := fun ρ => some (d, ρ)

section
variable {G : Cg} {I H : Hp}
/-- the parts of a value are frozen, not it itself -/
theorem Rp.shz : ∀ (d : D) (v : V) (A : List Addr), Rp G I H d v A → ∃ B C, A = B ++ C ∧
    ∀ I', Same I I' → Same I' H → (∀ a o, a ∈ C → H a = some o → I' a = some o) → Rp G I' H (shz d) v B ∧ Sv G I' H (Ev.frz d) v
  | .non, v, A, h => ⟨A, [], by simp, fun I' s t k => ⟨h.stay s _ _ _ fun _ _ _ e => e, by simp only [Rp] at h; simp only [Ev.frz, Sv, Rp]; exact ⟨h.1, trivial⟩⟩⟩
  | .bl b, v, A, h => ⟨A, [], by simp, fun I' s t k => ⟨h.stay s _ _ _ fun _ _ _ e => e, by simp only [Rp] at h; simp only [Ev.frz, Sv, Rp]; exact ⟨h.1, trivial⟩⟩⟩
  | .int i, v, A, h => ⟨A, [], by simp, fun I' s t k => ⟨h.stay s _ _ _ fun _ _ _ e => e, by simp only [Rp] at h; simp only [Ev.frz, Sv, Rp]; exact ⟨h.1, trivial⟩⟩⟩
  | .str x, v, A, h => ⟨A, [], by simp, fun I' s t k => ⟨h.stay s _ _ _ fun _ _ _ e => e, by simp only [Rp] at h; simp only [Ev.frz, Sv, Rp]; exact ⟨h.1, trivial⟩⟩⟩
  | .lst false xs, v, A, h => by
    simp only [Rp] at h
    obtain ⟨rfl, a, vs, e, q, r⟩ := h
    refine ⟨[], [], rfl, fun I' s t k => ?_⟩
    have r' := r.frz (H' := H) s _ _ _ (by intro _ _ z; cases z)
    simp only [Ev.shz, Ev.frz, Rp, Sv]
    exact ⟨⟨trivial, a, vs, e, s _ _ q, r'⟩, a, vs, e, t _ _ (s _ _ q), r'⟩
  | .lst true xs, v, A, h => by
    simp only [Rp] at h
    obtain ⟨a, vs, B, e, rfl, q, r⟩ := h
    refine ⟨[a], B, rfl, fun I' s t k => ?_⟩
    have r' := r.frz (H' := H) s _ _ _ k
    simp only [Ev.shz, Ev.frz, Rp, Sv]
    exact ⟨⟨a, vs, [], e, rfl, q, r'⟩, a, vs, e, q, r'⟩
  | .tup xs, v, A, h => by
    refine ⟨[], A, rfl, fun I' s t k => ?_⟩
    have r' := Rp.frz (H' := H) s _ _ _ k h
    simp only [Ev.shz, Ev.frz, Sv] at r' ⊢
    exact ⟨r', r'⟩
  | .dic false kvs, v, A, h => by
    simp only [Rp] at h
    obtain ⟨rfl, a, o, es, e, q, z, r⟩ := h
    refine ⟨[], [], rfl, fun I' s t k => ?_⟩
    have r' := r.frz (H' := H) s _ _ _ z.keys (by intro _ _ z; cases z)
    simp only [Ev.shz, Ev.frz, Rp, Sv]
    exact ⟨⟨trivial, a, o, es, e, s _ _ q, z, r'⟩, a, o, es, e, t _ _ (s _ _ q), z, r'⟩
  | .dic true kvs, v, A, h => by
    simp only [Rp] at h
    obtain ⟨a, o, es, B, e, rfl, q, z, r⟩ := h
    refine ⟨[a], B, rfl, fun I' s t k => ?_⟩
    have r' := r.frz (H' := H) s _ _ _ z.keys k
    simp only [Ev.shz, Ev.frz, Rp, Sv]
    exact ⟨⟨a, o, es, [], e, rfl, q, z, r'⟩, a, o, es, e, q, z, r'⟩
  | .ins false c fs, v, A, h => by
    simp only [Rp] at h
    obtain ⟨rfl, a, dx, gs, e, q, z, r⟩ := h
    refine ⟨[], [], rfl, fun I' s t k => ?_⟩
    have r' := r.frz (H' := H) s _ _ _ (by intro _ _ z; cases z)
    simp only [Ev.shz, Ev.frz, Rp, Sv]
    exact ⟨⟨trivial, a, dx, gs, e, s _ _ q, s _ _ z, r'⟩, a, dx, gs, e, t _ _ (s _ _ q), t _ _ (s _ _ z), r'⟩
  | .ins true c fs, v, A, h => by
    simp only [Rp] at h
    obtain ⟨a, dx, gs, B, e, rfl, q, z, r⟩ := h
    refine ⟨[a, dx], B, rfl, fun I' s t k => ?_⟩
    have r' := r.frz (H' := H) s _ _ _ k
    simp only [Ev.shz, Ev.frz, Rp, Sv]
    exact ⟨⟨a, dx, gs, [], e, rfl, q, z, r'⟩, a, dx, gs, e, q, z, r'⟩
  | .scr ns, v, A, h => ⟨A, [], by simp, fun I' s t k => ⟨h.stay s _ _ _ fun _ _ _ e => e, by
    simp only [Rp] at h
    obtain ⟨_, a, e, q⟩ := h
    simp only [Ev.frz, Sv, Rp]
    exact ⟨trivial, a, e, SqL.sub q s⟩⟩⟩
  | .exc c l, v, A, h => ⟨A, [], by simp, fun I' s t k => ⟨h.stay s _ _ _ fun _ _ _ e => e, by
    simp only [Rp] at h
    simp only [Ev.frz, Sv, Rp]
    exact ⟨trivial, h.2.sub s⟩⟩⟩
/-- a frozen value is one to look at -/
theorem Rp.sv : ∀ {d : D} {v : V}, Same I H → Rp G I H d v [] → Ev.frz d = d → Sv G I H d v
  | .non, v, s, h, _ => h
  | .bl b, v, s, h, _ => h
  | .int i, v, s, h, _ => h
  | .str x, v, s, h, _ => h
  | .tup xs, v, s, h, _ => h
  | .lst false xs, v, s, h, _ => by
    simp only [Rp] at h
    obtain ⟨_, a, vs, e, q, r⟩ := h
    exact ⟨a, vs, e, s _ _ q, r⟩
  | .lst true xs, v, s, h, z => by simp [Ev.frz] at z
  | .dic false kvs, v, s, h, _ => by
    simp only [Rp] at h
    obtain ⟨_, a, o, es, e, q, z, r⟩ := h
    exact ⟨a, o, es, e, s _ _ q, z, r⟩
  | .dic true kvs, v, s, h, z => by simp [Ev.frz] at z
  | .ins false c fs, v, s, h, _ => by
    simp only [Rp] at h
    obtain ⟨_, a, dx, gs, e, q, z, r⟩ := h
    exact ⟨a, dx, gs, e, s _ _ q, s _ _ z, r⟩
  | .ins true c fs, v, s, h, z => by simp [Ev.frz] at z
  | .scr ns, v, s, h, _ => h
  | .exc c l, v, s, h, _ => h
end

section
variable {X : Cx} {cls : Nat → Addr} {e a b c : Expr} {m ma mb mc : M} {p p1 p2 q q1 q2 : Bool} {pos : Pos} {i : Nat} {x : Str}
theorem tE_pure {G : Cg} {σ : L2.St} {H : Hp} {Q : VK} {d : D} {v : V} (h : tE G true (eLit d) σ H Q) (r : ∀ I, Rp G I H d v []) : Q v H := by
  obtain ⟨I, F, ρ, d', ρ', f, e, k⟩ := h
  cases e
  exact k v H I [] F f.go (fun _ => Same.refl _) f.env (r I)
theorem de_int {n : Int} {j : Nat} : DE X cls (.Constant (.int n) j pos) true (eLit (.int n)) := ⟨PE.imp pe_int fun _ _ _ h => tE_pure h fun _ => ⟨rfl, rfl⟩⟩
theorem de_bl {n : Bool} {j : Nat} : DE X cls (.Constant (.bool n) j pos) true (eLit (.bl n)) := ⟨PE.imp pe_bl fun _ _ _ h => tE_pure h fun _ => ⟨rfl, rfl⟩⟩
theorem de_non {j : Nat} : DE X cls (.Constant .none j pos) true (eLit .non) := ⟨PE.imp pe_non fun _ _ _ h => tE_pure h fun _ => ⟨rfl, rfl⟩⟩
theorem de_str {n : Str} {j : Nat} : DE X cls (.Constant (.str n) j pos) true (eLit (.str n)) := ⟨PE.imp pe_str fun _ _ _ h => tE_pure h fun _ => ⟨rfl, rfl⟩⟩
/-- a name of the def, at place i -/
structure Nm (X : Cx) (i : Nat) (x : Str) : Prop where
  hN : X.N[i]? = some x
  hv : Vis X.env.scope x
  hd : (x == ("__debug__" : Str)) = false
  hc : (x == ("__classdict__" : Str)) = false
theorem Nm.pe (h : Nm X i x) : PE X (.Name x pos) (tVar i) := pe_var h.hN h.hv h.hd h.hc
theorem de_var (h : Nm X i x) : DE X cls (.Name x pos) true (eVar i) := by
  refine ⟨PE.imp (h.pe (pos := pos)) fun σ H Q ⟨I, F, ρ, d, ρ', f, e, k⟩ => ?_⟩
  unfold eVar at e
  split at e
  · rename_i d0 hi
    cases e
    obtain ⟨v, L, B, R, hs, rfl, hr, put⟩ := f.env.at hi
    obtain ⟨n1, n2, n3, n4⟩ := nodup_mid f.nd
    have g := f.freeze (L := L) (B := []) (C := B) (R := R) (fun a => by simp only [List.mem_append, List.not_mem_nil, false_or]) (by simpa using n1) (fun a m => ⟨n3 a m, by simp, n4 a m⟩)
    have hr' := Rp.frz (H' := H) g.sub _ _ _ (fun a o m e => by rw [froze_in m]; exact e) hr
    refine ⟨v, hs, k v H _ [] (L ++ ([] ++ R)) g (fun _ => Same.refl _) ?_ hr'⟩
    have := put (some (Ev.frz d0)) (some v) [] g.sub (fun _ _ _ e => e) (fun _ _ _ e => e) ⟨v, rfl, hr'⟩
    rwa [show σ.set i (some v) = σ from set_same hs] at this
  · cases e
theorem plain_var {i : Nat} : Plain (eVar i) := fun ρ d ρ' e => by
  unfold eVar at e
  split at e
  · cases e; exact frz_frz _
  · cases e
theorem da_var (h : Nm X i x) : DA X cls (.Name x pos) true true (eVar i) := by
  refine ⟨PE.imp (de_var (cls := cls) h).pe fun σ H Q ⟨I, F, ρ, d, ρ', f, e, k⟩ => ⟨I, F, ρ, d, ρ', f, e, fun v H' I' A F' g s n r => ?_⟩, plain_var⟩
  have z : Ev.frz d = d := by
    unfold eVar at e
    split at e
    · cases e; exact frz_frz _
    · cases e
  obtain rfl := r.bare z
  have r' := r
  exact k v H' I' F' g.tail s n (r'.sv g.top z) fun _ => r'
theorem de_mov (h : Nm X i x) : DE X cls (.Name x pos) true (eMov i) := by
  refine ⟨PE.imp (h.pe (pos := pos)) fun σ H Q ⟨I, F, ρ, d, ρ', f, e, k⟩ => ?_⟩
  unfold eMov at e
  split at e
  · rename_i d0 hi
    cases e
    obtain ⟨v, L, B, R, hs, rfl, hr, put⟩ := f.env.at hi
    obtain ⟨n1, n2, n3, n4⟩ := nodup_mid f.nd
    refine ⟨v, hs, k v H I B (L ++ ([] ++ R)) (f.go.perm ?_) (fun _ => Same.refl _) ?_ hr⟩
    · rw [List.nil_append, ← List.append_assoc, ← List.append_assoc]
      exact List.Perm.append_right R List.perm_append_comm
    · have := put none (some v) [] (Same.refl _) (fun _ _ _ e => e) (fun _ _ _ e => e) rfl
      rwa [show σ.set i (some v) = σ from set_same hs] at this
  · cases e
theorem plain_bor {i : Nat} : Plain (eBor i) := fun ρ d ρ' e => by
  unfold eBor at e
  split at e
  · cases e; exact frz_frz _
  · cases e
theorem da_bor (h : Nm X i x) : DA X cls (.Name x pos) false true (eBor i) := by
  refine ⟨PE.imp (h.pe (pos := pos)) fun σ H Q ⟨I, F, ρ, d, ρ', f, e, k⟩ => ?_, plain_bor⟩
  unfold eBor at e
  split at e
  · rename_i c hi
    cases e
    obtain ⟨v, L, B, R, hs, rfl, hr, put⟩ := f.env.at hi
    obtain ⟨B1, C, rfl, sh⟩ := hr.shz
    obtain ⟨n1, n2, n3, n4⟩ := nodup_mid f.nd
    obtain ⟨m1, m2, m3⟩ := List.nodup_append.mp n2
    have nd' : (L ++ (B1 ++ R)).Nodup := by
      have l1 := List.nodup_append.mp n1
      refine List.nodup_append.mpr ⟨l1.1, List.nodup_append.mpr ⟨m1, l1.2.1, fun a m b m' e => ?_⟩, fun a m b m' e => ?_⟩
      · subst e
        exact n4 a (List.mem_append_left _ m) m'
      · subst e
        rcases List.mem_append.mp m' with z | z
        · exact n3 a (List.mem_append_left _ z) m
        · exact l1.2.2 a m a z rfl
    have g := f.freeze (L := L) (B := B1) (C := C) (R := R) (fun a => by simp only [List.mem_append, or_assoc]) nd' (fun a m => ⟨n3 a (List.mem_append_right _ m), fun z => m3 a z a m rfl, n4 a (List.mem_append_right _ m)⟩)
    obtain ⟨r1, r2⟩ := sh _ g.sub g.top (fun a o m e => by rw [froze_in m]; exact e)
    refine ⟨v, hs, k v H _ (L ++ (B1 ++ R)) g (fun _ => Same.refl _) ?_ r2 (fun z => nomatch z)⟩
    have := put (some (Ev.shz c)) (some v) B1 g.sub (fun _ _ _ e => e) (fun _ _ _ e => e) ⟨v, rfl, r1⟩
    rwa [show σ.set i (some v) = σ from set_same hs] at this
  · cases e
/-! ### operations on values -/
/-- any value as an argument: it is frozen -/
def eFrz (m : M) : M := fun ρ => match m ρ with
  | some (d, ρ') => some (frz d, ρ')
  | none => none
theorem plain_frz {m : M} : Plain (eFrz m) := fun ρ d ρ' e => by
  unfold eFrz at e
  split at e
  · cases e; exact frz_frz _
  · cases e
theorem da_of (h : DE X cls e q m) : DA X cls e true q (eFrz m) := by
  refine ⟨PE.imp h.pe fun σ H Q ⟨I, F, ρ, d, ρ', f, e, k⟩ => ?_, plain_frz⟩
  unfold eFrz at e
  cases em : m ρ with
  | none => rw [em] at e; cases e
  | some p =>
    rw [em] at e
    obtain ⟨d0, ρ0⟩ := p
    cases e
    refine ⟨I, F, ρ, d0, ρ', f, em, fun v H' I' A F' g s n r => ?_⟩
    have nd := List.nodup_append.mp g.nd
    have g2 : Go I H F (froze I' H' A) H' F' := by
      refine ⟨fun a o h => ?_, froze_top g.top, g.keep, fun a o h => ?_, fun a m => g.own a (List.mem_append_right _ m), fun a m => ?_, nd.2.1⟩
      · exact froze_sub (fun a m => g.off a (List.mem_append_left _ m)) _ _ (g.sub a o h)
      · by_cases m : a ∈ A
        · exact .inr (g.own a (List.mem_append_left _ m))
        · rw [froze_out m] at h; exact g.frz a o h
      · rw [froze_out fun z => nd.2.2 a z a m rfl]
        exact g.off a (List.mem_append_right _ m)
    have sub2 : Same I' (froze I' H' A) := froze_sub fun a m => g.off a (List.mem_append_left _ m)
    have r' := Rp.frz (H' := H') sub2 d0 v A (fun a o m e => by rw [froze_in m]; exact e) r
    exact k v H' _ F' g2 s (n.stay sub2 fun _ _ _ e => e) (r'.sv g2.top (frz_frz d0)) fun _ => r'

/-- an operation hands back d: it changes nothing, makes new objects -/
def Res (G : Cg) (I H : Hp) (d : D) (Q : VK) : Prop := ∀ v H' I' A, Same I I' → Same I' H' → Same H H' → (∀ a o, I' a = some o → I a = some o ∨ H a = none) → (∀ a ∈ A, H a = none ∧ I' a = none) → A.Nodup → Rp G I' H' d v A → Q v H'
theorem Res.old {G : Cg} {I H : Hp} {d : D} {Q : VK} (h : Res G I H d Q) (t : Same I H) {v : V} (r : Rp G I H d v []) : Q v H :=
  h v H I [] (Same.refl _) t (Same.refl _) (fun _ _ z => .inl z) (fun _ z => nomatch z) List.nodup_nil r
def V1 (G : Cg) (r : V → Hp → VK → Prop) (o : D → Option D) : Prop := ∀ I H d v e Q, Same I H → Sv G I H d v → o d = some e → Res G I H e Q → r v H Q
def V2 (G : Cg) (r : R2) (o : D → D → Option D) : Prop := ∀ I H d1 d2 v1 v2 e Q, Same I H → Sv G I H d1 v1 → Sv G I H d2 v2 → o d1 d2 = some e → Res G I H e Q → r v1 v2 H Q
theorem Go.res {I H I1 H1 I2 H2 : Hp} {F F1 A : List Addr} (g : Go I H F I1 H1 F1) (lv : ∀ a ∈ F1, ∃ o, H1 a = some o) (s1 : Same I1 I2) (s2 : Same I2 H2) (s3 : Same H1 H2)
    (n : ∀ a o, I2 a = some o → I1 a = some o ∨ H1 a = none) (fr : ∀ a ∈ A, H1 a = none ∧ I2 a = none) (nd : A.Nodup) : Go I H F I2 H2 (A ++ F1) := by
  have gone : ∀ a, H1 a = none → a ∈ F ∨ H a = none := fun a e => by
    by_cases m : a ∈ F
    · exact .inl m
    · cases q : H a with
      | none => exact .inr rfl
      | some o => rw [g.keep a o q m] at e; cases e
  refine ⟨g.sub.trans s1, s2, fun a o h m => s3 a o (g.keep a o h m), fun a o h => ?_, fun a m => ?_, fun a m => ?_, List.nodup_append.mpr ⟨nd, g.nd, fun a m b m2 e => ?_⟩⟩
  · rcases n a o h with z | z
    · exact g.frz a o z
    · exact .inr (gone a z)
  · rcases List.mem_append.mp m with m | m
    · exact gone a (fr a m).1
    · exact g.own a m
  · rcases List.mem_append.mp m with m | m
    · exact (fr a m).2
    · cases q : I2 a with
      | none => rfl
      | some o =>
        rcases n a o q with z | z
        · rw [g.off a m] at z; cases z
        · obtain ⟨u, hu⟩ := lv a m
          rw [z] at hu; cases hu
  · subst e
    obtain ⟨u, hu⟩ := lv a m2
    rw [(fr a m).1] at hu; cases hu
def eOp1 (o : D → Option D) (m : M) : M := fun ρ => match m ρ with
  | some (d, ρ') => match o d with
    | some e => some (e, ρ')
    | none => none
  | none => none
def eOp2 (o : D → D → Option D) (m n : M) : M := fun ρ => match m ρ with
  | some (d, ρ') => match n ρ' with
    | some (e, ρ2) => match o d e with
      | some f => some (f, ρ2)
      | none => none
    | none => none
  | none => none
theorem eOp1_some {o : D → Option D} {m : M} {ρ ρ' : Env} {e : D} (h : eOp1 o m ρ = some (e, ρ')) : ∃ d, m ρ = some (d, ρ') ∧ o d = some e := by
  unfold eOp1 at h
  split at h
  · rename_i d ρ1 em
    split at h
    · rename_i e1 eo
      cases h
      exact ⟨d, em, eo⟩
    · cases h
  · cases h
theorem eOp2_some {o : D → D → Option D} {m n : M} {ρ ρ' : Env} {e : D} (h : eOp2 o m n ρ = some (e, ρ')) : ∃ d1 ρ1 d2, m ρ = some (d1, ρ1) ∧ n ρ1 = some (d2, ρ') ∧ o d1 d2 = some e := by
  unfold eOp2 at h
  split at h
  · rename_i d ρ1 em
    split at h
    · rename_i e1 ρ2 en
      split at h
      · rename_i f ef
        cases h
        exact ⟨d, ρ1, e1, em, en, ef⟩
      · cases h
    · cases h
  · cases h
theorem un_of {G : Cg} {r : V → Hp → VK → Prop} {o : D → Option D} {σ : L2.St} {H : Hp} {Q : VK} (hv : V1 G r o) (h : tE G q (eOp1 o m) σ H Q) : tUn r (tA G p q m) σ H Q := by
  obtain ⟨I, F, ρ, d, ρ', f, e, k⟩ := h
  obtain ⟨d0, em, eo⟩ := eOp1_some e
  refine ⟨I, F, ρ, d0, ρ', f, em, fun v H1 I1 F1 g s n sv _ => ?_⟩
  refine hv I1 H1 d0 v d Q g.top sv eo fun v' H2 I2 A s1 s2 s3 n1 fr nd rp => ?_
  exact k v' H2 I2 A F1 (g.res n.live s1 s2 s3 n1 fr nd) (fun z => (s z).trans s3) (n.stay s1 fun a o _ e => s3 a o e) rp
theorem Sv.stay {G : Cg} {I I' H H' : Hp} {d : D} {v : V} (s : Same I I') (t : Same H H') (h : Sv G I H d v) : Sv G I' H' d v := by
  have no : ∀ (a : Addr) (o : HO), a ∈ ([] : List Addr) → H a = some o → H' a = some o := fun _ _ z => nomatch z
  cases d with
  | lst o xs => obtain ⟨a, vs, e, q, r⟩ := h; exact ⟨a, vs, e, t _ _ q, r.stay s _ _ _ no⟩
  | dic o kvs => obtain ⟨a, ob, es, e, q, z, r⟩ := h; exact ⟨a, ob, es, e, t _ _ q, z, r.stay s _ _ _ no⟩
  | ins o c fs => obtain ⟨a, dx, gs, e, q, z, r⟩ := h; exact ⟨a, dx, gs, e, t _ _ q, t _ _ z, r.stay s _ _ _ no⟩
  | non => exact Rp.stay (G := G) s .non v [] no h
  | bl b => exact Rp.stay (G := G) s (.bl b) v [] no h
  | int i => exact Rp.stay (G := G) s (.int i) v [] no h
  | str y => exact Rp.stay (G := G) s (.str y) v [] no h
  | tup xs => exact Rp.stay (G := G) s (.tup xs) v [] no h
  | scr ns => exact Rp.stay (G := G) s (.scr ns) v [] no h
  | exc c l => exact Rp.stay (G := G) s (.exc c l) v [] no h
theorem op_of {G : Cg} {r : R2} {o : D → D → Option D} {σ : L2.St} {H : Hp} {Q : VK} (hv : V2 G r o) (hp : (p1 || q2) = true) (hm : Plain ma) (h : tE G (q1 && q2) (eOp2 o ma mb) σ H Q) : tOp r (tA G p1 q1 ma) (tA G p2 q2 mb) σ H Q := by
  obtain ⟨I, F, ρ, d, ρ', f, e, k⟩ := h
  obtain ⟨d1, ρ1, d2, em, en, eo⟩ := eOp2_some e
  refine ⟨I, F, ρ, d1, ρ1, f, em, fun v1 H1 I1 F1 g1 s1 n1 sv1 pv1 => ?_⟩
  refine ⟨I1, F1, ρ1, d2, ρ', .of g1 n1, en, fun v2 H2 I2 F2 g2 s2 n2 sv2 _ => ?_⟩
  have sv1' : Sv G I2 H2 d1 v1 := by
    cases p1 with
    | true => exact Rp.sv g2.top ((pv1 rfl).stay g2.sub _ _ _ (by intro _ _ z; cases z)) (hm _ _ _ em)
    | false => exact sv1.stay g2.sub (s2 (by simpa using hp))
  refine hv I2 H2 d1 d2 v1 v2 d Q g2.top sv1' sv2 eo fun v' H3 I3 A t1 t2 t3 n3 fr nd rp => ?_
  have g12 : Go I H F I2 H2 F2 := Go.trans (T := []) g1 g2 (by intro _ z; cases z)
  exact k v' H3 I3 A F2 (g12.res n2.live t1 t2 t3 n3 fr nd) (fun z => by
    rw [Bool.and_eq_true] at z
    exact ((s1 z.1).trans (s2 z.2)).trans t3) (n2.stay t1 fun a o _ e => t3 a o e) rp
theorem de_bin {op : Operator} {r : R2} {o : D → D → Option D} (ho : OpR X (binaryOp op) r) (hv : V2 (cgOf X cls) r o) (ha : DA X cls a p1 q1 ma) (hb : DA X cls b p2 q2 mb) (hp : (p1 || q2) = true := by rfl) :
    DE X cls (.BinOp a op b pos) (q1 && q2) (eOp2 o ma mb) := ⟨PE.imp (pe_op ho ha.pe hb.pe) fun _ _ _ h => op_of hv hp ha.pl h⟩
theorem de_cmp {op : CmpOp} {r : R2} {o : D → D → Option D} (ho : OpR X (compareOp op) r) (hv : V2 (cgOf X cls) r o) (ha : DA X cls a p1 q1 ma) (hb : DA X cls b p2 q2 mb) (hp : (p1 || q2) = true := by rfl) (h1 : behindInMarks op b = false := by first | exact nobehind _ (by decide) (by decide) | rfl) :
    DE X cls (.Compare a [op] [b] pos) (q1 && q2) (eOp2 o ma mb) := ⟨PE.imp (pe_cmpR ho ha.pe hb.pe h1) fun _ _ _ h => op_of hv hp ha.pl h⟩
theorem de_un {op : UnaryOp} {r : V → Hp → VK → Prop} {o : D → Option D} (ho : UnR X (unaryOp op) r) (hv : V1 (cgOf X cls) r o) (ha : DA X cls a p q m) :
    DE X cls (.UnaryOp op a pos) q (eOp1 o m) := ⟨PE.imp (pe_un ho ha.pe) fun _ _ _ h => un_of hv h⟩
end
end Ev

/-! Ev4: operations on ints, lists, tuples, texts. -/
namespace Ev
open PySem PySem.Spec PyProof.Rows L2

/-! ### either of two rules -/
section
variable {X : Cx} {cls : Nat → Addr}
theorem OpR.or {f : Value → Value → Sem Value} {r1 r2 : R2} (h1 : OpR X f r1) (h2 : OpR X f r2) : OpR X f (fun x y H Q => r1 x y H Q ∨ r2 x y H Q) :=
  fun pins s σ H x y v u Q I rx ry h => h.elim (h1 pins s σ H x y v u Q I rx ry) (h2 pins s σ H x y v u Q I rx ry)
theorem IxR.or {r1 r2 : R2} (h1 : IxR X r1) (h2 : IxR X r2) : IxR X (fun x y H Q => r1 x y H Q ∨ r2 x y H Q) := by
  intro b sl pins s σ H x y v u Q I rx ry h hs
  exact h.elim (fun h => h1 b sl pins s σ H x y v u Q I rx ry h hs) (fun h => h2 b sl pins s σ H x y v u Q I rx ry h hs)
theorem CallR.or {f : Value} {r1 r2 : List V → Hp → VK → Prop} (h1 : CallR X f r1) (h2 : CallR X f r2) : CallR X f (fun xs H Q => r1 xs H Q ∨ r2 xs H Q) :=
  fun pins s σ H xs us Q I r h => h.elim (h1 pins s σ H xs us Q I r) (h2 pins s σ H xs us Q I r)
end

section
variable {G : Cg} {I H : Hp} {v : V}
theorem Sv.int {i : Int} (h : Sv G I H (.int i) v) : v = .int i := by simp only [Sv, Rp] at h; exact h.1
theorem Sv.bl {i : Bool} (h : Sv G I H (.bl i) v) : v = .bl i := by simp only [Sv, Rp] at h; exact h.1
theorem Sv.str {i : Str} (h : Sv G I H (.str i) v) : v = .str i := by simp only [Sv, Rp] at h; exact h.1
theorem Sv.non (h : Sv G I H .non v) : v = .non := by simp only [Sv, Rp] at h; exact h.1
theorem Sv.tup {xs : List D} (h : Sv G I H (.tup xs) v) : ∃ a vs, v = .ref a ∧ SqT G.K I a vs ∧ RpL G I H xs vs [] := by simpa only [Sv, Rp] using h
theorem rp_int (i : Int) : Rp G I H (.int i) (.int i) [] := ⟨rfl, rfl⟩
theorem rp_bl (i : Bool) : Rp G I H (.bl i) (.bl i) [] := ⟨rfl, rfl⟩
theorem rp_str (i : Str) : Rp G I H (.str i) (.str i) [] := ⟨rfl, rfl⟩
theorem rp_non : Rp G I H .non .non [] := ⟨rfl, rfl⟩
end

/-! ### lists of values -/
section
variable {G : Cg} {I H : Hp}
theorem RpL.length : ∀ {xs : List D} {vs : List V} {A : List Addr}, RpL G I H xs vs A → xs.length = vs.length
  | [], _, _, h => by rw [h.1]; rfl
  | x :: xs, _, _, ⟨v, r, B, C, e, _, _, h⟩ => by rw [e, List.length_cons, List.length_cons, RpL.length h]
theorem RpL.append : ∀ {xs ys : List D} {vs ws : List V} {A B : List Addr}, RpL G I H xs vs A → RpL G I H ys ws B → RpL G I H (xs ++ ys) (vs ++ ws) (A ++ B)
  | [], _, _, _, _, _, h, k => by rw [h.1, h.2]; exact k
  | x :: xs, _, _, _, _, _, ⟨v, r, B, C, e, f, q, h⟩, k => ⟨v, r ++ _, B, C ++ _, by rw [e]; rfl, by rw [f, List.append_assoc], q, RpL.append h k⟩
theorem RpL.get : ∀ {xs : List D} {vs : List V} {i : Nat} {d : D}, RpL G I H xs vs [] → xs[i]? = some d → ∃ v, vs[i]? = some v ∧ Rp G I H d v []
  | [], _, _, _, _, e => by simp at e
  | x :: xs, _, 0, d, ⟨v, r, B, C, e, f, q, h⟩, z => by
    have e1 : B = [] := (List.append_eq_nil_iff.mp f.symm).1
    subst e1
    have : x = d := by simpa using z
    subst this
    exact ⟨v, by rw [e]; rfl, q⟩
  | x :: xs, _, i + 1, d, ⟨v, r, B, C, e, f, q, h⟩, z => by
    have e1 : C = [] := (List.append_eq_nil_iff.mp f.symm).2
    subst e1
    obtain ⟨u, hu, k⟩ := RpL.get (i := i) h (by simpa using z)
    exact ⟨u, by rw [e]; simpa using hu, k⟩
theorem RpL.split : ∀ {xs : List D} {vs : List V}, RpL G I H xs vs [] → RpL G I H xs vs [] := id
theorem RpL.cons0 {x : D} {xs : List D} {v : V} {vs : List V} (h : Rp G I H x v []) (k : RpL G I H xs vs []) : RpL G I H (x :: xs) (v :: vs) [] := ⟨v, vs, [], [], rfl, rfl, h, k⟩
theorem RpL.uncons0 {x : D} {xs : List D} {vs : List V} (h : RpL G I H (x :: xs) vs []) : ∃ v r, vs = v :: r ∧ Rp G I H x v [] ∧ RpL G I H xs r [] := by
  obtain ⟨v, r, B, C, e, f, q, k⟩ := h
  obtain ⟨rfl, rfl⟩ := List.append_eq_nil_iff.mp f.symm
  exact ⟨v, r, e, q, k⟩
theorem RpL.take : ∀ {xs : List D} {vs : List V} (n : Nat), RpL G I H xs vs [] → RpL G I H (xs.take n) (vs.take n) []
  | xs, vs, 0, _ => by simp only [List.take_zero]; exact ⟨rfl, rfl⟩
  | [], _, n + 1, h => by rw [h.1]; exact ⟨rfl, rfl⟩
  | x :: xs, _, n + 1, h => by
    obtain ⟨v, r, rfl, q, k⟩ := h.uncons0
    exact .cons0 q (RpL.take n k)
theorem RpL.drop : ∀ {xs : List D} {vs : List V} (n : Nat), RpL G I H xs vs [] → RpL G I H (xs.drop n) (vs.drop n) []
  | xs, vs, 0, h => h
  | [], _, n + 1, h => by rw [h.1]; exact ⟨rfl, rfl⟩
  | x :: xs, _, n + 1, h => by
    obtain ⟨v, r, rfl, q, k⟩ := h.uncons0
    exact RpL.drop n k
theorem RpL.plain {xs : List D} {vs : List V} {A : List Addr} (h : RpL G I H xs vs A) : RpL G I H xs vs A := h
theorem same_new {H : Hp} {p : Addr} {o : HO} (hp : H p = none) : Same H (upd H p o) := fun b u e => by rw [upd_ne (ne_of_none e hp)]; exact e
/-- a new owned object is handed back -/
theorem Res.new {d : D} {Q : VK} {p : Addr} {o : HO} (h : Res G I H d Q) (t : Same I H) (hp : H p = none) (r : Rp G I (upd H p o) d (.ref p) [p]) : Q (.ref p) (upd H p o) :=
  h _ _ I [p] (Same.refl _) (t.trans (same_new hp)) (same_new hp) (fun _ _ z => .inl z) (fun a m => by
    have e : a = p := by simpa using m
    subst e
    exact ⟨hp, t.free hp⟩) (by simp) r
/-- a new frozen object -/
theorem Res.newF {d : D} {Q : VK} {p : Addr} {o : HO} (h : Res G I H d Q) (t : Same I H) (hp : H p = none) (r : Rp G (upd I p o) (upd H p o) d (.ref p) []) : Q (.ref p) (upd H p o) :=
  h _ _ (upd I p o) [] (same_new (t.free hp)) (fun b u e => by
    by_cases q : b = p
    · subst q; rw [upd_same] at e ⊢; exact e
    · rw [upd_ne q] at e ⊢; exact t b u e) (same_new hp) (fun a u z => by
    by_cases q : a = p
    · subst q; exact .inr hp
    · rw [upd_ne q] at z; exact .inl z) (fun _ z => nomatch z) List.nodup_nil r
theorem Rp.newL {xs : List D} {vs : List V} {p : Addr} (r : RpL G I H xs vs []) (hp : H p = none) : Rp G I (upd H p (.lst vs)) (.lst true xs) (.ref p) [p] :=
  ⟨p, vs, [], rfl, rfl, upd_same, r.stay (Same.refl _) _ _ _ (by intro _ _ z; cases z)⟩
theorem Rp.newT {xs : List D} {vs : List V} {p : Addr} (r : RpL G I H xs vs []) (t : Same I H) (hp : H p = none) : Rp G (upd I p (.tup vs)) (upd H p (.tup vs)) (.tup xs) (.ref p) [] :=
  ⟨p, vs, rfl, SqT.of upd_same, r.stay (same_new (t.free hp)) _ _ _ (by intro _ _ z; cases z)⟩
end

/-! ### ints -/
def addD : D → D → Option D
  | .int i, .int j => some (.int (i + j))
  | .lst _ xs, .lst _ ys => if xs.length + ys.length ≤ sizeLine then some (.lst true (xs ++ ys)) else none
  | .str x, .str y => if x.length + y.length ≤ sizeLine then some (.str (x ++ y)) else none
  | .tup xs, .tup ys => if xs.length + ys.length ≤ sizeLine ∧ 0 < xs.length then some (.tup (xs ++ ys)) else none
  | _, _ => none
def subD : D → D → Option D
  | .int i, .int j => some (.int (i - j))
  | _, _ => none
def mulD : D → D → Option D
  | .int i, .int j => if (-(2 ^ 64) < i ∧ i < 2 ^ 64) ∨ (-(2 ^ 64) < j ∧ j < 2 ^ 64) then some (.int (i * j)) else none
  | .lst _ xs, .int k => if -(2 ^ 63) ≤ k ∧ k < 2 ^ 63 ∧ xs.length * k.toNat ≤ sizeLine then some (.lst true (List.replicate k.toNat xs).flatten) else none
  | _, _ => none
def modD : D → D → Option D
  | .int i, .int j => if 0 < j then some (.int (i % j)) else none
  | _, _ => none
def fdivD : D → D → Option D
  | .int i, .int j => if 0 < j ∧ j < 1073741824 then some (.int (i / j)) else none
  | _, _ => none
def powD : D → D → Option D
  | .int i, .int j => if 0 ≤ j ∧ j ≤ 1000000 ∧ i.natAbs < 2 ^ 64 then some (.int (i ^ j.toNat)) else none
  | _, _ => none
def negD : D → Option D
  | .int i => some (.int (-i))
  | _ => none
abbrev rOr (r1 r2 : R2) : R2 := fun x y H Q => r1 x y H Q ∨ r2 x y H Q
def rAdd (K : PySem.W.Frag) : R2 := rOr (rI0 fun i j => .int (i + j)) (rOr rCat (rOr (fun x y H Q => ∃ i j, x = .str i ∧ y = .str j ∧ i.length + j.length ≤ sizeLine ∧ Q (.str (i ++ j)) H) (rCatT K)))
theorem x_add {X : Cx} : OpR X (binaryOp .Add) (rAdd X.K) := OpR.or op_add (OpR.or op_cat (OpR.or op_add_str op_catT))
section
variable {G : Cg}
theorem nil0 {α : Type} {A B : List α} (h : ([] : List α) = A ++ B) : A = [] ∧ B = [] := List.append_eq_nil_iff.mp h.symm
theorem v_add : V2 G (rAdd G.K) addD := by
  intro I H d1 d2 v1 v2 e Q t s1 s2 o h
  unfold addD at o
  split at o
  · rename_i i j
    cases o
    exact .inl ⟨i, j, s1.int, s2.int, h.old t (rp_int _)⟩
  · rename_i o1 xs o2 ys
    split at o
    · rename_i hz
      cases o
      obtain ⟨a, vs, rfl, ha, ra⟩ := s1
      obtain ⟨b, ws, rfl, hb, rb⟩ := s2
      refine .inr (.inl ⟨a, b, vs, ws, rfl, rfl, ha, hb, by rw [← ra.length, ← rb.length]; exact hz, fun p hp => ?_⟩)
      exact h.new t hp (Rp.newL (ra.append rb) hp)
    · cases o
  · rename_i x y
    split at o
    · rename_i hz
      cases o
      exact .inr (.inr (.inl ⟨x, y, s1.str, s2.str, hz, h.old t (rp_str _)⟩))
    · cases o
  · rename_i xs ys
    split at o
    · rename_i hz
      cases o
      obtain ⟨a, vs, rfl, ha, ra⟩ := s1.tup
      obtain ⟨b, ws, rfl, hb, rb⟩ := s2.tup
      refine .inr (.inr (.inr ⟨a, b, vs, ws, rfl, rfl, SqT.sub ha t, SqT.sub hb t, fun z => ?_, by rw [← ra.length, ← rb.length]; exact hz.1, fun z => ?_, fun z p hp => ?_⟩))
      · rw [z] at ra
        have := ra.length
        rw [this] at hz
        exact absurd hz.2 (by simp)
      · subst z
        have e1 : ys = [] := List.length_eq_zero_iff.mp rb.length
        rw [e1, List.append_nil] at h
        exact h.old t ⟨a, vs, rfl, ha, ra⟩
      · exact h.newF t hp (Rp.newT (ra.append rb) t hp)
    · cases o
  · cases o
theorem v_sub : V2 G (rI0 fun i j => .int (i - j)) subD := by
  intro I H d1 d2 v1 v2 e Q t s1 s2 o h
  unfold subD at o
  split at o
  · cases o
    exact ⟨_, _, s1.int, s2.int, h.old t (rp_int _)⟩
  · cases o
def rMul : R2 := rOr (rI CMul fun i j => .int (i * j)) rRep
theorem x_mul {X : Cx} : OpR X (binaryOp .Mult) rMul := OpR.or op_mul op_rep
theorem RpL.rep {I H : Hp} {xs : List D} {vs : List V} (h : RpL G I H xs vs []) : ∀ n : Nat, RpL G I H (List.replicate n xs).flatten (List.replicate n vs).flatten []
  | 0 => ⟨rfl, rfl⟩
  | n + 1 => by
    rw [List.replicate_succ, List.replicate_succ, List.flatten_cons, List.flatten_cons]
    exact h.append (RpL.rep h n)
theorem v_mul : V2 G rMul mulD := by
  intro I H d1 d2 v1 v2 e Q t s1 s2 o h
  unfold mulD at o
  split at o
  · split at o
    · rename_i hc
      cases o
      exact .inl ⟨_, _, s1.int, s2.int, hc, h.old t (rp_int _)⟩
    · cases o
  · rename_i o1 xs k
    split at o
    · rename_i hc
      cases o
      obtain ⟨a, vs, rfl, ha, ra⟩ := s1
      refine .inr ⟨a, k, vs, rfl, s2.int, ha, hc.1, hc.2.1, by rw [← ra.length]; exact hc.2.2, fun p hp => ?_⟩
      exact h.new t hp (Rp.newL (ra.rep _) hp)
    · cases o
  · cases o
theorem v_mod : V2 G (rI (fun _ j => 0 < j) fun i j => .int (i % j)) modD := by
  intro I H d1 d2 v1 v2 e Q t s1 s2 o h
  unfold modD at o
  split at o
  · split at o
    · rename_i hc
      cases o
      exact ⟨_, _, s1.int, s2.int, hc, h.old t (rp_int _)⟩
    · cases o
  · cases o
theorem v_fdiv : V2 G (rI CDiv fun i j => .int (i / j)) fdivD := by
  intro I H d1 d2 v1 v2 e Q t s1 s2 o h
  unfold fdivD at o
  split at o
  · split at o
    · rename_i hc
      cases o
      exact ⟨_, _, s1.int, s2.int, hc, h.old t (rp_int _)⟩
    · cases o
  · cases o
theorem v_pow : V2 G (rI CPow fun i j => .int (i ^ j.toNat)) powD := by
  intro I H d1 d2 v1 v2 e Q t s1 s2 o h
  unfold powD at o
  split at o
  · split at o
    · rename_i hc
      cases o
      exact ⟨_, _, s1.int, s2.int, hc, h.old t (rp_int _)⟩
    · cases o
  · cases o
theorem v_neg : V1 G (rU fun i => .int (-i)) negD := by
  intro I H d v e Q t s1 o h
  unfold negD at o
  split at o
  · cases o
    exact ⟨_, s1.int, h.old t (rp_int _)⟩
  · cases o
/-! ### comparisons of ints -/
def cmpD (p : Int → Int → Bool) : D → D → Option D
  | .int i, .int j => some (.bl (p i j))
  | _, _ => none
theorem v_cmp (p : Int → Int → Bool) : V2 G (rI0 fun i j => .bl (p i j)) (cmpD p) := by
  intro I H d1 d2 v1 v2 e Q t s1 s2 o h
  unfold cmpD at o
  split at o
  · cases o
    exact ⟨_, _, s1.int, s2.int, h.old t (rp_bl _)⟩
  · cases o
/-! ### is None -/
def isNon : D → Bool
  | .non => true
  | _ => false
theorem Sv.non_iff {I H : Hp} {d : D} {v : V} (h : Sv G I H d v) : decide (v = .non) = isNon d := by
  cases d with
  | non => rw [h.non]; rfl
  | bl b => rw [h.bl]; rfl
  | int b => rw [h.int]; rfl
  | str b => rw [h.str]; rfl
  | lst o xs => obtain ⟨a, vs, rfl, _⟩ := h; rfl
  | tup xs => obtain ⟨a, vs, rfl, _⟩ := h.tup; rfl
  | dic o xs => obtain ⟨a, o, es, rfl, _⟩ := h; rfl
  | ins o c fs => obtain ⟨a, dx, gs, rfl, _⟩ := h; rfl
  | scr ns =>
    simp only [Sv, Rp] at h
    obtain ⟨_, a, rfl, _⟩ := h; rfl
  | exc c l =>
    simp only [Sv, Rp] at h
    obtain ⟨_, a, oe, vs, rfl, _⟩ := h; rfl
def isND : D → D → Option D
  | d, .non => some (.bl (isNon d))
  | _, _ => none
def notND : D → D → Option D
  | d, .non => some (.bl (!isNon d))
  | _, _ => none
theorem v_isN : V2 G (fun x y H Q => y = .non ∧ Q (.bl (decide (x = .non))) H) isND := by
  intro I H d1 d2 v1 v2 e Q t s1 s2 o h
  unfold isND at o
  split at o
  · cases o
    exact ⟨s2.non, by rw [s1.non_iff]; exact h.old t (rp_bl _)⟩
  · cases o
theorem v_notN : V2 G (fun x y H Q => y = .non ∧ Q (.bl (!decide (x = .non))) H) notND := by
  intro I H d1 d2 v1 v2 e Q t s1 s2 o h
  unfold notND at o
  split at o
  · cases o
    exact ⟨s2.non, by rw [s1.non_iff]; exact h.old t (rp_bl _)⟩
  · cases o
/-! ### x[i] of a list, a tuple, a text -/
def idxD : D → D → Option D
  | .lst _ xs, .int i => atI xs i
  | .tup xs, .int i => atI xs i
  | .str z, .int i => if z.length ≤ sizeLine then (atI z.cps.toList i).map fun c => .str ⟨#[c]⟩ else none
  | _, _ => none
theorem RpL.atI {I H : Hp} {xs : List D} {vs : List V} {i : Int} {d : D} (h : RpL G I H xs vs []) (e : L2.atI xs i = some d) : ∃ v, L2.atI vs i = some v ∧ Rp G I H d v [] := by
  unfold L2.atI at e ⊢
  rw [← h.length]
  cases q : ixN xs.length i with
  | none => rw [q] at e; cases e
  | some j =>
    rw [q] at e
    exact h.get e
theorem v_ix : V2 G (rIx G.K) idxD := by
  intro I H d1 d2 v1 v2 e Q t s1 s2 o h
  unfold idxD at o
  split at o
  · obtain ⟨a, vs, rfl, ha, ra⟩ := s1
    obtain ⟨v, hv, rv⟩ := ra.atI o
    exact .inl ⟨a, vs, _, v, rfl, s2.int, SqL.of ha, hv, h.old t rv⟩
  · obtain ⟨a, vs, rfl, ha, ra⟩ := s1.tup
    obtain ⟨v, hv, rv⟩ := ra.atI o
    exact .inr (.inl ⟨a, vs, _, v, rfl, s2.int, SqT.sub ha t, hv, h.old t rv⟩)
  · rename_i z i
    split at o
    · rename_i hz
      cases q : atI z.cps.toList i with
      | none => rw [q] at o; cases o
      | some c =>
        rw [q] at o
        cases o
        exact .inr (.inr ⟨z, i, c, s1.str, s2.int, hz, q, h.old t (rp_str _)⟩)
    · cases o
  · cases o
end
section
variable {X : Cx} {cls : Nat → Addr} {a b : Expr} {ma mb : M} {p1 p2 q1 q2 : Bool} {pos : Pos}
theorem de_ix {r : R2} {o : D → D → Option D} (hr : IxR X r) (hv : V2 (cgOf X cls) r o) (ha : DA X cls a p1 q1 ma) (hb : DA X cls b p2 q2 mb) (hp : (p1 || q2) = true := by rfl) (hs : PlainIx b := by exact fun _ _ => rfl) :
    DE X cls (.Subscript a b pos) (q1 && q2) (eOp2 o ma mb) := ⟨PE.imp (pe_ix hr ha.pe hb.pe hs) fun _ _ _ h => op_of hv hp ha.pl h⟩
end
end Ev

/-! Ev5: tests, and, or, not, chains, argument lists, displays, built-in functions. -/
namespace Ev
open PySem PySem.Spec PyProof.Rows L2

/-! ### tests -/
def tT (G : Cg) (q : Bool) (m : M) : TT := fun σ H Q => ∃ I F ρ b ρ', Fit G I H ρ σ F ∧ m ρ = some (.bl b, ρ') ∧
  ∀ H' I' F', Go I H F I' H' F' → (q = true → Same H H') → EnvR G I' H' ρ' σ F' → Q b H'
structure DT (X : Cx) (cls : Nat → Addr) (e : Expr) (q : Bool) (m : M) : Prop where
  pt : PT X e (tT (cgOf X cls) q m)
structure DW (X : Cx) (cls : Nat → Addr) (e : Expr) (q : Bool) (m : M) : Prop where
  pw : PW X e (tT (cgOf X cls) q m)
/-- a semantic function that hands back truth values alone -/
def eTru (m : M) : M := fun ρ => match m ρ with
  | some (.bl b, ρ') => some (.bl b, ρ')
  | _ => none
theorem eTru_some {m : M} {ρ ρ' : Env} {d : D} (h : eTru m ρ = some (d, ρ')) : ∃ b, d = .bl b ∧ m ρ = some (.bl b, ρ') := by
  unfold eTru at h
  split at h
  · rename_i b ρ1 e
    cases h
    exact ⟨b, rfl, e⟩
  · cases h
def eNot (m : M) : M := fun ρ => match m ρ with
  | some (.bl b, ρ') => some (.bl (!b), ρ')
  | _ => none
def eAnd (m n : M) : M := fun ρ => match m ρ with
  | some (.bl true, ρ') => n ρ'
  | some (.bl false, ρ') => some (.bl false, ρ')
  | _ => none
def eOr (m n : M) : M := fun ρ => match m ρ with
  | some (.bl true, ρ') => some (.bl true, ρ')
  | some (.bl false, ρ') => n ρ'
  | _ => none
def eIf (c m n : M) : M := fun ρ => match c ρ with
  | some (.bl true, ρ') => m ρ'
  | some (.bl false, ρ') => n ρ'
  | _ => none
/-- a < b < c -/
def eChain (o1 o2 : D → D → Option D) (m n l : M) : M := fun ρ => match m ρ with
  | some (x, ρ1) => match n ρ1 with
    | some (y, ρ2) => match o1 x y with
      | some (.bl true) => match l ρ2 with
        | some (z, ρ3) => match o2 y z with
          | some d => some (d, ρ3)
          | none => none
        | none => none
      | some (.bl false) => some (.bl false, ρ2)
      | _ => none
    | none => none
  | none => none

section
variable {G : Cg} {I H I1 H1 I2 H2 : Hp} {F F1 F2 : List Addr} {σ : L2.St} {ρ : Env}
theorem Go.then (x : Go I H F I1 H1 F1) (y : Go I1 H1 F1 I2 H2 F2) : Go I H F I2 H2 F2 := Go.trans (T := []) x y (by intro _ z; cases z)
theorem Rp.up {d : D} {v : V} (s : Same I I1) (h : Rp G I H d v []) : Rp G I1 H1 d v [] := h.stay s _ _ _ (by intro _ _ z; cases z)
theorem rp_bl_eq {b : Bool} {v : V} {A : List Addr} (h : Rp G I H (.bl b) v A) : v = .bl b ∧ A = [] := by simpa only [Rp] using h
end
section
variable {X : Cx} {cls : Nat → Addr} {e a b c : Expr} {rest : List Expr} {m ma mb mc : M} {p p1 p2 p3 q q1 q2 q3 : Bool} {pos : Pos} {op op' : CmpOp}
theorem tT_val {G : Cg} {σ : L2.St} {H : Hp} {Q : Bool → Hp → Prop} (h : tT G q m σ H Q) : tB (tE G q m) σ H Q := by
  obtain ⟨I, F, ρ, b, ρ', f, e, k⟩ := h
  refine ⟨I, F, ρ, .bl b, ρ', f, e, fun v H' I' A F' g s n r => ?_⟩
  obtain ⟨rfl, rfl⟩ := rp_bl_eq r
  exact ⟨b, rfl, k H' I' F' g s n⟩
theorem dt_val (h : DE X cls e q m) (he : ∀ whole, isTrue e X.env whole = (do let v ← whole; standAt e.pos; holding [v] (truthy v)) := by intro _; rfl) : DT X cls e q m :=
  ⟨PT.imp (pt_val h.pe he) fun _ _ _ h => tT_val h⟩
theorem dt_cmp {r : R2} {o : D → D → Option D} (ho : OpR X (compareOp op) r) (hv : V2 (cgOf X cls) r o) (ha : DA X cls a p1 q1 ma) (hb : DA X cls b p2 q2 mb) (hp : (p1 || q2) = true := by rfl) (h1 : behindInMarks op b = false := by first | exact nobehind _ (by decide) (by decide) | rfl) :
    DT X cls (.Compare a [op] [b] pos) (q1 && q2) (eOp2 o ma mb) := ⟨PT.imp (pt_cmpR ho ha.pe hb.pe h1) fun _ _ _ h => op_of hv hp ha.pl (tT_val h)⟩
theorem dt_not (h : DT X cls a q m) : DT X cls (.UnaryOp .Not a pos) q (eNot m) := by
  refine ⟨PT.imp (pt_not h.pt) fun σ H Q ⟨I, F, ρ, b, ρ', f, e, k⟩ => ?_⟩
  unfold eNot at e
  split at e
  · rename_i c ρ1 em
    cases e
    exact ⟨I, F, ρ, c, ρ', f, em, k⟩
  · cases e
theorem DW.dt (h : DW X cls e q m) : DT X cls e q m := ⟨h.pw.pt⟩
theorem dw_and1 (h : DT X cls a q m) : DW X cls (.BoolOp .And [a] pos) q m := ⟨pw_and1 h.pt⟩
theorem dw_or1 (h : DT X cls a q m) : DW X cls (.BoolOp .Or [a] pos) q m := ⟨pw_or1 h.pt⟩
theorem dw_and (h1 : DT X cls a q1 ma) (h2 : DW X cls (.BoolOp .And (b :: rest) pos) q2 mb) : DW X cls (.BoolOp .And (a :: b :: rest) pos) (q1 && q2) (eAnd ma mb) := by
  refine ⟨PW.imp (pw_and h1.pt h2.pw) fun σ H Q ⟨I, F, ρ, b, ρ', f, e, k⟩ => ?_⟩
  unfold eAnd at e
  split at e
  · rename_i ρ1 em
    refine ⟨I, F, ρ, true, ρ1, f, em, fun H1 I1 F1 g1 s1 n1 => ?_⟩
    refine iteT ?_
    exact ⟨I1, F1, ρ1, b, ρ', .of g1 n1, e, fun H2 I2 F2 g2 s2 n2 => k H2 I2 F2 (g1.then g2) (fun z => by
      rw [Bool.and_eq_true] at z
      exact (s1 z.1).trans (s2 z.2)) n2⟩
  · rename_i ρ1 em
    cases e
    refine ⟨I, F, ρ, false, ρ', f, em, fun H1 I1 F1 g1 s1 n1 => ?_⟩
    refine iteF ?_
    exact k H1 I1 F1 g1 (fun z => by
      rw [Bool.and_eq_true] at z
      exact s1 z.1) n1
  · cases e
theorem dw_or (h1 : DT X cls a q1 ma) (h2 : DW X cls (.BoolOp .Or (b :: rest) pos) q2 mb) : DW X cls (.BoolOp .Or (a :: b :: rest) pos) (q1 && q2) (eOr ma mb) := by
  refine ⟨PW.imp (pw_or h1.pt h2.pw) fun σ H Q ⟨I, F, ρ, b, ρ', f, e, k⟩ => ?_⟩
  unfold eOr at e
  split at e
  · rename_i ρ1 em
    cases e
    refine ⟨I, F, ρ, true, ρ', f, em, fun H1 I1 F1 g1 s1 n1 => ?_⟩
    refine iteT ?_
    exact k H1 I1 F1 g1 (fun z => by
      rw [Bool.and_eq_true] at z
      exact s1 z.1) n1
  · rename_i ρ1 em
    refine ⟨I, F, ρ, false, ρ1, f, em, fun H1 I1 F1 g1 s1 n1 => ?_⟩
    refine iteF ?_
    exact ⟨I1, F1, ρ1, b, ρ', .of g1 n1, e, fun H2 I2 F2 g2 s2 n2 => k H2 I2 F2 (g1.then g2) (fun z => by
      rw [Bool.and_eq_true] at z
      exact (s1 z.1).trans (s2 z.2)) n2⟩
  · cases e
/-! ### .. as values -/
theorem de_one {o : BoolOp} (h : DE X cls a q m) : DE X cls (.BoolOp o [a] pos) q m := ⟨pe_one h.pe⟩
theorem de_and (h1 : DE X cls a q1 ma) (h2 : DE X cls (.BoolOp .And (b :: rest) pos) q2 mb) : DE X cls (.BoolOp .And (a :: b :: rest) pos) (q1 && q2) (eAnd ma mb) := by
  refine ⟨PE.imp (pe_and h1.pe h2.pe) fun σ H Q ⟨I, F, ρ, d, ρ', f, e, k⟩ => ?_⟩
  unfold eAnd at e
  split at e
  · rename_i ρ1 em
    refine ⟨I, F, ρ, .bl true, ρ1, f, em, fun v H1 I1 A F1 g1 s1 n1 r => ?_⟩
    obtain ⟨rfl, rfl⟩ := rp_bl_eq r
    refine ⟨true, rfl, ?_⟩
    refine iteT ?_
    exact ⟨I1, F1, ρ1, d, ρ', .of g1 n1, e, fun v H2 I2 A F2 g2 s2 n2 r => k v H2 I2 A F2 (g1.then g2) (fun z => by
      rw [Bool.and_eq_true] at z
      exact (s1 z.1).trans (s2 z.2)) n2 r⟩
  · rename_i ρ1 em
    cases e
    refine ⟨I, F, ρ, .bl false, ρ', f, em, fun v H1 I1 A F1 g1 s1 n1 r => ?_⟩
    obtain ⟨rfl, rfl⟩ := rp_bl_eq r
    refine ⟨false, rfl, ?_⟩
    refine iteF ?_
    exact k _ H1 I1 [] F1 g1 (fun z => by
      rw [Bool.and_eq_true] at z
      exact s1 z.1) n1 r
  · cases e
theorem de_or (h1 : DE X cls a q1 ma) (h2 : DE X cls (.BoolOp .Or (b :: rest) pos) q2 mb) : DE X cls (.BoolOp .Or (a :: b :: rest) pos) (q1 && q2) (eOr ma mb) := by
  refine ⟨PE.imp (pe_or h1.pe h2.pe) fun σ H Q ⟨I, F, ρ, d, ρ', f, e, k⟩ => ?_⟩
  unfold eOr at e
  split at e
  · rename_i ρ1 em
    cases e
    refine ⟨I, F, ρ, .bl true, ρ', f, em, fun v H1 I1 A F1 g1 s1 n1 r => ?_⟩
    obtain ⟨rfl, rfl⟩ := rp_bl_eq r
    refine ⟨true, rfl, ?_⟩
    refine iteT ?_
    exact k _ H1 I1 [] F1 g1 (fun z => by
      rw [Bool.and_eq_true] at z
      exact s1 z.1) n1 r
  · rename_i ρ1 em
    refine ⟨I, F, ρ, .bl false, ρ1, f, em, fun v H1 I1 A F1 g1 s1 n1 r => ?_⟩
    obtain ⟨rfl, rfl⟩ := rp_bl_eq r
    refine ⟨false, rfl, ?_⟩
    refine iteF ?_
    exact ⟨I1, F1, ρ1, d, ρ', .of g1 n1, e, fun v H2 I2 A F2 g2 s2 n2 r => k v H2 I2 A F2 (g1.then g2) (fun z => by
      rw [Bool.and_eq_true] at z
      exact (s1 z.1).trans (s2 z.2)) n2 r⟩
  · cases e
theorem de_not (h : DE X cls a q m) : DE X cls (.UnaryOp .Not a pos) q (eNot m) := by
  refine ⟨PE.imp (pe_not h.pe) fun σ H Q ⟨I, F, ρ, d, ρ', f, e, k⟩ => ?_⟩
  unfold eNot at e
  split at e
  · rename_i c ρ1 em
    cases e
    refine ⟨I, F, ρ, .bl c, ρ', f, em, fun v H1 I1 A F1 g1 s1 n1 r => ?_⟩
    obtain ⟨rfl, rfl⟩ := rp_bl_eq r
    exact ⟨c, rfl, k _ H1 I1 [] F1 g1 s1 n1 (rp_bl _)⟩
  · cases e
theorem de_if (hc : DT X cls c q3 mc) (ha : DE X cls a q1 ma) (hb : DE X cls b q2 mb) : DE X cls (.IfExp c a b pos) (q3 && (q1 && q2)) (eIf mc ma mb) := by
  refine ⟨PE.imp (pe_ifExp hc.pt ha.pe hb.pe) fun σ H Q ⟨I, F, ρ, d, ρ', f, e, k⟩ => ?_⟩
  unfold eIf at e
  split at e
  · rename_i ρ1 em
    refine ⟨I, F, ρ, true, ρ1, f, em, fun H1 I1 F1 g1 s1 n1 => ?_⟩
    refine iteT ?_
    exact ⟨I1, F1, ρ1, d, ρ', .of g1 n1, e, fun v H2 I2 A F2 g2 s2 n2 r => k v H2 I2 A F2 (g1.then g2) (fun z => by
      rw [Bool.and_eq_true, Bool.and_eq_true] at z
      exact (s1 z.1).trans (s2 z.2.1)) n2 r⟩
  · rename_i ρ1 em
    refine ⟨I, F, ρ, false, ρ1, f, em, fun H1 I1 F1 g1 s1 n1 => ?_⟩
    refine iteF ?_
    exact ⟨I1, F1, ρ1, d, ρ', .of g1 n1, e, fun v H2 I2 A F2 g2 s2 n2 r => k v H2 I2 A F2 (g1.then g2) (fun z => by
      rw [Bool.and_eq_true, Bool.and_eq_true] at z
      exact (s1 z.1).trans (s2 z.2.2)) n2 r⟩
  · cases e
/-! ### chains -/
theorem chain_of {G : Cg} {r r' : R2} {o1 o2 : D → D → Option D} {σ : L2.St} {H : Hp} {Q : VK} (hv : V2 G r o1) (hv' : V2 G r' o2) (hp : (p1 || q2) = true) (hp2 : p2 = true) (hm : Plain ma) (hn : Plain mb)
    (h : tE G (q1 && (q2 && q3)) (eChain o1 o2 ma mb mc) σ H Q) : tChain r r' (tA G p1 q1 ma) (tA G p2 q2 mb) (tA G p3 q3 mc) σ H Q := by
  obtain ⟨I, F, ρ, d, ρ', f, e, k⟩ := h
  unfold eChain at e
  split at e
  · rename_i x ρ1 em
    split at e
    · rename_i y ρ2 en
      refine ⟨I, F, ρ, x, ρ1, f, em, fun v1 H1 I1 F1 g1 s1 n1 sv1 pv1 => ?_⟩
      refine ⟨I1, F1, ρ1, y, ρ2, .of g1 n1, en, fun v2 H2 I2 F2 g2 s2 n2 sv2 pv2 => ?_⟩
      have sv1' : Sv G I2 H2 x v1 := by
        cases p1 with
        | true => exact Rp.sv g2.top ((pv1 rfl).stay g2.sub _ _ _ (by intro _ _ z; cases z)) (hm _ _ _ em)
        | false => exact sv1.stay g2.sub (s2 (by simpa using hp))
      split at e
      · rename_i eo
        refine hv I2 H2 x y v1 v2 (.bl true) _ g2.top sv1' sv2 eo fun v' H3 I3 A t1 t2 t3 n3 fr nd rp => ?_
        obtain ⟨rfl, rfl⟩ := rp_bl_eq rp
        refine ⟨true, rfl, ?_⟩
        refine iteT ?_
        have g3 : Go I1 H1 F1 I3 H3 F2 := g2.res n2.live t1 t2 t3 n3 fr nd
        have n3' := n2.stay t1 fun a o _ e => t3 a o e
        split at e
        · rename_i z ρ3 el
          split at e
          · rename_i d' eo2
            cases e
            refine ⟨I3, F2, ρ2, z, ρ', .of g3 n3', el, fun v3 H4 I4 F4 g4 s4 n4 sv3 _ => ?_⟩
            have sv2' : Sv G I4 H4 y v2 := Rp.sv g4.top (((pv2 hp2).up (H1 := H3) t1).up g4.sub) (hn _ _ _ en)
            refine hv' I4 H4 y z v2 v3 d Q g4.top sv2' sv3 eo2 fun v5 H5 I5 A5 u1 u2 u3 m5 fr5 nd5 rp5 => ?_
            exact k v5 H5 I5 A5 F4 (((g1.then g3).then g4).res n4.live u1 u2 u3 m5 fr5 nd5) (fun z => by
              simp only [Bool.and_eq_true] at z
              exact ((((s1 z.1).trans (s2 z.2.1)).trans t3).trans (s4 z.2.2)).trans u3) (n4.stay u1 fun a o _ e => u3 a o e) rp5
          · cases e
        · cases e
      · rename_i eo
        cases e
        refine hv I2 H2 x y v1 v2 (.bl false) _ g2.top sv1' sv2 eo fun v' H3 I3 A t1 t2 t3 n3 fr nd rp => ?_
        obtain ⟨rfl, rfl⟩ := rp_bl_eq rp
        refine ⟨false, rfl, ?_⟩
        refine iteF ?_
        have g3 : Go I1 H1 F1 I3 H3 F2 := g2.res n2.live t1 t2 t3 n3 fr nd
        exact k _ H3 I3 [] F2 (g1.then g3) (fun z => by
          simp only [Bool.and_eq_true] at z
          exact ((s1 z.1).trans (s2 z.2.1)).trans t3) (n2.stay t1 fun a o _ e => t3 a o e) (rp_bl _)
      · cases e
    · cases e
  · cases e
theorem de_chain {r r' : R2} {o1 o2 : D → D → Option D} (ho : OpR X (compareOp op) r) (ho' : OpR X (compareOp op') r') (hv : V2 (cgOf X cls) r o1) (hv' : V2 (cgOf X cls) r' o2) (ha : DA X cls a p1 q1 ma) (hb : DA X cls b true q2 mb) (hc : DA X cls c p3 q3 mc)
    (hp : (p1 || q2) = true := by rfl) (hm : lastMarks [op, op'] [b, c] = false := by with_unfolding_all rfl) : DE X cls (.Compare a [op, op'] [b, c] pos) (q1 && (q2 && q3)) (eChain o1 o2 ma mb mc) :=
  ⟨PE.imp (pe_chain ho ho' ha.pe hb.pe hc.pe hm) fun _ _ _ h => chain_of hv hv' hp rfl ha.pl hb.pl h⟩
theorem dt_chain {r r' : R2} {o1 o2 : D → D → Option D} (ho : OpR X (compareOp op) r) (ho' : OpR X (compareOp op') r') (hv : V2 (cgOf X cls) r o1) (hv' : V2 (cgOf X cls) r' o2) (ha : DA X cls a p1 q1 ma) (hb : DA X cls b true q2 mb) (hc : DA X cls c p3 q3 mc)
    (hp : (p1 || q2) = true := by rfl) (hm : lastMarks [op, op'] [b, c] = false := by with_unfolding_all rfl) : DT X cls (.Compare a [op, op'] [b, c] pos) (q1 && (q2 && q3)) (eChain o1 o2 ma mb mc) :=
  ⟨PT.imp (pt_chain ho ho' ha.pe hb.pe hc.pe hm) fun _ _ _ h => chain_of hv hv' hp rfl ha.pl hb.pl (tT_val h)⟩
end

/-! ### lists of expressions -/
abbrev Ms := Env → Option (List D × Env)
def eNil : Ms := fun ρ => some ([], ρ)
def eCons (m : M) (n : Ms) : Ms := fun ρ => match m ρ with
  | some (d, ρ1) => match n ρ1 with
    | some (ds, ρ2) => some (d :: ds, ρ2)
    | none => none
  | none => none
theorem eCons_some {m : M} {n : Ms} {ρ ρ' : Env} {l : List D} (h : eCons m n ρ = some (l, ρ')) : ∃ d ρ1 ds, l = d :: ds ∧ m ρ = some (d, ρ1) ∧ n ρ1 = some (ds, ρ') := by
  unfold eCons at h
  split at h
  · rename_i d ρ1 em
    split at h
    · rename_i ds ρ2 en
      cases h
      exact ⟨d, ρ1, ds, rfl, em, en⟩
    · cases h
  · cases h
/-- for displays: values with their marks -/
def tEs (G : Cg) (q : Bool) (m : Ms) : TA := fun σ H Q => ∃ I F ρ ds ρ', Fit G I H ρ σ F ∧ m ρ = some (ds, ρ') ∧
  ∀ vs H' I' A F', Go I H F I' H' (A ++ F') → (q = true → Same H H') → EnvR G I' H' ρ' σ F' → RpL G I' H' ds vs A → Q vs H'
def SvL (G : Cg) (I H : Hp) : List D → List V → Prop
  | [], vs => vs = []
  | d :: ds, vs => ∃ v r, vs = v :: r ∧ Sv G I H d v ∧ SvL G I H ds r
/-- for operations: values to look at -/
def tAs (G : Cg) (p q : Bool) (m : Ms) : TA := fun σ H Q => ∃ I F ρ ds ρ', Fit G I H ρ σ F ∧ m ρ = some (ds, ρ') ∧
  ∀ vs H' I' F', Go I H F I' H' F' → (q = true → Same H H') → EnvR G I' H' ρ' σ F' → SvL G I' H' ds vs → (p = true → RpL G I' H' ds vs []) → Q vs H'
structure DEs (X : Cx) (cls : Nat → Addr) (es : List Expr) (q : Bool) (m : Ms) : Prop where
  pa : PA X es (tEs (cgOf X cls) q m)
structure DAs (X : Cx) (cls : Nat → Addr) (es : List Expr) (p q : Bool) (m : Ms) : Prop where
  pa : PA X es (tAs (cgOf X cls) p q m)
  pl : ∀ ρ ds ρ', m ρ = some (ds, ρ') → frzL ds = ds
section
variable {X : Cx} {cls : Nat → Addr} {e : Expr} {es : List Expr} {m : M} {n : Ms} {p p1 p2 q q1 q2 : Bool} {pos : Pos}
theorem SvL.stay {G : Cg} {I I' H H' : Hp} (s : Same I I') (t : Same H H') : ∀ {ds : List D} {vs : List V}, SvL G I H ds vs → SvL G I' H' ds vs
  | [], _, h => h
  | d :: ds, _, ⟨v, r, e, q, h⟩ => ⟨v, r, e, q.stay s t, SvL.stay s t h⟩
theorem des_nil : DEs X cls [] true eNil := by
  refine ⟨PA.imp pa_nil fun σ H Q ⟨I, F, ρ, ds, ρ', f, e, k⟩ => ?_⟩
  cases e
  exact k [] H I [] F f.go (fun _ => Same.refl _) f.env ⟨rfl, rfl⟩
theorem des_cons (h1 : DE X cls e q1 m) (h2 : DEs X cls es q2 n) (hs : starEach (e :: es) X.env = (false, eval e X.env) :: starEach es X.env := by rfl) : DEs X cls (e :: es) (q1 && q2) (eCons m n) := by
  refine ⟨PA.imp (pa_cons h1.pe h2.pa hs) fun σ H Q ⟨I, F, ρ, l, ρ', f, e, k⟩ => ?_⟩
  obtain ⟨d, ρ1, ds, rfl, em, en⟩ := eCons_some e
  refine ⟨I, F, ρ, d, ρ1, f, em, fun v H1 I1 A1 F1 g1 s1 n1 r1 => ?_⟩
  refine ⟨I1, F1, ρ1, ds, ρ', .of g1.tail n1, en, fun vs H2 I2 A2 F2 g2 s2 n2 r2 => ?_⟩
  have g := g1.trans g2 (r1.live)
  rw [← List.append_assoc] at g
  refine k (v :: vs) H2 I2 (A1 ++ A2) F2 g (fun z => by
    rw [Bool.and_eq_true] at z
    exact (s1 z.1).trans (s2 z.2)) n2 ⟨v, vs, A1, A2, rfl, rfl, ?_, r2⟩
  exact g2.stays r1 fun a m1 m2 => (List.nodup_append.mp g1.nd).2.2 a m1 a m2 rfl
theorem das_nil : DAs X cls [] true true eNil := by
  refine ⟨PA.imp pa_nil fun σ H Q ⟨I, F, ρ, ds, ρ', f, e, k⟩ => ?_, fun ρ ds ρ' e => ?_⟩
  · cases e
    exact k [] H I F f.go (fun _ => Same.refl _) f.env rfl fun _ => ⟨rfl, rfl⟩
  · cases e; rfl
theorem das_cons (h1 : DA X cls e p1 q1 m) (h2 : DAs X cls es p2 q2 n) (hp : (p1 || q2) = true := by rfl) (hs : starEach (e :: es) X.env = (false, eval e X.env) :: starEach es X.env := by rfl) : DAs X cls (e :: es) (p1 && p2) (q1 && q2) (eCons m n) := by
  refine ⟨PA.imp (pa_cons h1.pe h2.pa hs) fun σ H Q ⟨I, F, ρ, l, ρ', f, e, k⟩ => ?_, fun ρ l ρ' e => ?_⟩
  · obtain ⟨d, ρ1, ds, rfl, em, en⟩ := eCons_some e
    refine ⟨I, F, ρ, d, ρ1, f, em, fun v H1 I1 F1 g1 s1 n1 sv1 pv1 => ?_⟩
    refine ⟨I1, F1, ρ1, ds, ρ', .of g1 n1, en, fun vs H2 I2 F2 g2 s2 n2 sv2 pv2 => ?_⟩
    have sv1' : Sv (cgOf X cls) I2 H2 d v := by
      cases p1 with
      | true => exact Rp.sv g2.top ((pv1 rfl).stay g2.sub _ _ _ (by intro _ _ z; cases z)) (h1.pl _ _ _ em)
      | false => exact sv1.stay g2.sub (s2 (by simpa using hp))
    refine k (v :: vs) H2 I2 F2 (g1.then g2) (fun z => by
      rw [Bool.and_eq_true] at z
      exact (s1 z.1).trans (s2 z.2)) n2 ⟨v, vs, rfl, sv1', sv2⟩ fun z => ?_
    rw [Bool.and_eq_true] at z
    exact .cons0 ((pv1 z.1).stay g2.sub _ _ _ (by intro _ _ z; cases z)) (pv2 z.2)
  · obtain ⟨d, ρ1, ds, rfl, em, en⟩ := eCons_some e
    simp only [frzL, h1.pl _ _ _ em, h2.pl _ _ _ en]
/-! ### displays -/
def eLst (n : Ms) : M := fun ρ => match n ρ with
  | some (ds, ρ') => if ds.length ≤ sizeLine then some (.lst true ds, ρ') else none
  | none => none
def eTup (n : Ms) : M := fun ρ => match n ρ with
  | some (ds, ρ') => if ds.length ≤ sizeLine then some (.tup ds, ρ') else none
  | none => none
theorem Go.alloc {I H I1 H1 : Hp} {F F1 : List Addr} (g : Go I H F I1 H1 F1) (lv : ∀ a ∈ F1, ∃ o, H1 a = some o) {p : Addr} {o : HO} (hp : H1 p = none) : Go I H F I1 (upd H1 p o) (p :: F1) :=
  g.res (A := [p]) lv (Same.refl _) (g.top.trans (same_new hp)) (same_new hp) (fun _ _ z => .inl z) (fun a m => by
    have e : a = p := by simpa using m
    subst e
    exact ⟨hp, g.top.free hp⟩) (by simp)
theorem Go.allocF {I H I1 H1 : Hp} {F F1 : List Addr} (g : Go I H F I1 H1 F1) (lv : ∀ a ∈ F1, ∃ o, H1 a = some o) {p : Addr} {o : HO} (hp : H1 p = none) : Go I H F (upd I1 p o) (upd H1 p o) F1 :=
  g.res (A := []) lv (same_new (g.top.free hp)) (fun b u e => by
    by_cases q : b = p
    · subst q; rw [upd_same] at e ⊢; exact e
    · rw [upd_ne q] at e ⊢; exact g.top b u e) (same_new hp) (fun a u z => by
    by_cases q : a = p
    · subst q; exact .inr hp
    · rw [upd_ne q] at z; exact .inl z) (fun _ z => nomatch z) List.nodup_nil
theorem all_live {G : Cg} {I H : Hp} {ds : List D} {vs : List V} {A F : List Addr} {ρ : Env} {σ : L2.St} (r : RpL G I H ds vs A) (n : EnvR G I H ρ σ F) : ∀ a ∈ A ++ F, ∃ o, H a = some o := fun a m => by
  rcases List.mem_append.mp m with m | m
  · exact r.live _ _ _ a m
  · exact n.live a m
theorem de_lst (h : DEs X cls es q n) : DE X cls (.List es pos) q (eLst n) := by
  refine ⟨PE.imp (pe_lst h.pa) fun σ H Q ⟨I, F, ρ, d, ρ', f, e, k⟩ => ?_⟩
  unfold eLst at e
  split at e
  · rename_i ds ρ1 en
    split at e
    · rename_i hz
      cases e
      refine ⟨I, F, ρ, ds, ρ', f, en, fun vs H1 I1 A F1 g s n1 r => ⟨by rw [← r.length]; exact hz, fun p hp => ?_⟩⟩
      refine k _ _ I1 (p :: A) F1 (g.alloc (all_live r n1) hp) (fun z => (s z).trans (same_new hp)) (n1.stay (Same.refl _) fun a o _ e => same_new hp a o e) ⟨p, vs, A, rfl, rfl, upd_same, r.stay (Same.refl _) _ _ _ fun a o _ e => same_new hp a o e⟩
    · cases e
  · cases e
theorem de_tup {x1 : Nat} (h : DEs X cls es q n) : DE X cls (.Tuple es x1 pos) q (eTup n) := by
  refine ⟨PE.imp (pe_tup h.pa) fun σ H Q ⟨I, F, ρ, d, ρ', f, e, k⟩ => ?_⟩
  unfold eTup at e
  split at e
  · rename_i ds ρ1 en
    split at e
    · rename_i hz
      cases e
      refine ⟨I, F, ρ, ds, ρ', f, en, fun vs H1 I1 A F1 g s n1 r => ⟨by rw [← r.length]; exact hz, fun p hp => ?_⟩⟩
      have g2 := g.allocF (o := .tup vs) (all_live r n1) hp
      refine k _ _ _ A F1 g2 (fun z => (s z).trans (same_new hp)) (n1.stay (same_new (g.top.free hp)) fun a o _ e => same_new hp a o e) ⟨p, vs, rfl, SqT.of upd_same, r.stay (same_new (g.top.free hp)) _ _ _ fun a o _ e => same_new hp a o e⟩
    · cases e
  · cases e
/-! ### built-in functions -/
def VN (G : Cg) (r : List V → Hp → VK → Prop) (o : List D → Option D) : Prop := ∀ I H ds vs e Q, Same I H → SvL G I H ds vs → o ds = some e → Res G I H e Q → r vs H Q
def eOpN (o : List D → Option D) (n : Ms) : M := fun ρ => match n ρ with
  | some (ds, ρ') => match o ds with
    | some e => some (e, ρ')
    | none => none
  | none => none
theorem cb_of {G : Cg} {r : List V → Hp → VK → Prop} {o : List D → Option D} {σ : L2.St} {H : Hp} {Q : VK} (hv : VN G r o) (h : tE G q (eOpN o n) σ H Q) : tCB r (tAs G p q n) σ H Q := by
  obtain ⟨I, F, ρ, d, ρ', f, e, k⟩ := h
  unfold eOpN at e
  split at e
  · rename_i ds ρ1 en
    split at e
    · rename_i d1 eo
      cases e
      refine ⟨I, F, ρ, ds, ρ', f, en, fun vs H1 I1 F1 g s n1 sv _ => ?_⟩
      refine hv I1 H1 ds vs d Q g.top sv eo fun v' H2 I2 A s1 s2 s3 m1 fr nd rp => ?_
      exact k v' H2 I2 A F1 (g.res n1.live s1 s2 s3 m1 fr nd) (fun z => (s z).trans s3) (n1.stay s1 fun a o _ e => s3 a o e) rp
    · cases e
  · cases e
theorem de_callB {x : Str} {p' : Pos} {id : String} {r : List V → Hp → VK → Prop} {o : List D → Option D} (hc : CallR X (.builtin id) r) (hv : VN (cgOf X cls) r o) (hg : Gl X x) (hm : X.mg x = none) (hb : bootBuiltins x = some (.builtin id)) (ha : DAs X cls (e :: es) p q n)
    (hn : x ≠ "__name__" := by decide) (hdb : (x == ("__debug__" : Str)) = false := by decide) (he : starEach (e :: es) X.env = (false, eval e X.env) :: starEach es X.env := by rfl) (hpl : (backTo pos (starEach es X.env)).any (·.1) = false := by rfl) :
    DE X cls (.Call (.Name x p') (e :: es) [] pos) q (eOpN o n) := ⟨PE.imp (pe_callB hc hg hm hb ha.pa hn hdb he hpl) fun _ _ _ h => cb_of hv h⟩
theorem de_callTy {x : Str} {p' : Pos} {T : String} {r : List V → Hp → VK → Prop} {o : List D → Option D} (hc : CallR X (.type T) r) (hv : VN (cgOf X cls) r o) (hg : Gl X x) (hm : X.mg x = none) (hb : bootBuiltins x = some (.type T)) (ha : DAs X cls (e :: es) p q n)
    (hn : x ≠ "__name__" := by decide) (hdb : (x == ("__debug__" : Str)) = false := by decide) (he : starEach (e :: es) X.env = (false, eval e X.env) :: starEach es X.env := by rfl) (hpl : (backTo pos (starEach es X.env)).any (·.1) = false := by rfl) :
    DE X cls (.Call (.Name x p') (e :: es) [] pos) q (eOpN o n) := ⟨PE.imp (pe_callTy hc hg hm hb ha.pa hn hdb he hpl) fun _ _ _ h => cb_of hv h⟩
end
end Ev

/-! Ev6: targets, statements, loops. -/
namespace Ev
open PySem PySem.Spec PyProof.Rows L2

inductive Out where
  | nx
  | rt (d : D)
  | bk
  | ct
abbrev Mst := Env → Option (Out × Env)
/-- the names that are lent to the def keep their values -/
def IoS (ios : List Nat) (σ σ' : L2.St) : Prop := ∀ i ∈ ios, σ'[i]? = σ[i]?
theorem IoS.refl {ios : List Nat} {σ : L2.St} : IoS ios σ σ := fun _ _ => rfl
theorem IoS.trans {ios : List Nat} {σ σ1 σ2 : L2.St} (a : IoS ios σ σ1) (b : IoS ios σ1 σ2) : IoS ios σ σ2 := fun i m => (b i m).trans (a i m)
/-- what is wanted behind a statement that ends so -/
def Aft (G : Cg) (ios : List Nat) (I H : Hp) (F : List Addr) (σ : L2.St) (ρ' : Env) (E : Ends) : Out → Prop
  | .nx => ∀ σ' H' I' F', Go I H F I' H' F' → EnvR G I' H' ρ' σ' F' → IoS ios σ σ' → E.nx σ' H'
  | .bk => ∀ σ' H' I' F', Go I H F I' H' F' → EnvR G I' H' ρ' σ' F' → IoS ios σ σ' → E.bk σ' H'
  | .ct => ∀ σ' H' I' F', Go I H F I' H' F' → EnvR G I' H' ρ' σ' F' → IoS ios σ σ' → E.ct σ' H'
  | .rt d => ∀ v σ' H' I' A F', Go I H F I' H' (A ++ F') → EnvR G I' H' ρ' σ' F' → Rp G I' H' d v A → IoS ios σ σ' → E.rt v H'
def tS (G : Cg) (ios : List Nat) (m : Mst) : TS := fun E σ H => ∃ I F ρ o ρ', Fit G I H ρ σ F ∧ m ρ = some (o, ρ') ∧ Aft G ios I H F σ ρ' E o
structure DS (X : Cx) (cls : Nat → Addr) (ios : List Nat) (st : Stmt) (m : Mst) : Prop where
  ps : PS X st (tS (cgOf X cls) ios m)
structure DSs (X : Cx) (cls : Nat → Addr) (ios : List Nat) (st : List Stmt) (m : Mst) : Prop where
  pss : PSs X st (tS (cgOf X cls) ios m)
theorem Aft.step {G : Cg} {ios : List Nat} {I H I1 H1 : Hp} {F F1 : List Addr} {σ σ1 : L2.St} {ρ' : Env} {E : Ends} {o : Out} (h : Aft G ios I H F σ ρ' E o) (g : Go I H F I1 H1 F1) (s : IoS ios σ σ1) : Aft G ios I1 H1 F1 σ1 ρ' E o := by
  cases o with
  | nx => exact fun σ' H' I' F' g' n s' => h σ' H' I' F' (g.then g') n (s.trans s')
  | bk => exact fun σ' H' I' F' g' n s' => h σ' H' I' F' (g.then g') n (s.trans s')
  | ct => exact fun σ' H' I' F' g' n s' => h σ' H' I' F' (g.then g') n (s.trans s')
  | rt d => exact fun v σ' H' I' A F' g' n r s' => h v σ' H' I' A F' (g.then g') n r (s.trans s')

/-! ### blocks -/
def sNil : Mst := fun ρ => some (.nx, ρ)
def sSeq (m n : Mst) : Mst := fun ρ => match m ρ with
  | some (.nx, ρ') => n ρ'
  | r => r
section
variable {X : Cx} {cls : Nat → Addr} {ios : List Nat} {st : Stmt} {rest : List Stmt} {ms ns : Mst} {e a b c : Expr} {m ma mb : M} {q q1 q2 p p1 p2 : Bool} {pos : Pos}
theorem dss_nil : DSs X cls ios [] sNil := by
  refine ⟨PSs.imp pss_nil fun E σ H ⟨I, F, ρ, o, ρ', f, e, k⟩ => ?_⟩
  cases e
  exact k σ H I F f.go f.env .refl
theorem dss_cons (h1 : DS X cls ios st ms) (h2 : DSs X cls ios rest ns) : DSs X cls ios (st :: rest) (sSeq ms ns) := by
  refine ⟨PSs.imp (pss_cons h1.ps h2.pss) fun E σ H ⟨I, F, ρ, o, ρ', f, e, k⟩ => ?_⟩
  unfold sSeq at e
  split at e
  · rename_i ρ1 em
    exact ⟨I, F, ρ, .nx, ρ1, f, em, fun σ1 H1 I1 F1 g n s => ⟨I1, F1, ρ1, o, ρ', .of g n, e, k.step g s⟩⟩
  · rename_i r hne
    cases o with
    | nx => exact absurd e (fun z => hne ρ' z)
    | rt d => exact ⟨I, F, ρ, .rt d, ρ', f, e, k⟩
    | bk => exact ⟨I, F, ρ, .bk, ρ', f, e, k⟩
    | ct => exact ⟨I, F, ρ, .ct, ρ', f, e, k⟩
theorem dss_one (h : DS X cls ios st ms) : DSs X cls ios [st] ms := ⟨pss_one h.ps⟩
def sBrk : Mst := fun ρ => some (.bk, ρ)
def sCnt : Mst := fun ρ => some (.ct, ρ)
theorem ds_break : DS X cls ios (.Break pos) sBrk := by
  refine ⟨PS.imp ps_break fun E σ H ⟨I, F, ρ, o, ρ', f, e, k⟩ => ?_⟩
  cases e
  exact k σ H I F f.go f.env .refl
theorem ds_continue : DS X cls ios (.Continue pos) sCnt := by
  refine ⟨PS.imp ps_continue fun E σ H ⟨I, F, ρ, o, ρ', f, e, k⟩ => ?_⟩
  cases e
  exact k σ H I F f.go f.env .refl
theorem ds_pass : DS X cls ios (.Pass pos) sNil := by
  refine ⟨PS.imp ps_pass fun E σ H ⟨I, F, ρ, o, ρ', f, e, k⟩ => ?_⟩
  cases e
  exact k σ H I F f.go f.env .refl
/-- a raise (or anything) that is never reached -/
def sNo : Mst := fun _ => none
theorem ds_never : DS X cls ios st sNo := by
  refine ⟨PS.imp ps_never fun E σ H ⟨I, F, ρ, o, ρ', f, e, k⟩ => ?_⟩
  cases e
def sExpr (m : M) : Mst := fun ρ => match m ρ with
  | some (_, ρ') => some (.nx, ρ')
  | none => none
theorem ds_expr (h : DE X cls e q m) (hs : swapsWith e none pos.line X.env = pure false := by rfl) : DS X cls ios (.Expr e pos) (sExpr m) := by
  refine ⟨PS.imp (ps_expr h.pe hs) fun E σ H ⟨I, F, ρ, o, ρ', f, e, k⟩ => ?_⟩
  unfold sExpr at e
  split at e
  · rename_i d ρ1 em
    cases e
    exact ⟨I, F, ρ, d, ρ', f, em, fun v H' I' A F' g s n r => k σ H' I' F' g.tail n .refl⟩
  · cases e
def sRet (m : M) : Mst := fun ρ => match m ρ with
  | some (d, ρ') => some (.rt d, ρ')
  | none => none
theorem ds_ret (h : DE X cls e q m) : DS X cls ios (.Return (some e) pos) (sRet m) := by
  refine ⟨PS.imp (ps_ret h.pe) fun E σ H ⟨I, F, ρ, o, ρ', f, e, k⟩ => ?_⟩
  unfold sRet at e
  split at e
  · rename_i d ρ1 em
    cases e
    exact ⟨I, F, ρ, d, ρ', f, em, fun v H' I' A F' g s n r => k v σ H' I' A F' g n r .refl⟩
  · cases e
def sIf (c : M) (m n : Mst) : Mst := fun ρ => match c ρ with
  | some (.bl true, ρ') => m ρ'
  | some (.bl false, ρ') => n ρ'
  | _ => none
theorem ds_if {sa sb : List Stmt} (hc : DT X cls c q m) (ha : DSs X cls ios sa ms) (hb : DSs X cls ios sb ns) : DS X cls ios (.If c sa sb pos) (sIf m ms ns) := by
  refine ⟨PS.imp (ps_if hc.pt ha.pss hb.pss) fun E σ H ⟨I, F, ρ, o, ρ', f, e, k⟩ => ?_⟩
  unfold sIf at e
  split at e
  · rename_i ρ1 em
    refine ⟨I, F, ρ, true, ρ1, f, em, fun H1 I1 F1 g s n => ?_⟩
    refine iteT ?_
    exact ⟨I1, F1, ρ1, o, ρ', .of g n, e, k.step g .refl⟩
  · rename_i ρ1 em
    refine ⟨I, F, ρ, false, ρ1, f, em, fun H1 I1 F1 g s n => ?_⟩
    refine iteF ?_
    exact ⟨I1, F1, ρ1, o, ρ', .of g n, e, k.step g .refl⟩
  · cases e
end

/-! ### targets -/
section
variable {G : Cg} {I H : Hp} {ρ : Env} {σ : L2.St} {F : List Addr} {i : Nat}
theorem EnvR.put (h : EnvR G I H ρ σ F) (hi : i < ρ.length) : ∃ L B R, F = L ++ (B ++ R) ∧ ∀ {I' H' : Hp} (d : D) (v : V) (A : List Addr), Same I I' → (∀ a o, a ∈ F → H a = some o → H' a = some o) → Rp G I' H' d v A → EnvR G I' H' (ρ.set i (some d)) (σ.set i (some v)) (L ++ (A ++ R)) := by
  cases q : ρ[i]? with
  | none => rw [List.getElem?_eq_none_iff] at q; omega
  | some c =>
    cases c with
    | some c =>
      obtain ⟨v, L, B, R, hs, rfl, hr, put⟩ := h.at q
      exact ⟨L, B, R, rfl, fun d v A s k r => put (some d) (some v) A s (fun a o m => k a o (List.mem_append_left _ m)) (fun a o m => k a o (List.mem_append_right _ (List.mem_append_right _ m))) ⟨v, rfl, r⟩⟩
    | none =>
      obtain ⟨⟨s, hs⟩, L, R, rfl, put⟩ := h.free q
      exact ⟨L, [], R, by simp, fun d v A s k r => put (some d) (some v) A s k ⟨v, rfl, r⟩⟩
end
/-- a value in hand beside the names -/
structure Hnd (G : Cg) (I H : Hp) (ρ : Env) (σ : L2.St) (A F : List Addr) : Prop where
  env : EnvR G I H ρ σ F
  top : Same I H
  nd : (A ++ F).Nodup
  off : ∀ a ∈ A ++ F, I a = none
abbrev Mg := D → Env → Option Env
def tG (G : Cg) (ios : List Nat) (g : Mg) : TG := fun v σ H Q => ∃ I F A ρ d ρ', Hnd G I H ρ σ A F ∧ Rp G I H d v A ∧ g d ρ = some ρ' ∧
  ∀ σ' F', EnvR G I H ρ' σ' F' → (∀ a ∈ F', a ∈ A ++ F) → F'.Nodup → IoS ios σ σ' → Q σ' H
abbrev Mgs := List D → Env → Option Env
def tGs (G : Cg) (ios : List Nat) (g : Mgs) : TGs := fun vs σ H Q => ∃ I F A ρ ds ρ', Hnd G I H ρ σ A F ∧ RpL G I H ds vs A ∧ g ds ρ = some ρ' ∧
  ∀ σ' F', EnvR G I H ρ' σ' F' → (∀ a ∈ F', a ∈ A ++ F) → F'.Nodup → IoS ios σ σ' → Q σ' H
structure DG (X : Cx) (cls : Nat → Addr) (ios : List Nat) (t : Expr) (g : Mg) : Prop where
  pg : PG X t (tG (cgOf X cls) ios g)
structure DGs (X : Cx) (cls : Nat → Addr) (ios : List Nat) (t : List Expr) (g : Mgs) : Prop where
  pgs : PGs X t (tGs (cgOf X cls) ios g)
theorem PG.imp {X : Cx} {e : Expr} {t t' : TG} (h : PG X e t) (k : ∀ v σ H Q, t' v σ H Q → t v σ H Q) : PG X e t' := ⟨fun pins s σ H v u Q I r q => h.run pins s σ H v u Q I r (k v σ H Q q)⟩
theorem PGs.imp {X : Cx} {e : List Expr} {t t' : TGs} (h : PGs X e t) (k : ∀ v σ H Q, t' v σ H Q → t v σ H Q) : PGs X e t' := ⟨fun pins s σ H v u Q I r q => h.run pins s σ H v u Q I r (k v σ H Q q)⟩
def gNm (i : Nat) : Mg := fun d ρ => if i < ρ.length then some (ρ.set i (some d)) else none
def gsNil : Mgs := fun ds ρ => match ds with
  | [] => some ρ
  | _ => none
def gsCons (g : Mg) (h : Mgs) : Mgs := fun ds ρ => match ds with
  | d :: r => match g d ρ with
    | some ρ' => h r ρ'
    | none => none
  | [] => none
/-- a tuple is taken apart -/
def gTp (n : Nat) (h : Mgs) : Mg := fun d ρ => match d with
  | .tup ds => if ds.length = n then h ds ρ else none
  | _ => none
section
variable {X : Cx} {cls : Nat → Addr} {ios : List Nat} {t : Expr} {ts : List Expr} {g : Mg} {gs : Mgs} {i : Nat} {x : Str} {pos : Pos}
/-- a name that is stored -/
structure Nw (X : Cx) (i : Nat) (x : Str) : Prop where
  hN : X.N.Nodup
  hi : X.N[i]? = some x
  hx : Loc X.env.scope x
  hf : X.fn x = true ∨ X.env.scope.names.lookup x = some .local
theorem put_ok {G : Cg} {I H : Hp} {ρ : Env} {σ : L2.St} {A F : List Addr} {d : D} {v : V} (f : Hnd G I H ρ σ A F) (r : Rp G I H d v A) (hi : i < ρ.length) :
    ∃ F', EnvR G I H (ρ.set i (some d)) (σ.set i (some v)) F' ∧ (∀ a ∈ F', a ∈ A ++ F) ∧ F'.Nodup := by
  obtain ⟨L, B, R, rfl, put⟩ := f.env.put hi
  refine ⟨L ++ (A ++ R), put d v A (Same.refl _) (fun _ _ _ e => e) r, fun a m => ?_, ?_⟩
  · simp only [List.mem_append] at m ⊢
    rcases m with m | m | m
    · exact .inr (.inl m)
    · exact .inl m
    · exact .inr (.inr (.inr m))
  · have h := List.nodup_append.mp f.nd
    have h2 := (nodup_mid h.2.1).1
    have h3 := List.nodup_append.mp h2
    refine List.nodup_append.mpr ⟨h3.1, List.nodup_append.mpr ⟨h.1, h3.2.1, fun a m b m' e => h.2.2 a m b (by simp only [List.mem_append]; exact .inr (.inr m')) e⟩, fun a m b m' e => ?_⟩
    rcases List.mem_append.mp m' with z | z
    · exact h.2.2 b z a (by simp only [List.mem_append]; exact .inl m) e.symm
    · exact h3.2.2 a m b z e
theorem dg_name (h : Nw X i x) (hio : i ∉ ios) : DG X cls ios (.Name x pos) (gNm i) := by
  refine ⟨PG.imp (pg_name (pos := pos) h.hN h.hi h.hx h.hf) fun v σ H Q ⟨I, F, A, ρ, d, ρ', f, r, e, k⟩ => ?_⟩
  unfold gNm at e
  split at e
  · rename_i hl
    cases e
    obtain ⟨F', n, s, nd⟩ := put_ok f r hl
    exact k _ F' n s nd fun j m => List.getElem?_set_ne (fun z : i = j => hio (by rw [z]; exact m))
  · cases e
theorem dgs_nil : DGs X cls ios [] gsNil := by
  refine ⟨PGs.imp pgs_nil fun vs σ H Q ⟨I, F, A, ρ, ds, ρ', f, r, e, k⟩ => ?_⟩
  unfold gsNil at e
  split at e
  · cases e
    exact ⟨r.1, k σ F f.env (fun a m => List.mem_append_right _ m) (List.nodup_append.mp f.nd).2.1 .refl⟩
  · cases e
theorem dgs_cons (h1 : DG X cls ios t g) (h2 : DGs X cls ios ts gs) (hs : (assignEach (t :: ts) X.env).map (·.2) = assign t X.env :: (assignEach ts X.env).map (·.2) := by rfl) : DGs X cls ios (t :: ts) (gsCons g gs) := by
  refine ⟨PGs.imp (pgs_cons h1.pg h2.pgs hs) fun vs σ H Q ⟨I, F, A, ρ, ds, ρ', f, r, e, k⟩ => ?_⟩
  unfold gsCons at e
  split at e
  · rename_i d dr
    split at e
    · rename_i ρ1 eg
      obtain ⟨v, vr, B, C, rfl, rfl, r1, r2⟩ := r
      have h1 := List.nodup_append.mp f.nd
      have h2 := List.nodup_append.mp h1.1
      refine ⟨v, vr, rfl, I, F, B, ρ, d, ρ1, ⟨f.env, f.top, List.nodup_append.mpr ⟨h2.1, h1.2.1, fun a m b m' => h1.2.2 a (List.mem_append_left _ m) b m'⟩, fun a m => f.off a ?_⟩, r1, eg, fun σ1 F1 n1 s1 nd1 i1 => ?_⟩
      · rcases List.mem_append.mp m with m | m
        · exact List.mem_append_left _ (List.mem_append_left _ m)
        · exact List.mem_append_right _ m
      · refine ⟨I, F1, C, ρ1, dr, ρ', ⟨n1, f.top, List.nodup_append.mpr ⟨h2.2.1, nd1, fun a m b m' z => ?_⟩, fun a m => f.off a ?_⟩, r2, e, fun σ2 F2 n2 s2 nd2 i2 => k σ2 F2 n2 (fun a m => ?_) nd2 (i1.trans i2)⟩
        · subst z
          rcases List.mem_append.mp (s1 a m') with z | z
          · exact h2.2.2 a z a m rfl
          · exact h1.2.2 a (List.mem_append_right _ m) a z rfl
        · rcases List.mem_append.mp m with m | m
          · exact List.mem_append_left _ (List.mem_append_right _ m)
          · rcases List.mem_append.mp (s1 a m) with m | m
            · exact List.mem_append_left _ (List.mem_append_left _ m)
            · exact List.mem_append_right _ m
        · rcases List.mem_append.mp (s2 a m) with m | m
          · exact List.mem_append_left _ (List.mem_append_right _ m)
          · rcases List.mem_append.mp (s1 a m) with m | m
            · exact List.mem_append_left _ (List.mem_append_left _ m)
            · exact List.mem_append_right _ m
    · cases e
  · cases e
theorem dg_tup {es : List Expr} {kk n : Nat} (hc : X.calm = true) (h : DGs X cls ios es gs) (hn : (assignEach es X.env).length = n := by rfl) (hst : (assignEach es X.env).findIdx? (·.1) = none := by rfl) : DG X cls ios (.Tuple es kk pos) (gTp n gs) := by
  refine ⟨PG.imp (pg_tup (n := n) (pos := pos) (k := kk) hc h.pgs hn hst) fun v σ H Q ⟨I, F, A, ρ, d, ρ', f, r, e, k⟩ => ?_⟩
  unfold gTp at e
  split at e
  · rename_i ds
    split at e
    · rename_i hl
      simp only [Rp] at r
      obtain ⟨a, vs, rfl, q, r⟩ := r
      exact ⟨a, vs, rfl, SqT.sub q f.top, by rw [← r.length]; exact hl, I, F, A, ρ, ds, ρ', f, r, e, k⟩
    · cases e
  · cases e
/-! ### assignments -/
def sAsg (m : M) (g : Mg) : Mst := fun ρ => match m ρ with
  | some (d, ρ1) => match g d ρ1 with
    | some ρ2 => some (.nx, ρ2)
    | none => none
  | none => none
theorem asg_of {G : Cg} {m : M} {q : Bool} {σ : L2.St} {H : Hp} {E : Ends} (h : tS G ios (sAsg m g) E σ H) : tAsg (tE G q m) (tG G ios g) E σ H := by
  obtain ⟨I, F, ρ, o, ρ', f, e, k⟩ := h
  unfold sAsg at e
  split at e
  · rename_i d ρ1 em
    split at e
    · rename_i ρ2 eg
      cases e
      refine ⟨I, F, ρ, d, ρ1, f, em, fun v H1 I1 A F1 g1 s n r => ⟨I1, F1, A, ρ1, d, ρ', ⟨n, g1.top, g1.nd, g1.off⟩, r, eg, fun σ' F' n' s' nd' i' => ?_⟩⟩
      exact k σ' H1 I1 F' (g1.weak s' nd') n' i'
    · cases e
  · cases e
theorem ds_set {e : Expr} {m : M} {q : Bool} {pos' : Pos} (h : Nw X i x) (hio : i ∉ ios) (he : DE X cls e q m) (hs : swapsWith e (some (.Name x pos')) pos.line X.env = pure false := by rfl) : DS X cls ios (.Assign [.Name x pos'] e pos) (sAsg m (gNm i)) := by
  refine ⟨PS.imp (ps_set (pos := pos) (pos' := pos') h.hN h.hi h.hx he.pe hs h.hf) fun E σ H q => ?_⟩
  obtain ⟨I, F, ρ, o, ρ', f, e, k⟩ := q
  unfold sAsg at e
  split at e
  · rename_i d ρ1 em
    split at e
    · rename_i ρ2 eg
      cases e
      refine ⟨I, F, ρ, d, ρ1, f, em, fun v H1 I1 A F1 g1 s n r => ?_⟩
      unfold gNm at eg
      split at eg
      · rename_i hl
        cases eg
        obtain ⟨F', n', s', nd'⟩ := put_ok ⟨n, g1.top, g1.nd, g1.off⟩ r hl
        exact k _ H1 I1 F' (g1.weak s' nd') n' fun j m => List.getElem?_set_ne (fun z : i = j => hio (by rw [z]; exact m))
      · cases eg
    · cases e
  · cases e
theorem ds_asg {tg e : Expr} {m : M} {q : Bool} (hg : DG X cls ios tg g) (he : DE X cls e q m) (hs : swapsWithSole [tg] e pos.line X.env = pure false := by rfl) (hw : swappedStores [tg] e X.env = pure none := by rfl)
    (h1 : (assignEach [tg] X.env).map (·.2) = [assign tg X.env] := by rfl) : DS X cls ios (.Assign [tg] e pos) (sAsg m g) := ⟨PS.imp (ps_asg he.pe hg.pg hs hw h1) fun _ _ _ h => asg_of h⟩
/-- a, b = x, y: stored from the right, the pair is not made -/
def sPar (i j : Nat) (n : Ms) : Mst := fun ρ => match n ρ with
  | some ([d, e], ρ1) => if i < ρ1.length ∧ j < ρ1.length then some (.nx, (ρ1.set i (some d)).set j (some e)) else none
  | _ => none
theorem ds_par {j : Nat} {y : Str} {a b : Expr} {n : Ms} {q : Bool} {px py pt : Pos} {kt k2 pt2} (hc : X.calm = true) (hN : X.N.Nodup) (hi : X.N[i]? = some x) (hj : X.N[j]? = some y) (hij : i ≠ j) (hio : i ∉ ios) (hjo : j ∉ ios)
    (hx : X.env.scope.names.lookup x = some .local) (hy : X.env.scope.names.lookup y = some .local) (ha : DEs X cls [a, b] q n)
    (hw : swappedStores [.Tuple [.Name x px, .Name y py] kt pt] (.Tuple [a, b] k2 pt2) X.env = pure (some [x, y]) := by rfl)
    (hs : swapsWithSole [.Tuple [.Name x px, .Name y py] kt pt] (.Tuple [a, b] k2 pt2) pos.line X.env = pure false := by rfl) :
    DS X cls ios (.Assign [.Tuple [.Name x px, .Name y py] kt pt] (.Tuple [a, b] k2 pt2) pos) (sPar i j n) := by
  refine ⟨PS.imp (ps_par hc hN hi hj hij hx hy ha.pa hw hs) fun E σ H ⟨I, F, ρ, o, ρ', f, e, k⟩ => ?_⟩
  unfold sPar at e
  split at e
  · rename_i d1 d2 ρ1 em
    split at e
    · rename_i hl
      cases e
      refine ⟨I, F, ρ, [d1, d2], ρ1, f, em, fun vs H1 I1 A F1 g1 s n r => ?_⟩
      obtain ⟨v, r0, B, C0, rfl, rfl, r1, r2⟩ := r
      obtain ⟨w, r3, C, D0, rfl, rfl, r4, r5⟩ := r2
      obtain ⟨rfl, rfl⟩ := r5
      refine ⟨v, w, rfl, ?_⟩
      have nd := List.nodup_append.mp g1.nd
      rw [List.append_nil] at nd
      have nd2 := List.nodup_append.mp nd.1
      obtain ⟨F2, n2, s2, m2⟩ := put_ok (A := B) ⟨n, g1.top, List.nodup_append.mpr ⟨nd2.1, nd.2.1, fun a m b m' => nd.2.2 a (List.mem_append_left _ m) b m'⟩, fun a m => g1.off a (by simp only [List.mem_append] at m ⊢; rcases m with m | m; exact .inl (.inl m); exact .inr m)⟩ r1 hl.1
      obtain ⟨F3, n3, s3, m3⟩ := put_ok (A := C) (i := j) ⟨n2, g1.top, List.nodup_append.mpr ⟨nd2.2.1, m2, fun a m b m' z => by
        subst z
        rcases List.mem_append.mp (s2 a m') with z | z
        · exact nd2.2.2 a z a m rfl
        · exact nd.2.2 a (List.mem_append_right _ m) a z rfl⟩, fun a m => g1.off a (by
        simp only [List.mem_append] at m ⊢
        rcases m with m | m
        · exact .inl (.inr (.inl m))
        · rcases List.mem_append.mp (s2 a m) with z | z
          · exact .inl (.inl z)
          · exact .inr z)⟩ r4 (by rw [List.length_set]; exact hl.2)
      refine k _ H1 I1 F3 (g1.weak (fun a m => ?_) m3) n3 fun l m => ?_
      · simp only [List.mem_append]
        rcases List.mem_append.mp (s3 a m) with z | z
        · exact .inl (.inr (.inl z))
        · rcases List.mem_append.mp (s2 a z) with z | z
          · exact .inl (.inl z)
          · exact .inr z
      · rw [List.getElem?_set_ne (fun z : j = l => hjo (by rw [z]; exact m)), List.getElem?_set_ne (fun z : i = l => hio (by rw [z]; exact m))]
    · cases e
  · cases e
end
end Ev

/-! Ev7: what is walked; for, while. -/
namespace Ev
open PySem PySem.Spec PyProof.Rows L2

/-- behind (I, H) all is as it was, something new may stand beside -/
structure Mor (I H I' H' : Hp) : Prop where
  sub : Same I I'
  top : Same I' H'
  keep : Same H H'
  frz : ∀ a o, I' a = some o → I a = some o ∨ H a = none
theorem Mor.refl {I H : Hp} (t : Same I H) : Mor I H I H := ⟨Same.refl _, t, Same.refl _, fun _ _ h => .inl h⟩
theorem Mor.newT {I H : Hp} {p : Addr} {o : HO} (t : Same I H) (hp : H p = none) : Mor I H (upd I p o) (upd H p o) :=
  ⟨same_new (t.free hp), fun b u e => by
    by_cases q : b = p
    · subst q; rw [upd_same] at e ⊢; exact e
    · rw [upd_ne q] at e ⊢; exact t b u e, same_new hp, fun a u z => by
    by_cases q : a = p
    · subst q; exact .inr hp
    · rw [upd_ne q] at z; exact .inl z⟩
/-- the items that an iterator gives, while the frozen part stands -/
structure ItR (G : Cg) (I : Hp) (J : It) (ds : List D) : Prop where
  go : ∀ i H, Same I H → i < ds.length → J.go i H
  stop : ∀ i H, Same I H → ds.length ≤ i → J.stop i H
  yld : ∀ i I1 H x H', Same I I1 → Same I1 H → i < ds.length → J.yld i H x H' → ∃ I', Mor I1 H I' H' ∧ ∃ d, ds[i]? = some d ∧ Rp G I' H' d x []
theorem ItR.up {G : Cg} {I I' : Hp} {J : It} {ds : List D} (h : ItR G I J ds) (s : Same I I') : ItR G I' J ds :=
  ⟨fun i H t => h.go i H (s.trans t), fun i H t => h.stop i H (s.trans t), fun i I1 H x H' t => h.yld i I1 H x H' (s.trans t)⟩
/-- what is walked -/
def tI (G : Cg) (q : Bool) (m : Ms) : TI := fun σ H R => ∃ I F ρ ds ρ', Fit G I H ρ σ F ∧ m ρ = some (ds, ρ') ∧
  ∀ J H' I' F', Go I H F I' H' F' → (q = true → Same H H') → EnvR G I' H' ρ' σ F' → ItR G I' J ds → R J H'
structure DI (X : Cx) (cls : Nat → Addr) (tg it : Expr) (q : Bool) (m : Ms) : Prop where
  pi : PI X tg it (tI (cgOf X cls) q m)
theorem PI.imp {X : Cx} {tg e : Expr} {t t' : TI} (h : PI X tg e t) (k : ∀ σ H Q, t' σ H Q → t σ H Q) : PI X tg e t' := ⟨fun pins s σ H R I q => h.run pins s σ H R I (k σ H R q)⟩
theorem PI.or {X : Cx} {tg e : Expr} {t t' : TI} (h : PI X tg e t) (h' : PI X tg e t') : PI X tg e (fun σ H R => t σ H R ∨ t' σ H R) :=
  ⟨fun pins s σ H R I q => q.elim (h.run pins s σ H R I) (h'.run pins s σ H R I)⟩
/-- the items of a list, a tuple -/
def itemsD : D → Option (List D)
  | .lst _ xs => some xs
  | .tup xs => some xs
  | _ => none
def eItems (m : M) : Ms := fun ρ => match m ρ with
  | some (d, ρ') => match itemsD d with
    | some ds => some (ds, ρ')
    | none => none
  | none => none
theorem itR_list {G : Cg} {I H : Hp} {a : Addr} {ds : List D} {vs : List V} (ha : I a = some (.lst vs)) (r : RpL G I H ds vs []) : ItR G I (Itl G.K a) ds := by
  refine ⟨fun i H' t hi => ?_, fun i H' t hi => ⟨vs, SqL.of (t _ _ ha), by rw [← r.length]; exact hi⟩, fun i I1 H' x H2 t t1 hi y => ?_⟩
  · have hi' : i < vs.length := by rw [← r.length]; exact hi
    exact ⟨vs, vs[i], SqL.of (t _ _ ha), by simp [hi']⟩
  · obtain ⟨rfl, y⟩ := y
    obtain ⟨d, hd⟩ : ∃ d, ds[i]? = some d := ⟨ds[i], by simp [hi]⟩
    obtain ⟨v, hv, rv⟩ := r.get hd
    have e := y vs (SqL.of (t1 _ _ (t _ _ ha)))
    rw [hv] at e
    cases e
    exact ⟨I1, Mor.refl t1, d, hd, rv.up t⟩
theorem itR_tup {G : Cg} {I H : Hp} {a : Addr} {ds : List D} {vs : List V} (ha : SqT G.K I a vs) (r : RpL G I H ds vs []) : ItR G I (Itt G.K a) ds := by
  refine ⟨fun i H' t hi => ?_, fun i H' t hi => ⟨vs, SqT.sub ha t, by rw [← r.length]; exact hi⟩, fun i I1 H' x H2 t t1 hi y => ?_⟩
  · have hi' : i < vs.length := by rw [← r.length]; exact hi
    exact ⟨vs, vs[i], SqT.sub ha t, by simp [hi']⟩
  · obtain ⟨rfl, y⟩ := y
    obtain ⟨d, hd⟩ : ∃ d, ds[i]? = some d := ⟨ds[i], by simp [hi]⟩
    obtain ⟨v, hv, rv⟩ := r.get hd
    have e := y vs (SqT.sub ha (t.trans t1))
    rw [hv] at e
    cases e
    exact ⟨I1, Mor.refl t1, d, hd, rv.up t⟩
section
variable {X : Cx} {cls : Nat → Addr} {ios : List Nat} {tg e : Expr} {m : M} {n : Ms} {q : Bool} {g : Mg} {pos : Pos}
theorem di_val (h : DA X cls e true q m) : DI X cls tg e q (eItems m) := by
  refine ⟨PI.imp (PI.or (pi_list h.pe) (pi_tup h.pe)) fun σ H R ⟨I, F, ρ, ds, ρ', f, e, k⟩ => ?_⟩
  unfold eItems at e
  split at e
  · rename_i d ρ1 em
    split at e
    · rename_i ds' ed
      cases e
      unfold itemsD at ed
      split at ed
      · rename_i o xs
        cases ed
        have z := h.pl _ _ _ em
        refine .inl ⟨I, F, ρ, _, ρ', f, em, fun v H1 I1 F1 g s n _ pv => ?_⟩
        have r := pv rfl
        cases o with
        | true => simp [Ev.frz] at z
        | false =>
          simp only [Rp] at r
          obtain ⟨_, a, vs, rfl, ha, r⟩ := r
          exact ⟨a, rfl, ⟨vs, SqL.of (g.top _ _ ha)⟩, k _ H1 I1 F1 g s n (itR_list ha r)⟩
      · cases ed
        refine .inr ⟨I, F, ρ, _, ρ', f, em, fun v H1 I1 F1 g s n _ pv => ?_⟩
        have r := pv rfl
        simp only [Rp] at r
        obtain ⟨a, vs, rfl, ha, r⟩ := r
        exact ⟨a, rfl, ⟨vs, SqT.sub ha g.top⟩, k _ H1 I1 F1 g s n (itR_tup ha r)⟩
      · cases ed
    · cases e
  · cases e
/-! ### for -/
def evFor (g : Mg) (b : Mst) : List D → Mst
  | [], ρ => some (.nx, ρ)
  | d :: ds, ρ => match g d ρ with
    | some ρ1 => match b ρ1 with
      | some (.nx, ρ2) => evFor g b ds ρ2
      | some (.ct, ρ2) => evFor g b ds ρ2
      | some (.bk, ρ2) => some (.nx, ρ2)
      | some (.rt v, ρ2) => some (.rt v, ρ2)
      | none => none
    | none => none
def sFor (n : Ms) (g : Mg) (b : Mst) : Mst := fun ρ => match n ρ with
  | some (ds, ρ1) => evFor g b ds ρ1
  | none => none
theorem Mor.go {G : Cg} {I H I' H' : Hp} {F : List Addr} {ρ : Env} {σ : L2.St} (m : Mor I H I' H') (f : Fit G I H ρ σ F) : Go I H F I' H' F :=
  f.go.res (A := []) f.env.live m.sub m.top m.keep m.frz (fun _ z => nomatch z) List.nodup_nil
theorem for_of {G : Cg} {b : Mst} {σ : L2.St} {H : Hp} {E : Ends} (h : tS G ios (sFor n g b) E σ H) : tFor (tI G q n) (tG G ios g) (tS G ios b) E σ H := by
  obtain ⟨I, F, ρ, o, ρ', f, e, k⟩ := h
  unfold sFor at e
  split at e
  · rename_i ds ρ1 en
    refine ⟨I, F, ρ, ds, ρ1, f, en, fun J H1 I1 F1 g1 s1 n1 it => ?_⟩
    let S : Nat → L2.St → Hp → Prop := fun i σ2 H2 => ∃ I2 F2 ρ2, Fit G I2 H2 ρ2 σ2 F2 ∧ Same I1 I2 ∧ evFor g b (ds.drop i) ρ2 = some (o, ρ') ∧ Aft G ios I2 H2 F2 σ2 ρ' E o
    refine ⟨fun i m σ2 H2 => m = ds.length - i ∧ i ≤ ds.length ∧ S i σ2 H2, ⟨ds.length, by omega, Nat.zero_le _, I1, F1, ρ1, .of g1 n1, Same.refl _, e, k.step g1 .refl⟩, ?_⟩
    rintro i m σ2 H2 ⟨rfl, hi, I2, F2, ρ2, f2, s2, e2, k2⟩
    by_cases hlt : i < ds.length
    · refine .inr ⟨it.go i H2 (s2.trans f2.top) hlt, S (i + 1), fun σ' H' hS => ⟨ds.length - (i + 1), by omega, rfl, hlt, hS⟩, fun x H3 y => ?_⟩
      obtain ⟨I3, mo, d, hd, rd⟩ := it.yld i I2 H2 x H3 s2 f2.top hlt y
      rw [List.drop_eq_getElem_cons hlt] at e2
      have ed : ds[i] = d := by
        rw [List.getElem?_eq_getElem hlt] at hd
        exact Option.some.inj hd
      rw [ed] at e2
      have g3 := mo.go f2
      have n3 := f2.env.stay mo.sub fun a o _ e => mo.keep a o e
      unfold evFor at e2
      split at e2
      · rename_i ρ3 eg
        refine ⟨I3, F2, [], ρ2, d, ρ3, ⟨n3, mo.top, g3.nd, g3.off⟩, rd, eg, fun σ4 F4 n4 s4 nd4 i4 => ?_⟩
        have g4 : Go I2 H2 F2 I3 H3 F4 := g3.weak s4 nd4
        have k4 := k2.step g4 i4
        split at e2
        · rename_i ρ5 eb
          exact ⟨I3, F4, ρ3, .nx, ρ5, .of g4 n4, eb, fun σ6 H6 I6 F6 g6 n6 i6 => ⟨I6, F6, ρ5, .of g6 n6, (s2.trans mo.sub).trans g6.sub, e2, k4.step g6 i6⟩⟩
        · rename_i ρ5 eb
          exact ⟨I3, F4, ρ3, .ct, ρ5, .of g4 n4, eb, fun σ6 H6 I6 F6 g6 n6 i6 => ⟨I6, F6, ρ5, .of g6 n6, (s2.trans mo.sub).trans g6.sub, e2, k4.step g6 i6⟩⟩
        · rename_i ρ5 eb
          cases e2
          exact ⟨I3, F4, ρ3, .bk, ρ', .of g4 n4, eb, k4⟩
        · rename_i v ρ5 eb
          cases e2
          exact ⟨I3, F4, ρ3, .rt v, ρ', .of g4 n4, eb, k4⟩
        · cases e2
      · cases e2
    · have ei : i = ds.length := by omega
      subst ei
      rw [List.drop_length] at e2
      cases e2
      exact .inl ⟨it.stop _ H2 (s2.trans f2.top) (Nat.le_refl _), k2 σ2 H2 I2 F2 f2.go f2.env .refl⟩
  · cases e
theorem ds_for {body : List Stmt} {b : Mst} (hp : PassesOwn (model X.prog X.w) X.A X.env X.xe) (hc : X.calm = true) (hi : DI X cls tg e q n) (hg : DG X cls ios tg g) (hb : DSs X cls ios body b)
    (hs : ∀ x, foldedSetIterable e X.env x = pure x := by intro _; rfl) : DS X cls ios (.For tg e body [] pos) (sFor n g b) := ⟨PS.imp (ps_for hp hc hi.pi hg.pg hb.pss hs) fun _ _ _ h => for_of h⟩
/-! ### while -/
def evWhile (c : M) (b : Mst) : Nat → Mst
  | 0, _ => none
  | k + 1, ρ => match c ρ with
    | some (.bl true, ρ1) => match b ρ1 with
      | some (.nx, ρ2) => evWhile c b k ρ2
      | some (.ct, ρ2) => evWhile c b k ρ2
      | some (.bk, ρ2) => some (.nx, ρ2)
      | some (.rt v, ρ2) => some (.rt v, ρ2)
      | none => none
    | some (.bl false, ρ1) => some (.nx, ρ1)
    | _ => none
theorem while_of {G : Cg} {c : M} {b : Mst} {k : Nat} {σ : L2.St} {H : Hp} {E : Ends} (h : tS G ios (evWhile c b k) E σ H) : tWhile (tT G q c) (tS G ios b) E σ H := by
  obtain ⟨I, F, ρ, o, ρ', f, e, hk⟩ := h
  let S : Nat → L2.St → Hp → Prop := fun i σ2 H2 => ∃ I2 F2 ρ2, Fit G I2 H2 ρ2 σ2 F2 ∧ evWhile c b i ρ2 = some (o, ρ') ∧ Aft G ios I2 H2 F2 σ2 ρ' E o
  refine ⟨S, ⟨k, I, F, ρ, f, e, hk⟩, ?_⟩
  rintro i σ2 H2 ⟨I2, F2, ρ2, f2, e2, k2⟩
  cases i with
  | zero => cases e2
  | succ i =>
    unfold evWhile at e2
    split at e2
    · rename_i ρ3 ec
      refine ⟨I2, F2, ρ2, true, ρ3, f2, ec, fun H3 I3 F3 g3 s3 n3 => ?_⟩
      refine iteT ?_
      refine ⟨S i, fun σ' H' hS => ⟨i, Nat.lt_succ_self _, hS⟩, ?_⟩
      have k3 := k2.step g3 .refl
      split at e2
      · rename_i ρ5 eb
        exact ⟨I3, F3, ρ3, .nx, ρ5, .of g3 n3, eb, fun σ6 H6 I6 F6 g6 n6 i6 => ⟨I6, F6, ρ5, .of g6 n6, e2, k3.step g6 i6⟩⟩
      · rename_i ρ5 eb
        exact ⟨I3, F3, ρ3, .ct, ρ5, .of g3 n3, eb, fun σ6 H6 I6 F6 g6 n6 i6 => ⟨I6, F6, ρ5, .of g6 n6, e2, k3.step g6 i6⟩⟩
      · rename_i ρ5 eb
        cases e2
        exact ⟨I3, F3, ρ3, .bk, ρ', .of g3 n3, eb, k3⟩
      · rename_i v ρ5 eb
        cases e2
        exact ⟨I3, F3, ρ3, .rt v, ρ', .of g3 n3, eb, k3⟩
      · cases e2
    · rename_i ρ3 ec
      cases e2
      refine ⟨I2, F2, ρ2, false, ρ', f2, ec, fun H3 I3 F3 g3 s3 n3 => ?_⟩
      refine iteF ?_
      exact k2 σ2 H3 I3 F3 g3 n3 .refl
    · cases e2
theorem ds_while {c : Expr} {mc : M} {body : List Stmt} {b : Mst} (k : Nat) (hp : PassesOwn (model X.prog X.w) X.A X.env X.xe) (hc : DT X cls c q mc) (hb : DSs X cls ios body b) : DS X cls ios (.While c body [] pos) (evWhile mc b k) :=
  ⟨PS.imp (ps_while hp hc.pt hb.pss) fun _ _ _ h => while_of h⟩
end
end Ev

/-! Ev8: defs: promises by data, what a body gives, calls. -/
namespace Ev
open PySem PySem.Spec PyProof.Rows L2

/-- a def keeps a promise wherever nothing is being shown (no repr is under way) -/
structure FnG (P : Program) (w : World) (K : PySem.W.Frag) (mg : Str → Option Value) (base : Heap) (CX : CXT) (k : Nat) (f : Addr) (fd : FuncData) (ps : List Str) (sp : Sp) : Prop where
  len : ∀ vs H Q E, sp vs H Q E → vs.length = ps.length
  run : ∀ (A : Around) (outer : List PySem.Env) (s : Shared) (H : Hp) (args : Args) (us : List Value) (vs : List V) (Q : VK) (E : XK), A.guards = some [] → Room k A → Env0 P w K mg base A outer s H →
    BindsTo s fd args (ps.zip us) → Vals vs us → sp vs H Q E → codeAny (model P w) A (.call (.ref f) args) (CR CX outer P w H s Q E) s
theorem FnG.mono {P : Program} {w : World} {K : PySem.W.Frag} {mg : Str → Option Value} {base : Heap} {CX : CXT} {j k : Nat} {f : Addr} {fd : FuncData} {ps : List Str} {sp : Sp} (F : FnG P w K mg base CX j f fd ps sp) (h : j ≤ k) : FnG P w K mg base CX k f fd ps sp :=
  ⟨F.len, fun A outer s H args us vs Q E g room => F.run A outer s H args us vs Q E g (room.mono h)⟩
theorem FnG.of {P : Program} {w : World} {K : PySem.W.Frag} {mg : Str → Option Value} {base : Heap} {CX : CXT} {k : Nat} {f : Addr} {fd : FuncData} {ps : List Str} {sp : Sp} (F : FnOk P w K mg base CX k f fd ps sp) : FnG P w K mg base CX k f fd ps sp :=
  ⟨F.len, fun A outer s H args us vs Q E _ room => F.run A outer s H args us vs Q E room⟩

/-- the rule for a def, by its body -/
theorem fnG_of {CX : CXT} {P : Program} {w : World} {K : PySem.W.Frag} {mg : Str → Option Value} {base : Heap} {k : Nat} {f : Addr} {name qual : Str} {params : Arguments} {body : List Stmt} {scope : Scope} {dV kV doc pm cdv ct oc : Value} {an od : Option Addr}
    {osl : Array (Option Value)} {N ps : List Str} {sp : Sp} (lk : K.lookup f = some ⟨oc, od, .func (PySem.W.fnOf name qual params body scope dV kV doc pm an cdv ct), osl⟩) (hcd : PySem.W.codeIn K cdv qual = true) (S : FnScope N ps scope)
    (len : ∀ vs H Q E, sp vs H Q E → vs.length = ps.length)
    (hbody : ∀ (A : Around) (outer : List PySem.Env) (s : Shared) (H : Hp) (vs : List V) (Q : VK) (E : XK), (A.deeper (envOfC qual scope s.heap.objs.size f cdv)).guards = some [] → Room k (A.deeper (envOfC qual scope s.heap.objs.size f cdv)) → sp vs H Q E →
      ∃ t, PSs (cxOf CX P w K mg base N qual scope f cdv A outer s H E) body t ∧ t { nx := fun _ H' => Q .non H', rt := Q } (start N vs) H) :
    FnG P w K mg base CX (k + 1) f (PySem.W.fnOf name qual params body scope dV kV doc pm an cdv ct) ps sp := by
  refine ⟨len, fun A outer s0 H args us vs Q E hg room e0 hbind rv hsp => ?_⟩
  have hlen := len _ _ _ _ hsp
  have KX : K.In s0.heap := e0.mod.kin.keeps fun b ob eb => (e0.bs b ob eb).1
  have lim : s0.heap.NoLimit := e0.mod.nolimit.keeps fun b ob eb => (e0.bs b ob eb).1
  refine codeAny_call_function room.depth (KX _ _ lk) rfl S.co S.gen rfl (PySem.W.codeRec_of KX hcd) (hbind _ _ _ _ ?_)
  refine wpAny_newFunctionEnv_cells S.kind (fun ⟨n, u⟩ hm => ?_) fun fenv hfe s1 x => ?_
  · rcases S.par n (List.of_mem_zip hm).1 with z | z
    · exact .inl z
    · exact .inr ⟨z, PySem.W.cellsFrom_some _ _ _ (.inl z)⟩
  · subst hfe
    refine ⟨lim.keeps x.toInCall.keep, codeAny_func ?_⟩
    obtain ⟨t, ht, hq⟩ := hbody A outer s0 H vs Q E hg (room.deeper _) hsp
    refine wpAny_mono (ht.run [] s1 (start N vs) H _ (inv_start S room.hd e0 hlen rv x) hq) (fun fl s2 hs => ?_) fun e2 s2 hs => hs
    cases fl with
    | ret u =>
      obtain ⟨v, _, H2, J, r2, q2⟩ := hs
      exact ⟨v, H2, J.os, J.bare, J.base, J.hok, r2, q2⟩
    | next =>
      obtain ⟨_, H2, J, q2⟩ := hs
      exact ⟨V.non, H2, J.os, J.bare, J.base, J.hok, rfl, q2⟩
    | brk =>
      obtain ⟨_, _, _, q2⟩ := hs
      exact False.elim q2
    | cont =>
      obtain ⟨_, _, _, q2⟩ := hs
      exact False.elim q2

/-! ### calls by FnG -/
section
variable {X : Cx} {CX : CXT} {k : Nat} {f C : Addr} {fd : FuncData} {ps : List Str} {sp : Sp} {E : XK} {x m : Str} {p pos apos : Pos} {e o : Expr} {es : List Expr} {ta : TE} {t : TA}
theorem runG {pins : List (Addr × Obj)} {σ : L2.St} {H : Hp} {s : Shared} {Q : VK} {us : List Value} {vs : List V} (hg : X.A.guards = some []) (F : FnG X.prog X.w X.K X.mg X.base CX k f fd ps sp) (room : Room k X.A) (hb : Binds X.K fd ps []) (hx : Passes CX X E)
    (J : Inv X pins σ H s) (r : Vals vs us) (h : sp vs H Q E) : wpAny (model X.prog X.w) X.A (call (.ref f) us) (EP X pins σ Q) X.xe s := by
  have hl : us.length = ps.length := r.length.symm.trans (F.len _ _ _ _ h)
  have hb' : BindsTo s fd ⟨us, []⟩ (ps.zip us) := by
    have := hb s us J.kIn (by rw [List.append_nil]; exact hl)
    rwa [List.append_nil] at this
  refine wpAny_call (codeAny_mono (F.run X.A X.stack s H ⟨us, []⟩ us vs Q E hg room J.env0 hb' r h) fun res s2 hq => ?_)
  cases res with
  | error er => exact hx pins σ H s er s2 J hq
  | ok fl =>
    cases fl with
    | ret u => exact J.after hq
    | next => exact False.elim hq
    | brk => exact False.elim hq
    | cont => exact False.elim hq
theorem pe_callG (hgd : X.A.guards = some []) (F : FnG X.prog X.w X.K X.mg X.base CX k f fd ps sp) (room : Room k X.A) (hg : Gl X x) (hm : X.mg x = some (.ref f)) (hk : PySem.W.keepIn X.K (.ref f) = true) (hb : Binds X.K fd ps []) (hx : Passes CX X E)
    (ha : PA X (e :: es) t) (hdb : (x == ("__debug__" : Str)) = false := by decide) (he : starEach (e :: es) X.env = (false, eval e X.env) :: starEach es X.env := by rfl) (hpl : (backTo pos (starEach es X.env)).any (·.1) = false := by rfl) :
    PE X (.Call (.Name x p) (e :: es) [] pos) (fun σ H Q => t σ H fun vs H1 => sp vs H1 Q E) :=
  ⟨fun pins s σ H Q J h => wpAny_Call_Name_kw (ld_glob J hg hm (PySem.W.callWith_K (h₀ := X.base) J.ok.mod.kin hk
    (thn (ha.run pos pins s σ H _ J h) fun _ _ ⟨_, _, J1, rv, q1⟩ => ⟨J1.kIn, runG hgd F room hb hx J1 rv q1⟩) he hpl) hdb)⟩
theorem pe_callG0 (hgd : X.A.guards = some []) (F : FnG X.prog X.w X.K X.mg X.base CX k f fd ps sp) (room : Room k X.A) (hg : Gl X x) (hm : X.mg x = some (.ref f)) (hk : PySem.W.keepIn X.K (.ref f) = true) (hb : Binds X.K fd ps []) (hx : Passes CX X E)
    (hdb : (x == ("__debug__" : Str)) = false := by decide) : PE X (.Call (.Name x p) [] [] pos) (fun _ H Q => sp [] H Q E) :=
  ⟨fun pins s σ H Q J h => wpAny_Call_Name_kw (ld_glob J hg hm (PySem.W.callWith_K0 J.kIn hk (runG (us := []) hgd F room hb hx J .nil h)) hdb)⟩
/-- o.m(e, ..), o an instance of the class at C -/
def tMethG (C : Addr) (m : Str) (sp : Sp) (E : XK) (ta : TE) (t : TA) : TE := fun σ H Q => ta σ H fun x H1 => ∃ a dx fs, x = .ref a ∧ H1 a = some (.ins C dx fs) ∧ fs.lookup m = none ∧ t σ H1 fun vs H2 => sp (x :: vs) H2 Q E
theorem pe_methG {pl : Sem Bool} (hgd : X.A.guards = some []) (he : PE X o ta) (c : Cls X.K C) (hm : Meth X.K C m f) (F : FnG X.prog X.w X.K X.mg X.base CX k f fd ps sp) (room : Room k X.A) (hb : Binds X.K fd ps []) (hx : Passes CX X E) (ha : PA X (e :: es) t)
    (hst : starEach (e :: es) X.env = (false, eval e X.env) :: starEach es X.env := by rfl) (hpl : (backTo pos (starEach es X.env)).any (·.1) = false := by rfl)
    (ht : eval (.Call (.Attribute o m apos) (e :: es) [] pos) X.env = (do
      let rv ← eval o X.env
      standAt apos.atName
      let (g, first) ← holding [rv] (getMethod rv m pl)
      callWith pos g first (backTo pos (starEach (e :: es) X.env)) (backToKw pos (keywordEach [] X.env))) := by rfl) :
    PE X (.Call (.Attribute o m apos) (e :: es) [] pos) (tMethG C m sp E ta t) := by
  refine ⟨fun pins s σ H Q J h => PySem.W.methodCall_KW (pl := pl) (thn (he.run pins s σ H _ J h) fun u s1 hx1 => ?_) ht⟩
  obtain ⟨y, H1, J1, ry, a, dx, fs, rfl, ea, ln, q⟩ := hx1
  obtain rfl : u = Value.ref a := ry
  exact getmeth_ok J1 ea c hm ln (PySem.W.callWith_K (first := [.ref a]) (h₀ := X.base) J.ok.mod.kin hm.kp
    (thn (ha.run pos pins s1 σ H1 _ J1 q) fun us _ ⟨vs, _, J2, rv, q2⟩ => ⟨J2.kIn, runG (us := .ref a :: us) (vs := .ref a :: vs) hgd F room hb hx J2 (.cons rfl rv) q2⟩) hst hpl)
theorem pe_methG0 {pl : Sem Bool} (hgd : X.A.guards = some []) (he : PE X o ta) (c : Cls X.K C) (hm : Meth X.K C m f) (F : FnG X.prog X.w X.K X.mg X.base CX k f fd ps sp) (room : Room k X.A) (hb : Binds X.K fd ps []) (hx : Passes CX X E)
    (ht : eval (.Call (.Attribute o m apos) [] [] pos) X.env = (do
      let rv ← eval o X.env
      standAt apos.atName
      let (g, first) ← holding [rv] (getMethod rv m pl)
      callWith pos g first (backTo pos (starEach [] X.env)) (backToKw pos (keywordEach [] X.env))) := by rfl) :
    PE X (.Call (.Attribute o m apos) [] [] pos) (fun σ H Q => ta σ H fun x H1 => ∃ a dx fs, x = .ref a ∧ H1 a = some (.ins C dx fs) ∧ fs.lookup m = none ∧ sp [x] H1 Q E) := by
  refine ⟨fun pins s σ H Q J h => PySem.W.methodCall_KW (pl := pl) (thn (he.run pins s σ H _ J h) fun u s1 hx1 => ?_) ht⟩
  obtain ⟨y, H1, J1, ry, a, dx, fs, rfl, ea, ln, q⟩ := hx1
  obtain rfl : u = Value.ref a := ry
  exact getmeth_ok J1 ea c hm ln (PySem.W.callWith_K0 (first := [.ref a]) J1.kIn hm.kp (runG (us := [.ref a]) (vs := [.ref a]) hgd F room hb hx J1 (.cons rfl .nil) q))
end

/-! ### promises by data -/
/-- the data handed in (with their marks), what comes back: the value, and what the lent ones (the first of them) have become -/
abbrev FSem := List D → Option (D × List D)
/-- lent: how many of the first parameters are lent -/
def spF (G : Cg) (n lent : Nat) (F : FSem) : Sp := fun vs H Q _ => vs.length = n ∧ ∃ I ds A r os, Same I H ∧ RpL G I H ds vs A ∧ A.Nodup ∧ (∀ a ∈ A, I a = none) ∧ F ds = some (r, os) ∧
  ∀ v H' I' B C, Go I H A I' H' (B ++ C) → Rp G I' H' r v B → RpL G I' H' os (vs.take lent) C → Q v H'
/-- a def's body as a function of the data handed in: N names -/
def fSem (N lent : Nat) (m : Mst) : FSem := fun ds => match m (ds.map some ++ List.replicate (N - ds.length) none) with
  | some (.rt d, ρ) => match (ρ.take lent).mapM id with
    | some os => some (d, os)
    | none => none
  | some (.nx, ρ) => match (ρ.take lent).mapM id with
    | some os => some (.non, os)
    | none => none
  | _ => none
theorem envR_start {G : Cg} {I H : Hp} {M : Nat} : ∀ {ds : List D} {vs : List V} {A : List Addr}, RpL G I H ds vs A → EnvR G I H (ds.map some ++ List.replicate M none) (vs.map some ++ List.replicate M none) A
  | [], vs, A, h => by
    obtain ⟨rfl, rfl⟩ := h
    induction M with
    | zero => exact ⟨rfl, rfl⟩
    | succ M ih => exact ⟨none, _, rfl, ih⟩
  | d :: ds, vs, A, h => by
    obtain ⟨v, r, B, C, rfl, rfl, q, k⟩ := h
    exact ⟨v, _, B, C, rfl, rfl, q, envR_start k⟩
/-- the lent names at the end -/
theorem envR_lent {G : Cg} {I H : Hp} : ∀ {n : Nat} {ρ : Env} {σ : L2.St} {F : List Addr} {os : List D}, EnvR G I H ρ σ F → (ρ.take n).mapM id = some os → ∃ vs C R, σ.take n = vs.map some ∧ RpL G I H os vs C ∧ F = C ++ R
  | 0, ρ, σ, F, os, h, e => by
    simp only [List.take_zero, List.mapM_nil] at e
    cases e
    exact ⟨[], [], F, rfl, ⟨rfl, rfl⟩, rfl⟩
  | n + 1, [], σ, F, os, h, e => by
    simp only [List.take_nil, List.mapM_nil] at e
    cases e
    obtain ⟨rfl, rfl⟩ := h
    exact ⟨[], [], [], rfl, ⟨rfl, rfl⟩, rfl⟩
  | n + 1, none :: ρ, σ, F, os, h, e => by
    rw [List.take_succ_cons, List.mapM_cons] at e
    simp at e
  | n + 1, some d :: ρ, σ, F, os, h, e => by
    rw [List.take_succ_cons, List.mapM_cons] at e
    obtain ⟨v, r, B, C, rfl, rfl, q, k⟩ := h
    cases e2 : (ρ.take n).mapM id with
    | none => rw [e2] at e; simp at e
    | some os' =>
      rw [e2] at e
      have e3 : os = d :: os' := by simpa using e.symm
      subst e3
      obtain ⟨vs, C2, R, h1, h2, rfl⟩ := envR_lent k e2
      exact ⟨v :: vs, B ++ C2, R, by rw [List.take_succ_cons, h1]; rfl, ⟨v, vs, B, C2, rfl, rfl, q, h2⟩, by rw [List.append_assoc]⟩
theorem IoS.take {lent : Nat} {σ σ' : L2.St} (h : IoS (List.range lent) σ σ') : σ'.take lent = σ.take lent := by
  apply List.ext_getElem?
  intro i
  by_cases hi : i < lent
  · rw [List.getElem?_take_of_lt hi, List.getElem?_take_of_lt hi]
    exact h i (List.mem_range.mpr hi)
  · rw [List.getElem?_take_eq_none (by omega), List.getElem?_take_eq_none (by omega)]
theorem map_some_inj {α : Type} : ∀ {l m : List α}, l.map some = m.map some → l = m
  | [], [], _ => rfl
  | [], _ :: _, h => by simp at h
  | _ :: _, [], h => by simp at h
  | a :: l, b :: m, h => by
    simp only [List.map_cons, List.cons.injEq, Option.some.injEq] at h
    rw [h.1, map_some_inj h.2]
/-- a body that makes m of the names keeps the promise -/
theorem spF_body {G : Cg} {N : List Str} {n lent : Nat} {m : Mst} {vs : List V} {H : Hp} {Q : VK} {E : XK} (hn : n ≤ N.length) (hl : lent ≤ n) (h : spF G n lent (fSem N.length lent m) vs H Q E) :
    tS G (List.range lent) m { nx := fun _ H' => Q .non H', rt := Q } (start N vs) H := by
  obtain ⟨hv, I, ds, A, r, os, top, rl, nd, off, e, k⟩ := h
  have hd : ds.length = vs.length := rl.length
  have fit : Fit G I H (ds.map some ++ List.replicate (N.length - ds.length) none) (start N vs) A := by
    refine ⟨?_, top, nd, off⟩
    unfold L2.start
    rw [hd]
    exact envR_start rl
  have st : (start N vs).take lent = (vs.take lent).map some := by
    unfold L2.start
    rw [List.take_append_of_le_length (by rw [List.length_map]; omega), List.map_take]
  have fin : ∀ {ρ' : Env} {σ' : L2.St} {H' I' : Hp} {B F' : List Addr} {d : D} {v : V} {os' : List D}, Go I H A I' H' (B ++ F') → EnvR G I' H' ρ' σ' F' → Rp G I' H' d v B → IoS (List.range lent) (start N vs) σ' →
      (ρ'.take lent).mapM id = some os' → (r, os) = (d, os') → Q v H' := fun {ρ' σ' H' I' B F' d v os'} g n1 rv i em er => by
    cases er
    obtain ⟨ws, C, R, h1, h2, rfl⟩ := envR_lent n1 em
    rw [i.take, st] at h1
    have := map_some_inj h1
    subst this
    exact k v H' I' B C (g.weak (fun a m => by
      rcases List.mem_append.mp m with m | m
      · exact List.mem_append_left _ m
      · exact List.mem_append_right _ (List.mem_append_left _ m)) (by
      have := g.nd
      rw [← List.append_assoc] at this
      exact (List.nodup_append.mp this).1)) rv h2
  unfold fSem at e
  split at e
  · rename_i d ρ' em
    split at e
    · rename_i os' eo
      cases e
      exact ⟨I, A, _, .rt r, ρ', fit, em, fun v σ' H' I' B F' g n1 rv i => fin g n1 rv i eo rfl⟩
    · cases e
  · rename_i ρ' em
    split at e
    · rename_i os' eo
      cases e
      exact ⟨I, A, _, .nx, ρ', fit, em, fun σ' H' I' F' g n1 i => fin (B := []) g n1 rp_non i eo rfl⟩
    · cases e
  · cases e
/-- the context of a def's body -/
structure Bd (X : Cx) (k : Nat) : Prop where
  room : Room k X.A
  gd : X.A.guards = some []
  calm : X.calm = true
  nd : X.N.Nodup
  own : PassesOwn (model X.prog X.w) X.A X.env X.xe
/-- THE RULE: a def whose body makes m -/
theorem fn_ev {P : Program} {w : World} {K : PySem.W.Frag} {mg : Str → Option Value} {base : Heap} {x qual : Str} {st : Stmt} {f : Addr} {fd : FuncData} {N ps : List Str} {k lent : Nat} {m : Mst} {cls : Nat → Addr}
    (F : Fun K x qual st f fd) (S : FnScope N ps (defScope st)) (hl : lent ≤ ps.length)
    (hb : ∀ X : Cx, X.prog = P → X.w = w → X.K = K → X.mg = mg → X.base = base → X.N = N → X.env.scope = defScope st → X.fn = (fun _ => true) → Bd X k → DSs X cls (List.range lent) (defBody st) m) :
    FnG P w K mg base CX0 (k + 1) f fd ps (spF ⟨P, w, K, cls⟩ ps.length lent (fSem N.length lent m)) := by
  obtain ⟨oc, od, kV, doc, pm, an, cdv, ct, osl, rfl, lk, hcd⟩ := F.ex
  refine fnG_of lk hcd S (fun vs H Q E h => h.1) fun A outer s H vs Q E hg room h => ?_
  have hx : ps.length ≤ N.length := by
    have := congrArg List.length S.pre
    rw [List.length_take] at this
    omega
  have B : Bd (cxOf CX0 P w K mg base N qual (defScope st) f cdv A outer s H E).nox k := ⟨room, hg, rfl, S.nd, PassesOwn.never⟩
  exact ⟨_, (hb (cxOf CX0 P w K mg base N qual (defScope st) f cdv A outer s H E).nox rfl rfl rfl rfl rfl rfl rfl rfl B).pss.nox, spF_body hx hl h⟩

/-! ### calls by data -/
/-- a def by its FSem, no name lent -/
def eCall (F : FSem) (n : Ms) : M := fun ρ => match n ρ with
  | some (ds, ρ') => match F ds with
    | some (r, []) => some (r, ρ')
    | _ => none
  | none => none
/-- the name i is lent as the first argument -/
def eCallL (F : FSem) (i : Nat) (n : Ms) : M := fun ρ => match ρ[i]? with
  | some (some _) => match n ρ with
    | some (ds, ρ1) => match ρ1[i]? with
      | some (some d) => match F (d :: ds) with
        | some (r, [d']) => some (r, ρ1.set i (some d'))
        | _ => none
      | _ => none
    | none => none
  | _ => none
section
variable {X : Cx} {cls : Nat → Addr} {k n : Nat} {f C : Addr} {fd : FuncData} {ps : List Str} {F : FSem} {x m : Str} {p pos apos : Pos} {e o : Expr} {es : List Expr} {ms : Ms} {q : Bool} {i : Nat}
/-- a def of the text that may be called -/
structure Cl (X : Cx) (cls : Nat → Addr) (x : Str) (n lent : Nat) (F : FSem) : Prop where
  gl : Gl X x
  ok : ∃ (k : Nat) (f : Addr) (fd : FuncData) (ps : List Str), FnG X.prog X.w X.K X.mg X.base CX0 k f fd ps (spF (cgOf X cls) n lent F) ∧ Room k X.A ∧ X.mg x = some (.ref f) ∧ PySem.W.keepIn X.K (.ref f) = true ∧ Binds X.K fd ps []
theorem call_of {G : Cg} {σ : L2.St} {H : Hp} {Q : VK} {E : XK} (hn : ∀ ρ ds ρ', ms ρ = some (ds, ρ') → ds.length = n) (h : tE G false (eCall F ms) σ H Q) : tEs G q ms σ H (fun vs H1 => spF G n 0 F vs H1 Q E) := by
  obtain ⟨I, F0, ρ, d, ρ', f, e, k⟩ := h
  unfold eCall at e
  split at e
  · rename_i ds ρ1 em
    split at e
    · rename_i r eF
      cases e
      refine ⟨I, F0, ρ, ds, ρ', f, em, fun vs H1 I1 A F1 g s n1 rl => ⟨by rw [← rl.length]; exact hn _ _ _ em, I1, ds, A, d, [], g.top, rl, (List.nodup_append.mp g.nd).1, fun a m => g.off a (List.mem_append_left _ m), eF, fun v H2 I2 B C g2 rv rc => ?_⟩⟩
      obtain ⟨_, rfl⟩ := rc
      -- the callee's step has the arguments' objects alone; the names' objects stay
      have nd := List.nodup_append.mp g.nd
      have g2' := Go.trans (T := F1) (F1 := A) (g.perm List.perm_append_comm) g2 n1.live
      rw [List.append_nil] at g2'
      exact k v H2 I2 B F1 (g2'.perm List.perm_append_comm) (fun z => nomatch z) (n1.stay g2.sub fun a o m e => g2.keep a o e fun z => nd.2.2 a z a m rfl) rv
    · cases e
  · cases e
theorem de_call (hgd : X.A.guards = some []) (c : Cl X cls x n 0 F) (ha : DEs X cls (e :: es) q ms) (hn : ∀ ρ ds ρ', ms ρ = some (ds, ρ') → ds.length = n)
    (hdb : (x == ("__debug__" : Str)) = false := by decide) (he : starEach (e :: es) X.env = (false, eval e X.env) :: starEach es X.env := by rfl) (hpl : (backTo pos (starEach es X.env)).any (·.1) = false := by rfl) :
    DE X cls (.Call (.Name x p) (e :: es) [] pos) false (eCall F ms) := by
  obtain ⟨k, f, fd, ps, hF, hr, hm, hk, hb⟩ := c.ok
  exact ⟨PE.imp (pe_callG (E := E0) hgd hF hr c.gl hm hk hb pass0 ha.pa hdb he hpl) fun _ _ _ h => call_of hn h⟩
end
end Ev

/-! Ev9: what is plain data all through: ==, in, repr, sorted, len, list, tuple, isinstance, slices. -/
namespace Ev
open PySem PySem.Spec PyProof.Rows L2

/-! ### as the library's data -/
mutual
def pd : D → Option PyData
  | .non => some .none
  | .bl b => some (.bool b)
  | .int i => some (.int i)
  | .str x => some (.str x)
  | .lst _ xs => (pdL xs).map .list
  | .tup xs => (pdL xs).map .tuple
  | .dic _ kvs => (pdK kvs).map .dict
  | .ins _ _ _ => none
  | .scr _ => none
  | .exc _ _ => none
def pdL : List D → Option (List PyData)
  | [] => some []
  | x :: xs => match pd x, pdL xs with
    | some p, some ps => some (p :: ps)
    | _, _ => none
def pdK : List (D × D) → Option (List (PyData × PyData))
  | [] => some []
  | (k, v) :: r => match pd k, pd v, pdK r with
    | some p, some q, some ps => some ((p, q) :: ps)
    | _, _, _ => none
end
/-- sys.modules stands in the base, and it is a dict -/
def SmB (base : Heap) : Prop := ∃ o, base.get? sysModules = some o ∧ o.cls = .type "dict"

section
variable {X : Cx} {cls : Nat → Addr} {pins : List (Addr × Obj)} {σ : L2.St} {I H : Hp} {s : Shared}
theorem no_sm (J : Inv X pins σ H s) (hs : SmB X.base) {a : Addr} {o : HO} (h : H a = some o) : a ≠ sysModules := fun e => by
  obtain ⟨ob, e1, _⟩ := hs
  have := (J.bs _ _ e1).2
  rw [← e, h] at this
  cases this
theorem ents_keys {w : World} : ∀ {es : List ((D × V) × V)} {l : List DictEntry}, Paired (EntR w) es l → Paired RelV (es.map (·.1.2)) (l.map (·.key))
  | _, _, .nil => .nil
  | _, _, .cons ⟨_, _, _, _, r, _⟩ t => .cons r (ents_keys t)
theorem ents_vals {w : World} : ∀ {es : List ((D × V) × V)} {l : List DictEntry}, Paired (EntR w) es l → Paired RelV (es.map (·.2)) (l.map (·.val))
  | _, _, .nil => .nil
  | _, _, .cons ⟨_, _, _, _, _, r⟩ t => .cons r (ents_vals t)
mutual
theorem Rp.reads (J : Inv X pins σ H s) (hs : SmB X.base) (t : Same I H) : ∀ (d : D) (v : V) (A : List Addr) (u : Value) (p : PyData), Rp (cgOf X cls) I H d v A → pd d = some p → RelV v u → ∃ as, Reads s.heap u p as ∧ sysModules ∉ as
  | .non, v, A, u, p, h, e, r => by
    simp only [Rp] at h
    simp only [pd, Option.some.injEq] at e
    obtain ⟨rfl, _⟩ := h
    subst e
    cases r
    exact ⟨_, .none, by simp⟩
  | .bl b, v, A, u, p, h, e, r => by
    simp only [Rp] at h
    simp only [pd, Option.some.injEq] at e
    obtain ⟨rfl, _⟩ := h
    subst e
    cases r
    exact ⟨_, .bool b, by simp⟩
  | .int b, v, A, u, p, h, e, r => by
    simp only [Rp] at h
    simp only [pd, Option.some.injEq] at e
    obtain ⟨rfl, _⟩ := h
    subst e
    obtain ⟨tk, rfl⟩ := r
    exact ⟨_, .int b tk, by simp⟩
  | .str b, v, A, u, p, h, e, r => by
    simp only [Rp] at h
    simp only [pd, Option.some.injEq] at e
    obtain ⟨rfl, _⟩ := h
    subst e
    obtain ⟨tk, rfl⟩ := r
    exact ⟨_, .str b tk, by simp⟩
  | .lst o xs, v, A, u, p, h, e, r => by
    simp only [pd, Option.map_eq_some_iff] at e
    obtain ⟨ps, ep, rfl⟩ := e
    obtain ⟨a, vs, B, rfl, ha, q⟩ : ∃ a vs B, v = .ref a ∧ H a = some (.lst vs) ∧ RpL (cgOf X cls) I H xs vs B := by
      cases o with
      | false =>
        simp only [Rp] at h
        obtain ⟨_, a, vs, e, q, r⟩ := h
        exact ⟨a, vs, [], e, t _ _ q, r⟩
      | true =>
        simp only [Rp] at h
        obtain ⟨a, vs, B, e, _, q, r⟩ := h
        exact ⟨a, vs, B, e, q, r⟩
    cases r
    obtain ⟨its, rv, ⟨ob, n, ho, hc, _, hd⟩, _⟩ := J.list (SqL.of ha)
    obtain ⟨as, hr, hn⟩ := RpL.reads J hs t xs vs B its ps q ep rv
    exact ⟨_, Reads.list ho hc hd hr, fun m => by
      rcases List.mem_cons.mp m with m | m
      · exact no_sm J hs ha m.symm
      · exact hn m⟩
  | .tup xs, v, A, u, p, h, e, r => by
    simp only [pd, Option.map_eq_some_iff] at e
    obtain ⟨ps, ep, rfl⟩ := e
    simp only [Rp] at h
    obtain ⟨a, vs, rfl, q, z⟩ := h
    cases r
    obtain ⟨its, rv, ⟨ob, ho, hc, n, hd⟩, _⟩ := J.tuple (SqT.sub q t)
    obtain ⟨as, hr, hn⟩ := RpL.reads J hs t xs vs A its ps z ep rv
    exact ⟨_, Reads.tuple ho hc hd hr, hn⟩
  | .dic o kvs, v, A, u, p, h, e, r => by
    simp only [pd, Option.map_eq_some_iff] at e
    obtain ⟨ps, ep, rfl⟩ := e
    obtain ⟨a, ob, es, B, rfl, ha, z, q⟩ : ∃ a ob es B, v = .ref a ∧ H a = some (exO a ob) ∧ DicO X.w a ob es ∧ RpK (cgOf X cls) I H kvs es B := by
      cases o with
      | false =>
        simp only [Rp] at h
        obtain ⟨_, a, ob, es, e, q, z, r⟩ := h
        exact ⟨a, ob, es, [], e, t _ _ q, z, r⟩
      | true =>
        simp only [Rp] at h
        obtain ⟨a, ob, es, B, e, _, q, z, r⟩ := h
        exact ⟨a, ob, es, B, e, q, z, r⟩
    cases r
    have ho : s.heap.get? a = some ob := exO_get (J.hok a _ ha)
    obtain ⟨arr, n, hd, pr⟩ := z.ents
    obtain ⟨as, bs, hr1, hr2, n1, n2⟩ := RpK.reads J hs t kvs es B _ _ ps q ep (ents_keys pr) (ents_vals pr)
    refine ⟨_, Reads.dict ho z.ex.1 hd hr1 hr2, fun m => ?_⟩
    rw [List.cons_append] at m
    rcases List.mem_cons.mp m with m | m
    · exact no_sm J hs ha m.symm
    · rcases List.mem_append.mp m with m | m
      · exact n1 m
      · exact n2 m
  | .ins o c fs, v, A, u, p, h, e, r => by simp [pd] at e
  | .scr ns, v, A, u, p, h, e, r => by simp [pd] at e
  | .exc c l, v, A, u, p, h, e, r => by simp [pd] at e
theorem RpL.reads (J : Inv X pins σ H s) (hs : SmB X.base) (t : Same I H) : ∀ (xs : List D) (vs : List V) (A : List Addr) (us : List Value) (ps : List PyData), RpL (cgOf X cls) I H xs vs A → pdL xs = some ps → Paired RelV vs us → ∃ as, ReadsAll s.heap us ps as ∧ sysModules ∉ as
  | [], vs, A, us, ps, h, e, r => by
    simp only [RpL] at h
    simp only [pdL, Option.some.injEq] at e
    obtain ⟨rfl, _⟩ := h
    subst e
    cases r
    exact ⟨_, .nil, by simp⟩
  | x :: xs, vs, A, us, ps, h, e, r => by
    simp only [RpL] at h
    obtain ⟨v, vr, B, C, rfl, rfl, q, z⟩ := h
    simp only [pdL] at e
    cases e1 : pd x with
    | none => rw [e1] at e; simp at e
    | some p =>
      cases e2 : pdL xs with
      | none => rw [e1, e2] at e; simp at e
      | some pr =>
        rw [e1, e2] at e
        simp only [Option.some.injEq] at e
        subst e
        cases r with
        | cons r1 r2 =>
          obtain ⟨as, h1, n1⟩ := Rp.reads J hs t x v B _ p q e1 r1
          obtain ⟨bs, h2, n2⟩ := RpL.reads J hs t xs vr C _ pr z e2 r2
          exact ⟨_, .cons h1 h2, fun m => (List.mem_append.mp m).elim n1 n2⟩
theorem RpK.reads (J : Inv X pins σ H s) (hs : SmB X.base) (t : Same I H) : ∀ (xs : List (D × D)) (es : List ((D × V) × V)) (A : List Addr) (us ws : List Value) (ps : List (PyData × PyData)), RpK (cgOf X cls) I H xs es A → pdK xs = some ps → Paired RelV (es.map (·.1.2)) us → Paired RelV (es.map (·.2)) ws →
    ∃ as bs, ReadsAll s.heap us (ps.map (·.1)) as ∧ ReadsAll s.heap ws (ps.map (·.2)) bs ∧ sysModules ∉ as ∧ sysModules ∉ bs
  | [], es, A, us, ws, ps, h, e, r, r' => by
    simp only [RpK] at h
    simp only [pdK, Option.some.injEq] at e
    obtain ⟨rfl, _⟩ := h
    subst e
    cases r
    cases r'
    exact ⟨_, _, .nil, .nil, by simp, by simp⟩
  | (x, y) :: xs, es, A, us, ws, ps, h, e, r, r' => by
    simp only [RpK] at h
    obtain ⟨kv, v, vr, B, C, rfl, rfl, p0, q, z⟩ := h
    simp only [pdK] at e
    cases e1 : pd x with
    | none => rw [e1] at e; simp at e
    | some p =>
      cases e3 : pd y with
      | none => rw [e1, e3] at e; simp at e
      | some p' =>
        cases e2 : pdK xs with
        | none => rw [e1, e3, e2] at e; simp at e
        | some pr =>
          rw [e1, e3, e2] at e
          simp only [Option.some.injEq] at e
          subst e
          cases r with
          | cons r1 r2 =>
            cases r' with
            | cons r3 r4 =>
              obtain ⟨as, h1, n1⟩ := Rp.reads J hs t x kv [] _ p p0 e1 r1
              obtain ⟨bs, h2, n2⟩ := Rp.reads J hs t y v B _ p' q e3 r3
              obtain ⟨cs, ds, h3, h4, n3, n4⟩ := RpK.reads J hs t xs vr C _ _ pr z e2 r2 r4
              exact ⟨_, _, .cons h1 h3, .cons h2 h4, fun m => (List.mem_append.mp m).elim n1 n3, fun m => (List.mem_append.mp m).elim n2 n4⟩
end
/-- a value to look at, as a frozen or an owned one -/
theorem Sv.rp {G : Cg} {d : D} {v : V} (h : Sv G I H d v) : ∃ d' A, Rp G I H d' v A ∧ pd d' = pd d ∧ Ev.frz d' = Ev.frz d := by
  cases d with
  | lst o xs =>
    obtain ⟨a, vs, e, q, r⟩ := h
    exact ⟨.lst true xs, _, ⟨a, vs, [], e, rfl, q, r⟩, by simp only [pd], by simp only [Ev.frz]⟩
  | dic o kvs =>
    obtain ⟨a, ob, es, e, q, z, r⟩ := h
    exact ⟨.dic true kvs, _, ⟨a, ob, es, [], e, rfl, q, z, r⟩, by simp only [pd], by simp only [Ev.frz]⟩
  | ins o c fs =>
    obtain ⟨a, dx, gs, e, q, z, r⟩ := h
    exact ⟨.ins true c fs, _, ⟨a, dx, gs, [], e, rfl, q, z, r⟩, by simp only [pd], by simp only [Ev.frz]⟩
  | non => exact ⟨.non, [], h, rfl, rfl⟩
  | bl b => exact ⟨.bl b, [], h, rfl, rfl⟩
  | int b => exact ⟨.int b, [], h, rfl, rfl⟩
  | str b => exact ⟨.str b, [], h, rfl, rfl⟩
  | tup b => exact ⟨.tup b, [], h, rfl, rfl⟩
  | scr b => exact ⟨.scr b, [], h, rfl, rfl⟩
  | exc b l => exact ⟨.exc b l, [], h, rfl, rfl⟩
theorem Sv.reads (J : Inv X pins σ H s) (hs : SmB X.base) (t : Same I H) {d : D} {v : V} {u : Value} {p : PyData} (h : Sv (cgOf X cls) I H d v) (e : pd d = some p) (r : RelV v u) : ∃ as, Reads s.heap u p as ∧ sysModules ∉ as := by
  obtain ⟨d', A, q, e1, _⟩ := h.rp
  exact Rp.reads J hs t d' v A u p q (e1.trans e) r
end

/-! ### rules that speak of data -/
def rS (G : Cg) (o : D → D → Option D) : R2 := fun x y H Q => ∃ I d e r, Same I H ∧ Sv G I H d x ∧ Sv G I H e y ∧ o d e = some r ∧ Res G I H r Q
theorem v_rS {G : Cg} {o : D → D → Option D} : V2 G (rS G o) o := fun I H d1 d2 v1 v2 e Q t s1 s2 h q => ⟨I, d1, d2, e, t, s1, s2, h, q⟩
def rN (G : Cg) (o : List D → Option D) : List V → Hp → VK → Prop := fun xs H Q => ∃ I ds r, Same I H ∧ SvL G I H ds xs ∧ o ds = some r ∧ Res G I H r Q
theorem v_rN {G : Cg} {o : List D → Option D} : VN G (rN G o) o := fun I H ds vs e Q t s1 h q => ⟨I, ds, e, t, s1, h, q⟩
/-- of one argument -/
def o1 (o : D → Option D) : List D → Option D
  | [d] => o d
  | _ => none
theorem SvL.one {G : Cg} {I H : Hp} {d : D} {vs : List V} (h : SvL G I H [d] vs) : ∃ v, vs = [v] ∧ Sv G I H d v := by
  obtain ⟨v, r, rfl, q, e⟩ := h
  have : r = [] := e
  subst this
  exact ⟨v, rfl, q⟩
theorem o1_some {o : D → Option D} {ds : List D} {r : D} (h : o1 o ds = some r) : ∃ d, ds = [d] ∧ o d = some r := by
  unfold o1 at h
  split at h
  · exact ⟨_, rfl, h⟩
  · cases h

/-! ### ==, != -/
def eqP (neg : Bool) : D → D → Option D := fun d e => match pd d, pd e with
  | some p, some q => if SeqAt.shaped p = true ∧ SeqAt.shaped q = true then some (.bl (neg ^^ PyData.eqv p q)) else none
  | _, _ => none
theorem eqP_some {neg : Bool} {d e r : D} (h : eqP neg d e = some r) : ∃ p q, pd d = some p ∧ pd e = some q ∧ SeqAt.shaped p = true ∧ SeqAt.shaped q = true ∧ r = .bl (neg ^^ PyData.eqv p q) := by
  unfold eqP at h
  split at h
  · rename_i p q e1 e2
    split at h
    · rename_i c
      cases h
      exact ⟨p, q, e1, e2, c.1, c.2, rfl⟩
    · cases h
  · cases h
section
variable {X : Cx} {cls : Nat → Addr}
theorem x_eqP (hs : SmB X.base) (hu : X.A.units + 64 < cLine) : OpR X (compareOp .Eq) (rS (cgOf X cls) (eqP false)) := by
  intro pins s σ H x y v u Q J rx ry h
  obtain ⟨I, d, e, r, t, s1, s2, o, q⟩ := h
  obtain ⟨p, p', e1, e2, c1, c2, rfl⟩ := eqP_some o
  obtain ⟨as, r1, _⟩ := s1.reads J hs t e1 rx
  obtain ⟨bs, r2, _⟩ := s2.reads J hs t e2 ry
  exact SeqAt.compareEq_shaped r1 r2 c1 c2 hu ⟨.bl _, H, J, rfl, by simpa using q.old t (rp_bl _)⟩
theorem x_neP (hs : SmB X.base) (hu : X.A.units + 64 < cLine) : OpR X (compareOp .NotEq) (rS (cgOf X cls) (eqP true)) := by
  intro pins s σ H x y v u Q J rx ry h
  obtain ⟨I, d, e, r, t, s1, s2, o, q⟩ := h
  obtain ⟨p, p', e1, e2, c1, c2, rfl⟩ := eqP_some o
  obtain ⟨as, r1, _⟩ := s1.reads J hs t e1 rx
  obtain ⟨bs, r2, _⟩ := s2.reads J hs t e2 ry
  exact SeqAt.compareNe_shaped r1 r2 c1 c2 hu ⟨.bl _, H, J, rfl, by simpa using q.old t (rp_bl _)⟩
/-! ### in, not in: a list, a tuple -/
def inP (neg : Bool) : D → D → Option D := fun d e => match pd d, pd e with
  | some p, some (.list qs) => if SeqAt.shaped p = true ∧ PyData.canLayAll0 qs = true then some (.bl (neg ^^ qs.any fun z => PyData.eqv z p)) else none
  | some p, some (.tuple qs) => if SeqAt.shaped p = true ∧ PyData.canLayAll0 qs = true then some (.bl (neg ^^ qs.any fun z => PyData.eqv z p)) else none
  | _, _ => none
theorem inP_some {neg : Bool} {d e r : D} (h : inP neg d e = some r) : ∃ p qs, pd d = some p ∧ (pd e = some (.list qs) ∨ pd e = some (.tuple qs)) ∧ SeqAt.shaped p = true ∧ PyData.canLayAll0 qs = true ∧ r = .bl (neg ^^ qs.any fun z => PyData.eqv z p) := by
  unfold inP at h
  split at h
  · rename_i p q e1 e2
    split at h
    · rename_i c
      cases h
      exact ⟨p, q, e1, .inl e2, c.1, c.2, rfl⟩
    · cases h
  · rename_i p q e1 e2
    split at h
    · rename_i c
      cases h
      exact ⟨p, q, e1, .inr e2, c.1, c.2, rfl⟩
    · cases h
  · cases h
theorem room_inP {A : Around} {p : PyData} {qs : List PyData} (c : SeqAt.shaped p = true) (hu : A.units + 65 < cLine) : A.units + 1 + min (PyData.depthAll qs) p.depth < cLine := by
  have h1 := SeqAt.depth_of_shaped c
  have h2 : min (PyData.depthAll qs) p.depth ≤ p.depth := Nat.min_le_right _ _
  omega
theorem x_inP (hs : SmB X.base) (hu : X.A.units + 65 < cLine) : OpR X (compareOp .In) (rS (cgOf X cls) (inP false)) := by
  intro pins s σ H x y v u Q J rx ry h
  obtain ⟨I, d, e, r, t, s1, s2, o, q⟩ := h
  obtain ⟨p, qs, e1, e2, c1, c2, rfl⟩ := inP_some o
  obtain ⟨as, r1, _⟩ := s1.reads J hs t e1 rx
  have fin := (q.old t (rp_bl _))
  rw [Bool.false_xor] at fin
  rcases e2 with e2 | e2
  · obtain ⟨bs, r2, _⟩ := s2.reads J hs t e2 ry
    exact SeqAt.in_list_reads r2 r1 c2 (SeqAt.canLay_of_shaped c1) (room_inP c1 hu) ⟨.bl _, H, J, rfl, fin⟩
  · obtain ⟨bs, r2, _⟩ := s2.reads J hs t e2 ry
    exact SeqAt.in_tuple_reads r2 r1 c2 (SeqAt.canLay_of_shaped c1) (room_inP c1 hu) ⟨.bl _, H, J, rfl, fin⟩
theorem x_niP (hs : SmB X.base) (hu : X.A.units + 65 < cLine) : OpR X (compareOp .NotIn) (rS (cgOf X cls) (inP true)) := by
  intro pins s σ H x y v u Q J rx ry h
  obtain ⟨I, d, e, r, t, s1, s2, o, q⟩ := h
  obtain ⟨p, qs, e1, e2, c1, c2, rfl⟩ := inP_some o
  obtain ⟨as, r1, _⟩ := s1.reads J hs t e1 rx
  have fin := (q.old t (rp_bl _))
  rw [Bool.true_xor] at fin
  rcases e2 with e2 | e2
  · obtain ⟨bs, r2, _⟩ := s2.reads J hs t e2 ry
    exact SeqAt.notIn_list_reads r2 r1 c2 (SeqAt.canLay_of_shaped c1) (room_inP c1 hu) ⟨.bl _, H, J, rfl, fin⟩
  · obtain ⟨bs, r2, _⟩ := s2.reads J hs t e2 ry
    exact SeqAt.notIn_tuple_reads r2 r1 c2 (SeqAt.canLay_of_shaped c1) (room_inP c1 hu) ⟨.bl _, H, J, rfl, fin⟩
/-! ### repr -/
def repD : D → Option D := fun d => match pd d with
  | some p => if p.showable = true ∧ p.shown.length ≤ sizeLine ∧ p.depth ≤ 64 then some (.str p.shown) else none
  | none => none
theorem repD_some {d r : D} (h : repD d = some r) : ∃ p, pd d = some p ∧ p.showable = true ∧ p.shown.length ≤ sizeLine ∧ p.depth ≤ 64 ∧ r = .str p.shown := by
  unfold repD at h
  split at h
  · rename_i p e1
    split at h
    · rename_i c
      cases h
      exact ⟨p, e1, c.1, c.2.1, c.2.2, rfl⟩
    · cases h
  · cases h
theorem x_rep (hs : SmB X.base) (hg : X.A.guards = some []) (hu : X.A.units + 65 < cLine) : CallR X (.builtin "repr") (rN (cgOf X cls) (o1 repD)) := by
  intro pins s σ H xs us Q J r h
  obtain ⟨I, ds, r0, t, s1, o, q⟩ := h
  obtain ⟨d, rfl, o⟩ := o1_some o
  obtain ⟨v, rfl, s2⟩ := s1.one
  obtain ⟨p, e1, c1, c2, c3, rfl⟩ := repD_some o
  obtain ⟨u, rfl, rv⟩ := vals1 r
  obtain ⟨as, r1, ns⟩ := s2.reads J hs t e1 rv
  have fin : ∀ (h' : Heap) (u : Tok) (tk : Nat), (∀ b o, s.heap.get? b = some o → h'.get? b = some o) → EP X pins σ Q (.str p.shown u) { s with heap := h', toks := tk } := fun h' u tk hk =>
    ⟨.str p.shown, H, J.kept hk, ⟨_, rfl⟩, q.old t (rp_str _)⟩
  cases r1 with
  | none => exact PySem.P.repr_of_none (fin s.heap _ _ fun _ _ e => e)
  | bool b => exact PySem.P.repr_of_bool (by
      have := fin s.heap s.toks (s.toks + 1) fun _ _ e => e
      cases b <;> exact this)
  | int i tk => exact PySem.P.repr_of_int (by simpa [PyData.showable] using c1) (by
      have := fin s.heap s.toks (s.toks + 1) fun _ _ e => e
      exact this)
  | str x tk => exact PySem.P.repr_of_str (by
      have := fin s.heap s.toks (s.toks + 1) fun _ _ e => e
      exact this) c2
  | list h1 h2 h3 h4 => exact repr_of_reads' (.list h1 h2 h3 h4) c1 (fun _ => ns) hg (by omega) (fun _ _ e => e) fin c2
  | tuple h1 h2 h3 h4 => exact repr_of_reads' (.tuple h1 h2 h3 h4) c1 (fun _ => ns) hg (by omega) (fun _ _ e => e) fin c2
  | dict h1 h2 h3 h4 h5 => exact repr_of_reads' (.dict h1 h2 h3 h4 h5) c1 (fun _ => ns) hg (by omega) (fun _ _ e => e) fin c2
end
end Ev

/-! Ev10: sorted, len, list, tuple, int, min, max, all, any, isinstance, is, slices. -/
namespace Ev
open PySem PySem.Spec PyProof.Rows L2

/-! ### sorted -/
def encD (d : D) : PyData := (pd d).getD .none
def encV (b : D × V) : PyData := encD b.1
def likeAll (ps : List PyData) : Bool := ps.all fun a => ps.all fun b => PySem.W.alike a b
def tupB : PyData → Bool
  | .tuple (_ :: _) => true
  | _ => false
def flatB2 : PyData → Bool
  | .none => false
  | .tuple _ => false
  | _ => true
def ableB (ps : List PyData) : Bool := ps.all tupB || ps.all flatB2
def leD (a b : D) : Bool := PySem.W.dataLe false encD a b
def sortOk (xs : List D) : Bool := match pdL xs with
  | some ps => likeAll ps && (ableB ps && (decide (xs.length ≤ sizeLine) && ps.all fun p => decide (p.depth ≤ 64)))
  | none => false
def sortD : D → Option D
  | .lst _ xs => if sortOk xs = true then some (.lst true (xs.mergeSort leD)) else none
  | _ => none
theorem pdL_some : ∀ {xs : List D} {ps : List PyData}, pdL xs = some ps → ps = xs.map encD ∧ ∀ x ∈ xs, pd x = some (encD x)
  | [], ps, h => by
    simp only [pdL, Option.some.injEq] at h
    subst h
    exact ⟨rfl, fun _ m => nomatch m⟩
  | x :: xs, ps, h => by
    simp only [pdL] at h
    cases e1 : pd x with
    | none => rw [e1] at h; simp at h
    | some p =>
      cases e2 : pdL xs with
      | none => rw [e1, e2] at h; simp at h
      | some pr =>
        rw [e1, e2] at h
        simp only [Option.some.injEq] at h
        subst h
        obtain ⟨h1, h2⟩ := pdL_some e2
        have ex : encD x = p := by unfold encD; rw [e1]; rfl
        refine ⟨by rw [List.map_cons, h1, ex], fun y m => ?_⟩
        rcases List.mem_cons.mp m with rfl | m
        · rw [ex]; exact e1
        · exact h2 y m
theorem sortOk_some {xs : List D} (h : sortOk xs = true) : pdL xs = some (xs.map encD) ∧ (∀ x ∈ xs, pd x = some (encD x)) ∧ PySem.W.AllAlike (xs.map encD) ∧ PySem.W.Sortable (xs.map encD) ∧ xs.length ≤ sizeLine ∧ ∀ x ∈ xs, (encD x).depth ≤ 64 := by
  unfold sortOk at h
  split at h
  · rename_i ps e
    obtain ⟨rfl, h2⟩ := pdL_some e
    simp only [Bool.and_eq_true, decide_eq_true_eq] at h
    obtain ⟨h3, h4, h5, h6⟩ := h
    refine ⟨e, h2, fun d hd d' hd' => ?_, ?_, h5, fun x m => ?_⟩
    · exact List.all_eq_true.mp (List.all_eq_true.mp h3 d hd) d' hd'
    · unfold ableB at h4
      rcases Bool.or_eq_true_iff.mp h4 with h4 | h4
      · refine .inl fun d hd => ?_
        have := List.all_eq_true.mp h4 d hd
        unfold tupB at this
        split at this
        · exact ⟨_, _, rfl⟩
        · cases this
      · refine .inr fun d hd => ?_
        have := List.all_eq_true.mp h4 d hd
        unfold flatB2 at this
        split at this
        · cases this
        · cases this
        · rename_i a b
          exact ⟨a, b⟩
    · have := List.all_eq_true.mp h6 _ (List.mem_map_of_mem (f := encD) m)
      exact of_decide_eq_true this
  · cases h
section
variable {G : Cg} {I H : Hp}
theorem RpL.mem : ∀ {xs : List D} {vs : List V}, RpL G I H xs vs [] → ∀ b ∈ xs.zip vs, Rp G I H b.1 b.2 []
  | [], _, h, b, m => by simp at m
  | x :: xs, _, h, b, m => by
    obtain ⟨v, r, rfl, q, k⟩ := h.uncons0
    rw [List.zip_cons_cons] at m
    rcases List.mem_cons.mp m with rfl | m
    · exact q
    · exact k.mem b m
theorem RpL.of_pairs : ∀ {bs : List (D × V)}, (∀ b ∈ bs, Rp G I H b.1 b.2 []) → RpL G I H (bs.map (·.1)) (bs.map (·.2)) []
  | [], h => ⟨rfl, rfl⟩
  | b :: bs, h => .cons0 (h b List.mem_cons_self) (RpL.of_pairs fun c m => h c (List.mem_cons_of_mem _ m))
theorem zip_fst : ∀ {xs : List D} {vs : List V}, xs.length = vs.length → (xs.zip vs).map (·.1) = xs
  | [], _, _ => by simp
  | x :: xs, [], h => by simp at h
  | x :: xs, v :: vs, h => by rw [List.zip_cons_cons, List.map_cons, zip_fst (by simpa using h)]
theorem each_zip : ∀ {xs : List D} {vs : List V} {us : List Value}, xs.length = vs.length → Paired RelV vs us → PySem.W.EachIs (fun (u : Value) (b : D × V) => RelV b.2 u) us (xs.zip vs)
  | [], [], _, h, .nil => .nil
  | x :: xs, v :: vs, _, h, .cons r t => .cons r (each_zip (by simpa using h) t)
  | [], v :: vs, _, h, _ => by simp at h
theorem vals_each : ∀ {bs : List (D × V)} {us : List Value}, PySem.W.EachIs (fun (u : Value) (b : D × V) => RelV b.2 u) us bs → Paired RelV (bs.map (·.2)) us
  | _, _, .nil => .nil
  | _, _, .cons r t => .cons r (vals_each t)
end
section
variable {X : Cx} {cls : Nat → Addr}
theorem each_reads {pins : List (Addr × Obj)} {σ : L2.St} {I H : Hp} {s : Shared} (J : Inv X pins σ H s) (hs : SmB X.base) (t : Same I H) : ∀ {xs : List D} {vs : List V} {us : List Value}, RpL (cgOf X cls) I H xs vs [] → (∀ x ∈ xs, pd x = some (encD x)) → Paired RelV vs us →
    PySem.W.EachIs (fun (u : Value) (b : D × V) => ∃ as, Reads s.heap u (encV b) as) us (xs.zip vs)
  | [], _, _, h, _, r => by
    rw [h.1] at r
    cases r
    exact .nil
  | x :: xs, _, _, h, e, r => by
    obtain ⟨v, vr, rfl, q, k⟩ := h.uncons0
    cases r with
    | cons r1 r2 =>
      obtain ⟨as, h1, _⟩ := Rp.reads J hs t x v [] _ _ q (e x List.mem_cons_self) r1
      exact .cons ⟨as, h1⟩ (each_reads J hs t k (fun y m => e y (List.mem_cons_of_mem _ m)) r2)
theorem x_sort (hs : SmB X.base) (hu : X.A.units + 70 < cLine) : CallR X (.builtin "sorted") (rN (cgOf X cls) (o1 sortD)) := by
  intro pins s σ H xs us Q J r h
  obtain ⟨I, ds, r0, t, s1, o, q⟩ := h
  obtain ⟨d, rfl, oo⟩ := o1_some o
  obtain ⟨v, rfl, s2⟩ := s1.one
  unfold sortD at oo
  split at oo
  · rename_i ow ys
    split at oo
    · rename_i ok
      cases oo
      obtain ⟨h1, h2, h3, h4, h5, h6⟩ := sortOk_some ok
      obtain ⟨a, vs, rfl, ha, rl⟩ := s2
      obtain ⟨its, rv, hl, _⟩ := J.list (SqL.of ha)
      rw [Vals.ref1 r]
      have hlen := rl.length
      have em : (ys.zip vs).map encV = ys.map encD := by
        have := zip_fst hlen
        conv => rhs; rw [← this]
        rw [List.map_map]
        rfl
      have zl : (ys.zip vs).length = ys.length := by rw [List.length_zip, ← hlen, Nat.min_self]
      refine PySem.W.sorted_data (enc := encV) (R := fun u b => RelV b.2 u) hl.isList (each_zip hlen rv) (each_reads J hs t rl h2 rv) (by rw [em]; exact h3) (by rw [em]; exact h4) (by rw [zl]; exact h5) (fun b hb => ?_) fun out ho eo => ?_
      · have := h6 b.1 (List.of_mem_zip hb).1
        show X.A.units + 2 + (encD b.1).depth < cLine
        omega
      · obtain ⟨ep, he'⟩ := PyProof.Rows.sortedAll_at s.heap its out.toArray
        have hp : ((ys.zip vs).mergeSort (PySem.W.dataLe false encV)).Perm (ys.zip vs) := List.mergeSort_perm _ _
        have rp' : RpL (cgOf X cls) I H (((ys.zip vs).mergeSort (PySem.W.dataLe false encV)).map (·.1)) (((ys.zip vs).mergeSort (PySem.W.dataLe false encV)).map (·.2)) [] :=
          .of_pairs fun b m => rl.mem b (hp.mem_iff.mp m)
        have e1 : ((ys.zip vs).mergeSort (PySem.W.dataLe false encV)).map (·.1) = ys.mergeSort leD := by
          have := List.map_mergeSort (f := fun b : D × V => b.1) (r := PySem.W.dataLe false encV) (s := leD) (l := ys.zip vs) (fun _ _ _ _ => rfl)
          rw [this, zip_fst hlen]
        rw [e1] at rp'
        have hn : H (s.heap.objs.size + 1) = none := J.hok.fresh (Nat.le_succ _)
        have fin := q.new t hn (Rp.newL rp' hn)
        have hl2 : (((ys.zip vs).mergeSort (PySem.W.dataLe false encV)).map (·.2)).length ≤ sizeLine := by rw [List.length_map, hp.length_eq, zl]; exact h5
        exact ⟨.ref _, upd H (s.heap.objs.size + 1) (.lst (((ys.zip vs).mergeSort (PySem.W.dataLe false encV)).map (·.2))), J.laid (t' := s.toks) (fun _ _ => PyProof.Rows.sortedAll_old) (Nat.le_succ _) ⟨hl2, out, ep, vals_each eo, he'⟩, rfl, fin⟩
    · cases oo
  · cases oo

/-! ### len, list, tuple, int -/
def lenD : D → Option D
  | .lst _ xs => some (.int xs.length)
  | .tup xs => some (.int xs.length)
  | .str z => if z.length ≤ sizeLine then some (.int z.length) else none
  | _ => none
def lstD : D → Option D
  | .lst _ xs => some (.lst true xs)
  | .tup xs => some (.lst true xs)
  | _ => none
def tupD : D → Option D
  | .lst _ xs => some (.tup xs)
  | .tup xs => some (.tup xs)
  | _ => none
def intD : D → Option D
  | .int i => some (.int i)
  | .bl k => some (.int (if k then 1 else 0))
  | _ => none
theorem v_o1 {G : Cg} {r : List V → Hp → VK → Prop} {o : D → Option D} (h : ∀ I H d v e Q, Same I H → Sv G I H d v → o d = some e → Res G I H e Q → r [v] H Q) : VN G r (o1 o) := by
  intro I H ds vs e Q t s1 oo q
  obtain ⟨d, rfl, oo⟩ := o1_some oo
  obtain ⟨v, rfl, s2⟩ := s1.one
  exact h I H d v e Q t s2 oo q
def rLen (K : PySem.W.Frag) : List V → Hp → VK → Prop := fun xs H Q => (∃ p ys, xs = [.ref p] ∧ (SqL K H p ys ∨ SqT K H p ys) ∧ Q (.int ys.length) H) ∨ ∃ z, xs = [.str z] ∧ z.length ≤ sizeLine ∧ Q (.int z.length) H
theorem x_len : CallR X (.builtin "len") (rLen X.K) := CallR.or call_len_seq call_len_str
theorem v_len {G : Cg} : VN G (rLen G.K) (o1 lenD) := v_o1 fun I H d v e Q t s o q => by
  unfold lenD at o
  split at o
  · cases o
    obtain ⟨a, vs, rfl, ha, ra⟩ := s
    exact .inl ⟨a, vs, rfl, .inl (SqL.of ha), by rw [← ra.length]; exact q.old t (rp_int _)⟩
  · cases o
    obtain ⟨a, vs, rfl, ha, ra⟩ := s.tup
    exact .inl ⟨a, vs, rfl, .inr (SqT.sub ha t), by rw [← ra.length]; exact q.old t (rp_int _)⟩
  · rename_i z
    split at o
    · rename_i hz
      cases o
      exact .inr ⟨z, by rw [s.str], hz, q.old t (rp_int _)⟩
    · cases o
  · cases o
theorem v_list {G : Cg} : VN G (fun xs H Q => ∃ p ys, xs = [.ref p] ∧ (SqL G.K H p ys ∨ SqT G.K H p ys) ∧ ∀ l, H l = none → Q (.ref l) (upd H l (.lst ys))) (o1 lstD) := v_o1 fun I H d v e Q t s o q => by
  unfold lstD at o
  split at o
  · cases o
    obtain ⟨a, vs, rfl, ha, ra⟩ := s
    exact ⟨a, vs, rfl, .inl (SqL.of ha), fun l hl => q.new t hl (Rp.newL ra hl)⟩
  · cases o
    obtain ⟨a, vs, rfl, ha, ra⟩ := s.tup
    exact ⟨a, vs, rfl, .inr (SqT.sub ha t), fun l hl => q.new t hl (Rp.newL ra hl)⟩
  · cases o
theorem v_tuple {G : Cg} : VN G (fun xs H Q => ∃ p ys, xs = [.ref p] ∧ ((SqL G.K H p ys ∧ ∀ l, H l = none → Q (.ref l) (upd H l (.tup ys))) ∨ (SqT G.K H p ys ∧ Q (.ref p) H))) (o1 tupD) := v_o1 fun I H d v e Q t s o q => by
  unfold tupD at o
  split at o
  · cases o
    obtain ⟨a, vs, rfl, ha, ra⟩ := s
    exact ⟨a, vs, rfl, .inl ⟨SqL.of ha, fun l hl => q.newF t hl (Rp.newT ra t hl)⟩⟩
  · cases o
    obtain ⟨a, vs, rfl, ha, ra⟩ := s.tup
    exact ⟨a, vs, rfl, .inr ⟨SqT.sub ha t, q.old t ⟨a, vs, rfl, ha, ra⟩⟩⟩
  · cases o
theorem v_int {G : Cg} : VN G (fun xs H Q => (∃ i, xs = [.int i] ∧ Q (.int i) H) ∨ ∃ k, xs = [.bl k] ∧ Q (.int (if k then 1 else 0)) H) (o1 intD) := v_o1 fun I H d v e Q t s o q => by
  unfold intD at o
  split at o
  · cases o
    exact .inl ⟨_, by rw [s.int], q.old t (rp_int _)⟩
  · cases o
    exact .inr ⟨_, by rw [s.bl], q.old t (rp_int _)⟩
  · cases o
/-! ### all, any of bools -/
def bls : List D → Option (List Bool)
  | [] => some []
  | .bl b :: xs => (bls xs).map (b :: ·)
  | _ :: _ => none
theorem bls_some {G : Cg} {I H : Hp} : ∀ {xs : List D} {bs : List Bool} {vs : List V}, bls xs = some bs → RpL G I H xs vs [] → vs = bs.map V.bl
  | [], bs, vs, e, r => by
    simp only [bls, Option.some.injEq] at e
    subst e
    exact r.1
  | .bl b :: xs, bs, vs, e, r => by
    simp only [bls, Option.map_eq_some_iff] at e
    obtain ⟨bs', e, rfl⟩ := e
    obtain ⟨v, vr, rfl, q, k⟩ := r.uncons0
    simp only [Rp] at q
    rw [List.map_cons, q.1, bls_some e k]
  | .non :: _, bs, vs, e, r => by simp [bls] at e
  | .int _ :: _, bs, vs, e, r => by simp [bls] at e
  | .str _ :: _, bs, vs, e, r => by simp [bls] at e
  | .lst _ _ :: _, bs, vs, e, r => by simp [bls] at e
  | .tup _ :: _, bs, vs, e, r => by simp [bls] at e
  | .dic _ _ :: _, bs, vs, e, r => by simp [bls] at e
  | .ins _ _ _ :: _, bs, vs, e, r => by simp [bls] at e
  | .scr _ :: _, bs, vs, e, r => by simp [bls] at e
  | .exc _ _ :: _, bs, vs, e, r => by simp [bls] at e
def allD : D → Option D
  | .lst _ xs => match bls xs with
    | some bs => some (.bl (bs.all id))
    | none => none
  | _ => none
def anyD : D → Option D
  | .lst _ xs => match bls xs with
    | some bs => some (.bl (bs.any id))
    | none => none
  | _ => none
theorem v_all {G : Cg} : VN G (rAll G.K) (o1 allD) := v_o1 fun I H d v e Q t s o q => by
  unfold allD at o
  split at o
  · split at o
    · rename_i bs eb
      cases o
      obtain ⟨a, vs, rfl, ha, ra⟩ := s
      exact ⟨a, bs, rfl, by rw [← bls_some eb ra]; exact SqL.of ha, q.old t (rp_bl _)⟩
    · cases o
  · cases o
theorem v_any {G : Cg} : VN G (rAny G.K) (o1 anyD) := v_o1 fun I H d v e Q t s o q => by
  unfold anyD at o
  split at o
  · split at o
    · rename_i bs eb
      cases o
      obtain ⟨a, vs, rfl, ha, ra⟩ := s
      exact ⟨a, bs, rfl, by rw [← bls_some eb ra]; exact SqL.of ha, q.old t (rp_bl _)⟩
    · cases o
  · cases o
/-! ### min, max -/
def intsD : List D → Option (List Int)
  | [] => some []
  | .int b :: xs => (intsD xs).map (b :: ·)
  | _ :: _ => none
theorem ints_pd : ∀ {xs : List D} {ns : List Int}, intsD xs = some ns → xs = ns.map D.int ∧ pdL xs = some (ns.map PyData.int)
  | [], ns, e => by
    simp only [intsD, Option.some.injEq] at e
    subst e
    exact ⟨rfl, rfl⟩
  | .int b :: xs, ns, e => by
    simp only [intsD, Option.map_eq_some_iff] at e
    obtain ⟨bs', e, rfl⟩ := e
    obtain ⟨h1, h2⟩ := ints_pd e
    exact ⟨by rw [h1]; rfl, by simp only [pdL, pd, h2, List.map_cons]⟩
  | .non :: _, ns, e => by simp [intsD] at e
  | .bl _ :: _, ns, e => by simp [intsD] at e
  | .str _ :: _, ns, e => by simp [intsD] at e
  | .lst _ _ :: _, ns, e => by simp [intsD] at e
  | .tup _ :: _, ns, e => by simp [intsD] at e
  | .dic _ _ :: _, ns, e => by simp [intsD] at e
  | .ins _ _ _ :: _, ns, e => by simp [intsD] at e
  | .scr _ :: _, ns, e => by simp [intsD] at e
  | .exc _ _ :: _, ns, e => by simp [intsD] at e
def mmD (f : Int → Int → Int) : List D → Option D
  | [.int i, .int j] => some (.int (f i j))
  | [.lst _ xs] => match intsD xs with
    | some (n :: ns) => some (.int (ns.foldl f n))
    | _ => none
  | [.tup xs] => match intsD xs with
    | some (n :: ns) => some (.int (ns.foldl f n))
    | _ => none
  | _ => none
theorem alike_int (ns : List Int) : PySem.W.AlikeAll (ns.map PyData.int) := by
  refine ⟨fun x hx y hy => ?_, fun x hx => ?_⟩
  · obtain ⟨i, _, rfl⟩ := List.mem_map.mp hx
    obtain ⟨j, _, rfl⟩ := List.mem_map.mp hy
    simp [PySem.W.alike]
  · obtain ⟨i, _, rfl⟩ := List.mem_map.mp hx
    simp
theorem SvL.two {G : Cg} {I H : Hp} {d e : D} {vs : List V} (h : SvL G I H [d, e] vs) : ∃ v w, vs = [v, w] ∧ Sv G I H d v ∧ Sv G I H e w := by
  obtain ⟨v, r, rfl, q, k⟩ := h
  obtain ⟨w, rfl, q2⟩ := k.one
  exact ⟨v, w, rfl, q, q2⟩
theorem depth_all_ints (ns : List Int) : PyData.depthAll (ns.map PyData.int) = 0 := PySem.W.depth_ints ns
theorem x_max (hs : SmB X.base) (hc : X.calm = true) (hu : X.A.units + 70 < cLine) : CallR X (.builtin "max") (rN (cgOf X cls) (mmD max)) := by
  intro pins s σ H xs us Q J r h
  obtain ⟨I, ds, r0, t, s1, o, q⟩ := h
  unfold mmD at o
  split at o
  · rename_i i j
    cases o
    obtain ⟨v, w, rfl, q1, q2⟩ := s1.two
    refine call_max2 hc pins s σ H _ us Q J r ⟨i, j, by rw [q1.int, q2.int], ?_⟩
    have : (if j > i then j else i) = max i j := by omega
    rw [this]
    exact q.old t (rp_int _)
  · rename_i ow ys
    split at o
    · rename_i n ns en
      cases o
      obtain ⟨v, rfl, s2⟩ := s1.one
      obtain ⟨a, vs, rfl, ha, ra⟩ := s2
      obtain ⟨its, rv, hl, _⟩ := J.list (SqL.of ha)
      rw [Vals.ref1 r]
      obtain ⟨_, ep⟩ := ints_pd en
      obtain ⟨as, hr, _⟩ := RpL.reads J hs t ys vs [] its _ ra ep rv
      rw [List.map_cons] at hr
      refine PySem.W.max_list_data (J.ok.hd hc) hl.isList (vs := its.toArray) (by simpa using hr) (alike_int (n :: ns)) (by
        have := depth_all_ints (n :: ns)
        rw [List.map_cons] at this
        rw [this]; omega) fun i v h' tk bs _ hv hk => ?_
      rw [PySem.W.maxD_ints] at hv
      cases hv with
      | int _ tk' => exact ⟨.int _, H, J.kept hk, ⟨_, rfl⟩, q.old t (rp_int _)⟩
    · cases o
  · rename_i ys
    split at o
    · rename_i n ns en
      cases o
      obtain ⟨v, rfl, s2⟩ := s1.one
      obtain ⟨a, vs, rfl, ha, ra⟩ := s2.tup
      obtain ⟨its, rv, hl, _⟩ := J.tuple (SqT.sub ha t)
      rw [Vals.ref1 r]
      obtain ⟨_, ep⟩ := ints_pd en
      obtain ⟨as, hr, _⟩ := RpL.reads J hs t ys vs [] its _ ra ep rv
      rw [List.map_cons] at hr
      refine PySem.W.max_tuple_data (J.ok.hd hc) hl (vs := its.toArray) (by simpa using hr) (alike_int (n :: ns)) (by
        have := depth_all_ints (n :: ns)
        rw [List.map_cons] at this
        rw [this]; omega) fun i v h' tk bs _ hv hk => ?_
      rw [PySem.W.maxD_ints] at hv
      cases hv with
      | int _ tk' => exact ⟨.int _, H, J.kept hk, ⟨_, rfl⟩, q.old t (rp_int _)⟩
    · cases o
  · cases o
theorem x_min (hs : SmB X.base) (hc : X.calm = true) (hu : X.A.units + 70 < cLine) : CallR X (.builtin "min") (rN (cgOf X cls) (mmD min)) := by
  intro pins s σ H xs us Q J r h
  obtain ⟨I, ds, r0, t, s1, o, q⟩ := h
  unfold mmD at o
  split at o
  · rename_i i j
    cases o
    obtain ⟨v, w, rfl, q1, q2⟩ := s1.two
    refine call_min2 hc pins s σ H _ us Q J r ⟨i, j, by rw [q1.int, q2.int], ?_⟩
    have : (if j < i then j else i) = min i j := by omega
    rw [this]
    exact q.old t (rp_int _)
  · rename_i ow ys
    split at o
    · rename_i n ns en
      cases o
      obtain ⟨v, rfl, s2⟩ := s1.one
      obtain ⟨a, vs, rfl, ha, ra⟩ := s2
      obtain ⟨its, rv, hl, _⟩ := J.list (SqL.of ha)
      rw [Vals.ref1 r]
      obtain ⟨_, ep⟩ := ints_pd en
      obtain ⟨as, hr, _⟩ := RpL.reads J hs t ys vs [] its _ ra ep rv
      rw [List.map_cons] at hr
      refine PySem.W.min_list_data (J.ok.hd hc) hl.isList (vs := its.toArray) (by simpa using hr) (alike_int (n :: ns)) (by
        have := depth_all_ints (n :: ns)
        rw [List.map_cons] at this
        rw [this]; omega) fun i v h' tk bs _ hv hk => ?_
      rw [PySem.W.minD_ints] at hv
      cases hv with
      | int _ tk' => exact ⟨.int _, H, J.kept hk, ⟨_, rfl⟩, q.old t (rp_int _)⟩
    · cases o
  · rename_i ys
    split at o
    · rename_i n ns en
      cases o
      obtain ⟨v, rfl, s2⟩ := s1.one
      obtain ⟨a, vs, rfl, ha, ra⟩ := s2.tup
      obtain ⟨its, rv, hl, _⟩ := J.tuple (SqT.sub ha t)
      rw [Vals.ref1 r]
      obtain ⟨_, ep⟩ := ints_pd en
      obtain ⟨as, hr, _⟩ := RpL.reads J hs t ys vs [] its _ ra ep rv
      rw [List.map_cons] at hr
      refine PySem.W.min_tuple_data (J.ok.hd hc) hl (vs := its.toArray) (by simpa using hr) (alike_int (n :: ns)) (by
        have := depth_all_ints (n :: ns)
        rw [List.map_cons] at this
        rw [this]; omega) fun i v h' tk bs _ hv hk => ?_
      rw [PySem.W.minD_ints] at hv
      cases hv with
      | int _ tk' => exact ⟨.int _, H, J.kept hk, ⟨_, rfl⟩, q.old t (rp_int _)⟩
    · cases o
  · cases o
/-! ### is, is not of truth values -/
def isB (neg : Bool) : D → D → Option D
  | .bl a, .bl b => some (.bl (neg ^^ (a == b)))
  | _, _ => none
theorem v_isB {G : Cg} : V2 G rIsB (isB false) := by
  intro I H d1 d2 v1 v2 e Q t s1 s2 o q
  unfold isB at o
  split at o
  · rename_i a b
    cases o
    refine ⟨a, b, s1.bl, s2.bl, ?_⟩
    have := q.old t (rp_bl _)
    rwa [Bool.false_xor] at this
  · cases o
theorem v_ntB {G : Cg} : V2 G rNotB (isB true) := by
  intro I H d1 d2 v1 v2 e Q t s1 s2 o q
  unfold isB at o
  split at o
  · rename_i a b
    cases o
    refine ⟨a, b, s1.bl, s2.bl, ?_⟩
    have := q.old t (rp_bl _)
    rwa [Bool.true_xor] at this
  · cases o
end
end Ev

/-! Ev11: isinstance, slices, ranges, enumerate. -/
namespace Ev
open PySem PySem.Spec PyProof.Rows L2

section
variable {I H I1 H1 : Hp} {F F1 : List Addr}
/-- an owned object is written -/
theorem Go.upd (g : Go I H F I1 H1 F1) {a : Addr} {o : HO} (m : a ∈ F1) : Go I H F I1 (upd H1 a o) F1 := by
  refine ⟨g.sub, fun b u e => ?_, fun b u e n => ?_, g.frz, g.own, g.off, g.nd⟩
  · by_cases q : b = a
    · subst q
      rw [g.off b m] at e
      cases e
    · rw [upd_ne q]; exact g.top b u e
  · by_cases q : b = a
    · subst q
      rcases g.own b m with z | z
      · exact absurd z n
      · rw [z] at e; cases e
    · rw [upd_ne q]; exact g.keep b u e n
end

/-! ### isinstance, a built-in type -/
inductive Ty where
  | int | bool | str | tuple | list | dict
def Ty.name : Ty → String
  | .int => "int"
  | .bool => "bool"
  | .str => "str"
  | .tuple => "tuple"
  | .list => "list"
  | .dict => "dict"
def tyN : D → Option String
  | .non => some "NoneType"
  | .bl _ => some "bool"
  | .int _ => some "int"
  | .str _ => some "str"
  | .lst _ _ => some "list"
  | .tup _ => some "tuple"
  | .dic _ _ => some "dict"
  | .ins _ _ _ => none
  | .scr _ => some "list"
  | .exc _ _ => none
def isTy : Ty → D → Option Bool
  | _, .ins _ _ _ => none
  | _, .exc _ _ => none
  | .int, .int _ => some true
  | .int, .bl _ => some true
  | .bool, .bl _ => some true
  | .str, .str _ => some true
  | .tuple, .tup _ => some true
  | .list, .lst _ _ => some true
  | .list, .scr _ => some true
  | .dict, .dic _ _ => some true
  | _, _ => some false
theorem isTy_kit {t : Ty} {d : D} {b : Bool} (h : isTy t d = some b) : ∃ n, tyN d = some n ∧ kitB n t.name = some b := by
  cases d with
  | ins o c fs => cases t <;> cases h
  | exc c l => cases t <;> cases h
  | non => cases t <;> (cases h; exact ⟨_, rfl, by decide +kernel⟩)
  | bl x => cases t <;> (cases h; exact ⟨_, rfl, by decide +kernel⟩)
  | int x => cases t <;> (cases h; exact ⟨_, rfl, by decide +kernel⟩)
  | str x => cases t <;> (cases h; exact ⟨_, rfl, by decide +kernel⟩)
  | lst o x => cases t <;> (cases h; exact ⟨_, rfl, by decide +kernel⟩)
  | tup x => cases t <;> (cases h; exact ⟨_, rfl, by decide +kernel⟩)
  | dic o x => cases t <;> (cases h; exact ⟨_, rfl, by decide +kernel⟩)
  | scr x => cases t <;> (cases h; exact ⟨_, rfl, by decide +kernel⟩)
section
variable {X : Cx} {cls : Nat → Addr} {pins : List (Addr × Obj)} {σ : L2.St} {I H : Hp} {s : Shared}
theorem Sv.kit (J : Inv X pins σ H s) (t : Same I H) {d : D} {v : V} {u : Value} {n : String} (h : Sv (cgOf X cls) I H d v) (r : RelV v u) (e : tyN d = some n) :
    ∃ P : Heap → Prop, PySem.W.KitX X.K u (.type n) P ∧ P s.heap ∧ u ≠ .builtin "__main__.__loader__#opaque" := by
  cases d with
  | non => cases e; rw [h.non] at r; cases r; exact ⟨_, PySem.W.kitx_none, True.intro, fun z => nomatch z⟩
  | bl b => cases e; rw [h.bl] at r; cases r; exact ⟨_, PySem.W.kitx_bool, True.intro, fun z => nomatch z⟩
  | int b => cases e; rw [h.int] at r; obtain ⟨t, rfl⟩ := r; exact ⟨_, PySem.W.kitx_int, True.intro, fun z => nomatch z⟩
  | str b => cases e; rw [h.str] at r; obtain ⟨t, rfl⟩ := r; exact ⟨_, PySem.W.kitx_str, True.intro, fun z => nomatch z⟩
  | lst o xs =>
    cases e
    obtain ⟨a, vs, rfl, ha, _⟩ := h
    cases r
    obtain ⟨_, _, n, _, h1⟩ := (show ObjOk X.prog X.w H s.heap a (.lst vs) from J.hok a _ ha)
    exact ⟨_, PySem.W.kitx_list, ⟨_, h1, rfl⟩, fun z => nomatch z⟩
  | tup xs =>
    cases e
    obtain ⟨a, vs, rfl, ha, _⟩ := h.tup
    cases r
    obtain ⟨its, rv, ⟨ob, ho, hc, _⟩, _⟩ := J.tuple (SqT.sub ha t)
    exact ⟨_, PySem.W.kitx_tuple, ⟨ob, ho, hc⟩, fun z => nomatch z⟩
  | dic o xs =>
    cases e
    obtain ⟨a, ob, es, rfl, ha, z, _⟩ := h
    cases r
    exact ⟨_, PySem.W.kitx_dict, ⟨ob, exO_get (J.hok a _ ha), z.ex.1⟩, fun z => nomatch z⟩
  | ins o c fs => cases e
  | exc c l => cases e
  | scr ns =>
    cases e
    simp only [Sv, Rp] at h
    obtain ⟨_, a, rfl, ha⟩ := h
    cases r
    obtain ⟨its, rv, ⟨ob, m, ho, hc, _⟩, _⟩ := J.list (SqL.sub ha t)
    exact ⟨_, PySem.W.kitx_list, ⟨ob, ho, hc⟩, fun z => nomatch z⟩
end
def isiD (t : Ty) (d : D) : Option D := (isTy t d).map .bl
def rIsT (G : Cg) (t : Ty) : List V → Hp → VK → Prop := fun xs H Q => ∃ I d v r, xs = [v, .ty t.name] ∧ Same I H ∧ Sv G I H d v ∧ isiD t d = some r ∧ Res G I H r Q
section
variable {X : Cx} {cls : Nat → Addr} {e : Expr} {m : M} {p q : Bool} {x : Str} {np p1 pos : Pos}
theorem call_isT (t : Ty) : CallR X (.builtin "isinstance") (rIsT (cgOf X cls) t) := by
  intro pins s σ H xs us Q J r h
  obtain ⟨I, d, v, r0, rfl, tt, sv, o, q⟩ := h
  unfold isiD at o
  cases eb : isTy t d with
  | none => rw [eb] at o; cases o
  | some b =>
    rw [eb] at o
    cases o
    obtain ⟨u1, u2, rfl, r1, r2⟩ := vals2 r
    obtain ⟨n, en, ek⟩ := isTy_kit eb
    obtain ⟨P, Z, pz, hx⟩ := sv.kit J tt r1 en
    cases (show u2 = Value.type t.name from r2)
    exact PySem.W.kia_one Z J.kIn pz (kit_ty ek) hx fun tk => ⟨.bl b, H, J.tok tk, rfl, q.old tt (rp_bl _)⟩
theorem de_isi (t : Ty) (hg : Gl X "isinstance") (hm : X.mg "isinstance" = none) (ha : DA X cls e p q m) (hgt : Gl X x) (hmt : X.mg x = none) (hv : bootBuiltins x = some (.type t.name))
    (hn : x ≠ "__name__" := by decide) (hd : (x == ("__debug__" : Str)) = false := by decide) (hs : starEach [e, .Name x np] X.env = (false, eval e X.env) :: starEach [.Name x np] X.env := by rfl) (hpl : (backTo pos (starEach [.Name x np] X.env)).any (·.1) = false := by rfl) :
    DE X cls (.Call (.Name "isinstance" p1) [e, .Name x np] [] pos) q (eOp1 (isiD t) m) := by
  refine ⟨PE.imp (pe_callB (call_isT (cls := cls) t) hg hm PyProof.Rows.Boot.«isinstance» (pa_cons ha.pe (pa_cons (pe_bltn (v := .ty t.name) hgt hmt hv rfl hn hd) pa_nil) hs) (by decide) (by decide) hs hpl) fun σ H Q h => ?_⟩
  have h := un_of (p := p) (r := fun v H Q => rIsT (cgOf X cls) t [v, .ty t.name] H Q) (fun I H d v r Q tt sv o q => ⟨I, d, v, r, rfl, tt, sv, o, q⟩) h
  exact h
end

/-! ### slices -/
abbrev Mo := Env → Option (Option Int × Env)
def oNo : Mo := fun ρ => some (none, ρ)
def oSm (m : M) : Mo := fun ρ => match m ρ with
  | some (.int i, ρ') => some (some i, ρ')
  | _ => none
def tO (G : Cg) (q : Bool) (m : Mo) : TO := fun σ H Q => ∃ I F ρ o ρ', Fit G I H ρ σ F ∧ m ρ = some (o, ρ') ∧ ∀ H' I' F', Go I H F I' H' F' → (q = true → Same H H') → EnvR G I' H' ρ' σ F' → Q o H'
structure DO (X : Cx) (cls : Nat → Addr) (e : Option Expr) (q : Bool) (m : Mo) : Prop where
  po : PO X e (tO (cgOf X cls) q m)
theorem PO.imp {X : Cx} {e : Option Expr} {t t' : TO} (h : PO X e t) (k : ∀ σ H Q, t' σ H Q → t σ H Q) : PO X e t' := ⟨fun pins s σ H Q I q => h.run pins s σ H Q I (k σ H Q q)⟩
def cutX {α : Type} (xs : List α) (lo hi : Option Int) : List α := (xs.drop (HT.sIx xs.length 0 lo)).take (HT.sIx xs.length xs.length hi - HT.sIx xs.length 0 lo)
def slD (lo hi : Option Int) : D → Option D
  | .lst _ xs => some (.lst true (cutX xs lo hi))
  | .tup xs => some (.tup (cutX xs lo hi))
  | .str z => if z.length ≤ sizeLine then some (.str (cutS z lo hi)) else none
  | .scr ns => some (.lst true ((cutX ns lo hi).map .int))
  | _ => none
def eSl (m : M) (lo hi : Mo) : M := fun ρ => match m ρ with
  | some (d, ρ1) => match lo ρ1 with
    | some (l, ρ2) => match hi ρ2 with
      | some (u, ρ3) => match slD l u d with
        | some r => some (r, ρ3)
        | none => none
      | none => none
    | none => none
  | none => none
section
variable {X : Cx} {cls : Nat → Addr} {e : Expr} {lo hi : Option Expr} {m : M} {ml mh : Mo} {p q q1 q2 : Bool} {pos p2 : Pos}
theorem do_no : DO X cls none true oNo := by
  refine ⟨PO.imp po_none fun σ H Q ⟨I, F, ρ, o, ρ', f, e, k⟩ => ?_⟩
  cases e
  exact k H I F f.go (fun _ => Same.refl _) f.env
theorem do_sm (h : DE X cls e q m) : DO X cls (some e) q (oSm m) := by
  refine ⟨PO.imp (po_some h.pe) fun σ H Q ⟨I, F, ρ, o, ρ', f, e, k⟩ => ?_⟩
  unfold oSm at e
  split at e
  · rename_i i ρ1 em
    cases e
    refine ⟨I, F, ρ, .int i, ρ', f, em, fun v H' I' A F' g s n r => ?_⟩
    simp only [Rp] at r
    obtain ⟨rfl, rfl⟩ := r
    exact ⟨i, rfl, k H' I' F' g s n⟩
  · cases e
theorem RpL.cut {G : Cg} {I H : Hp} {xs : List D} {vs : List V} (lo hi : Option Int) (h : RpL G I H xs vs []) : RpL G I H (cutX xs lo hi) (cutV vs lo hi) [] := by
  unfold cutX cutV
  rw [← h.length]
  exact (h.drop _).take _
theorem cut_map {α β : Type} (f : α → β) (xs : List α) (lo hi : Option Int) : cutX (xs.map f) lo hi = (cutX xs lo hi).map f := by
  unfold cutX
  rw [List.length_map, List.map_take, List.map_drop]
theorem RpL.ints {G : Cg} {I H : Hp} : ∀ ns : List Int, RpL G I H (ns.map .int) (ns.map .int) []
  | [] => ⟨rfl, rfl⟩
  | n :: ns => .cons0 (rp_int n) (RpL.ints ns)
theorem cut_whole {α : Type} {xs : List α} {lo hi : Option Int} (h : HT.sIx xs.length 0 lo = 0 ∧ HT.sIx xs.length xs.length hi = xs.length) : cutX xs lo hi = xs := by
  unfold cutX
  rw [h.1, h.2, List.drop_zero, Nat.sub_zero, List.take_length]
theorem de_slice (ha : DA X cls e p q m) (hl : DO X cls lo q1 ml) (hh : DO X cls hi q2 mh) (hp : (p || (q1 && q2)) = true := by rfl) : DE X cls (.Subscript e (.Slice lo hi none p2) pos) (q && (q1 && q2)) (eSl m ml mh) := by
  refine ⟨PE.imp (pe_slice (SlR.or sl_list (SlR.or sl_tupA sl_str)) ha.pe hl.po hh.po) fun σ H Q ⟨I, F, ρ, d, ρ', f, e, k⟩ => ?_⟩
  unfold eSl at e
  split at e
  · rename_i d0 ρ1 em
    split at e
    · rename_i l ρ2 el
      split at e
      · rename_i u ρ3 eu
        split at e
        · rename_i r es
          cases e
          refine ⟨I, F, ρ, d0, ρ1, f, em, fun v H1 I1 F1 g1 s1 n1 sv pv => ⟨I1, F1, ρ1, l, ρ2, .of g1 n1, el, fun H2 I2 F2 g2 s2 n2 => ⟨I2, F2, ρ2, u, ρ', .of g2 n2, eu, fun H3 I3 F3 g3 s3 n3 => ?_⟩⟩⟩
          have sv' : Sv (cgOf X cls) I3 H3 d0 v := by
            cases p with
            | true => exact Rp.sv g3.top (((pv rfl).up (H1 := H2) g2.sub).up g3.sub) (ha.pl _ _ _ em)
            | false =>
              have hp' : q1 = true ∧ q2 = true := by simpa using hp
              exact (sv.stay g2.sub (s2 hp'.1)).stay g3.sub (s3 hp'.2)
          have g := (g1.then g2).then g3
          have sm : (q && (q1 && q2)) = true → Same H H3 := fun z => by
            simp only [Bool.and_eq_true] at z
            exact ((s1 z.1).trans (s2 z.2.1)).trans (s3 z.2.2)
          have rs : Res (cgOf X cls) I3 H3 d Q := fun v' H4 I4 A t1 t2 t3 n4 fr nd rp => k v' H4 I4 A F3 (g.res n3.live t1 t2 t3 n4 fr nd) (fun z => (sm z).trans t3) (n3.stay t1 fun a o _ e => t3 a o e) rp
          unfold slD at es
          split at es
          · cases es
            obtain ⟨a, vs, rfl, hA, ra⟩ := sv'
            exact .inl ⟨a, vs, rfl, SqL.of hA, fun pp hp => rs.new g3.top hp (Rp.newL (ra.cut l u) hp)⟩
          · cases es
            obtain ⟨a, vs, rfl, hA, ra⟩ := sv'.tup
            refine .inr (.inl ⟨a, vs, rfl, SqT.sub hA g3.top, fun hw => ?_, fun hw pp hp => rs.newF g3.top hp (Rp.newT (ra.cut l u) g3.top hp)⟩)
            rw [← ra.length] at hw
            rw [cut_whole hw] at rs
            exact rs.old g3.top ⟨a, vs, rfl, hA, ra⟩
          · rename_i z
            split at es
            · rename_i hz
              cases es
              exact .inr (.inr ⟨z, sv'.str, hz, rs.old g3.top (rp_str _)⟩)
            · cases es
          · rename_i ns
            cases es
            simp only [Sv, Rp] at sv'
            obtain ⟨_, a, rfl, hA⟩ := sv'
            refine .inl ⟨a, _, rfl, SqL.sub hA g3.top, fun pp hp => rs.new g3.top hp ?_⟩
            have e1 : cutV (ns.map V.int) l u = (cutX ns l u).map V.int := cut_map V.int ns l u
            rw [e1]
            exact Rp.newL (RpL.ints _) hp
          · cases es
        · cases e
      · cases e
    · cases e
  · cases e
/-- xs[::-1] -/
def revD : D → Option D
  | .lst _ xs => some (.lst true xs.reverse)
  | _ => none
theorem RpL.rev {G : Cg} {I H : Hp} : ∀ {xs : List D} {vs : List V}, RpL G I H xs vs [] → RpL G I H xs.reverse vs.reverse []
  | [], _, h => by rw [h.1]; exact ⟨rfl, rfl⟩
  | x :: xs, _, h => by
    obtain ⟨v, r, rfl, q, k⟩ := h.uncons0
    rw [List.reverse_cons, List.reverse_cons]
    exact RpL.append (A := []) (B := []) (RpL.rev k) (.cons0 q ⟨rfl, rfl⟩)
theorem de_rev {kk : Nat} {p1 p3 p4 : Pos} (ha : DA X cls e p q m) : DE X cls (.Subscript e (.Slice none none (some (.UnaryOp .USub (.Constant (.int 1) kk p1) p3)) p4) pos) q (eOp1 revD m) := by
  refine ⟨PE.imp (pe_revL ha.pe) fun σ H Q h => ?_⟩
  refine un_of (p := p) (r := fun x H Q => ∃ a xs, x = .ref a ∧ SqL X.K H a xs ∧ ∀ p, H p = none → Q (.ref p) (upd H p (.lst xs.reverse))) (fun I H d v r Q t sv o qq => ?_) h
  unfold revD at o
  split at o
  · cases o
    obtain ⟨a, vs, rfl, hA, ra⟩ := sv
    exact ⟨a, vs, rfl, SqL.of hA, fun pp hp => qq.new t hp (Rp.newL ra.rev hp)⟩
  · cases o
end

/-! ### ranges -/
section
variable {X : Cx} {cls : Nat → Addr} {tg e e2 : Expr} {m m2 : M} {n : Ms} {p q q1 q2 : Bool} {np pos : Pos}
def rngD (lo : Int) (n : Nat) : List D := (List.range n).map fun i => .int (lo + (i : Nat))
def eRng1 (n : Ms) : Ms := fun ρ => match n ρ with
  | some ([.int j], ρ') => if -(2 ^ 62) ≤ j ∧ j < 2 ^ 62 then some (rngD 0 j.toNat, ρ') else none
  | _ => none
def eRng2 (n : Ms) : Ms := fun ρ => match n ρ with
  | some ([.int i, .int j], ρ') => if -(2 ^ 62) ≤ i ∧ i < 2 ^ 62 ∧ -(2 ^ 62) ≤ j ∧ j < 2 ^ 62 then some (rngD i (j - i).toNat, ρ') else none
  | _ => none
theorem itR_rng {G : Cg} {I : Hp} (lo : Int) (n : Nat) : ItR G I (Itr lo n) (rngD lo n) := by
  refine ⟨fun i H t hi => ?_, fun i H t hi => ?_, fun i I1 H x H' t t1 hi y => ?_⟩
  · have : i < n := by simpa [rngD] using hi
    exact this
  · have : n ≤ i := by simpa [rngD] using hi
    exact this
  · have hi' : i < n := by simpa [rngD] using hi
    obtain ⟨rfl, rfl⟩ := y
    exact ⟨I1, Mor.refl t1, .int (lo + (i : Nat)), by simp [rngD, hi'], rp_int _⟩
theorem di_rng1 (hg : Gl X "range") (hm : X.mg "range" = none) (ha : DAs X cls [e] p q n) (hs : starEach [e] X.env = [(false, eval e X.env)] := by rfl) : DI X cls tg (.Call (.Name "range" np) [e] [] pos) q (eRng1 n) := by
  refine ⟨PI.imp (pi_range1 hg hm ha.pa hs) fun σ H R ⟨I, F, ρ, ds, ρ', f, e, k⟩ => ?_⟩
  unfold eRng1 at e
  split at e
  · rename_i j ρ1 en
    split at e
    · rename_i hz
      cases e
      refine ⟨I, F, ρ, _, ρ', f, en, fun vs H1 I1 F1 g s n1 sv _ => ?_⟩
      obtain ⟨v, rfl, s1⟩ := sv.one
      exact ⟨j, by rw [s1.int], hz.1, hz.2, k _ H1 I1 F1 g s n1 (itR_rng 0 _)⟩
    · cases e
  · cases e
theorem di_rng2 (hg : Gl X "range") (hm : X.mg "range" = none) (ha : DAs X cls [e, e2] p q n) (hs : starEach [e, e2] X.env = [(false, eval e X.env), (false, eval e2 X.env)] := by rfl) (hs2 : starEach [e2] X.env = [(false, eval e2 X.env)] := by rfl) : DI X cls tg (.Call (.Name "range" np) [e, e2] [] pos) q (eRng2 n) := by
  refine ⟨PI.imp (pi_range2 hg hm ha.pa hs hs2) fun σ H R ⟨I, F, ρ, ds, ρ', f, e, k⟩ => ?_⟩
  unfold eRng2 at e
  split at e
  · rename_i i j ρ1 en
    split at e
    · rename_i hz
      cases e
      refine ⟨I, F, ρ, _, ρ', f, en, fun vs H1 I1 F1 g s n1 sv _ => ?_⟩
      obtain ⟨v, w, rfl, s1, s2⟩ := sv.two
      exact ⟨i, j, by rw [s1.int, s2.int], hz, k _ H1 I1 F1 g s n1 (itR_rng i _)⟩
    · cases e
  · cases e
/-! ### enumerate of a list -/
def numD (ds : List D) : List D := ds.zipIdx.map fun p => .tup [.int (p.2 : Nat), p.1]
def eNum (n : Ms) : Ms := fun ρ => match n ρ with
  | some ([.lst _ ds], ρ') => some (numD ds, ρ')
  | _ => none
theorem mor_new {I H : Hp} (t : Same I H) {T : Addr} {o : HO} (hT : H T = none) : Mor I H (upd I T o) (upd H T o) :=
  ⟨same_new (t.free hT), fun b u e => by
    by_cases q : b = T
    · subst q; rw [upd_same] at e ⊢; exact e
    · rw [upd_ne q] at e ⊢; exact t b u e, same_new hT, fun a u z => by
    by_cases q : a = T
    · subst q; exact .inr hT
    · rw [upd_ne q] at z; exact .inl z⟩
theorem itR_num {G : Cg} {I H : Hp} {a : Addr} {ds : List D} {vs : List V} (ha : I a = some (.lst vs)) (r : RpL G I H ds vs []) : ItR G I (Ite G.K a) (numD ds) := by
  have hl : (numD ds).length = ds.length := by simp [numD]
  refine ⟨fun i H' t hi => ?_, fun i H' t hi => ⟨vs, SqL.of (t _ _ ha), by rw [← r.length, ← hl]; exact hi⟩, fun i I1 H' x H2 t t1 hi y => ?_⟩
  · have hi' : i < vs.length := by rw [← r.length, ← hl]; exact hi
    exact ⟨vs, vs[i], SqL.of (t _ _ ha), by simp [hi']⟩
  · obtain ⟨T, x, rfl, hT, rfl, y⟩ := y
    rw [hl] at hi
    have hd : ds[i]? = some ds[i] := by simp [hi]
    obtain ⟨v, hv, rv⟩ := r.get hd
    have e := y vs (SqL.of (t1 _ _ (t _ _ ha)))
    rw [hv] at e
    have e' : v = x := Option.some.inj e
    subst e'
    have m := mor_new (o := .tup [.int (i : Nat), v]) t1 hT
    refine ⟨_, m, .tup [.int (i : Nat), ds[i]], by simp [numD, hi], ?_⟩
    exact ⟨T, _, rfl, SqT.of upd_same, .cons0 (rp_int _) (.cons0 ((rv.up (H1 := H') t).up m.sub) ⟨rfl, rfl⟩)⟩
theorem Sv.lst_frz {G : Cg} {I H : Hp} {ds : List D} {v : V} (h : Rp G I H (.lst false ds) v []) : ∃ a vs, v = .ref a ∧ I a = some (.lst vs) ∧ RpL G I H ds vs [] := by
  simp only [Rp] at h
  exact h.2
theorem di_num {elts : List Expr} {kk : Nat} {tpos : Pos} (hg : Gl X "enumerate") (hm : X.mg "enumerate" = none) (ha : DAs X cls [e] true q n) (hs : starEach [e] X.env = [(false, eval e X.env)] := by rfl) : DI X cls (.Tuple elts kk tpos) (.Call (.Name "enumerate" np) [e] [] pos) q (eNum n) := by
  refine ⟨PI.imp (pi_enum hg hm ha.pa hs) fun σ H R ⟨I, F, ρ, ds, ρ', f, e, k⟩ => ?_⟩
  unfold eNum at e
  split at e
  · rename_i o xs ρ1 en
    cases e
    refine ⟨I, F, ρ, _, ρ', f, en, fun vs H1 I1 F1 g s n1 sv pv => ?_⟩
    have fz := ha.pl _ _ _ en
    cases o with
    | true => simp [frzL, Ev.frz] at fz
    | false =>
      obtain ⟨v, vr, rfl, r1, r2⟩ := (pv rfl).uncons0
      obtain ⟨rfl, _⟩ := r2
      obtain ⟨a, vs, rfl, hA, ra⟩ := Sv.lst_frz r1
      exact ⟨a, vs, rfl, SqL.of (g.top _ _ hA), k _ H1 I1 F1 g s n1 (itR_num hA ra)⟩
  · cases e
end
end Ev

/-! Ev12: list comprehensions of one and two clauses. -/
namespace Ev
open PySem PySem.Spec PyProof.Rows L2

/-! ### a block's own names -/
def wp {α : Type} : (Nat → Bool) → List (Option α) → List (Option α)
  | _, [] => []
  | p, x :: l => (if p 0 = true then none else x) :: wp (fun i => p (i + 1)) l
def rs {α : Type} : (Nat → Bool) → List (Option α) → List (Option α) → List (Option α)
  | p, x :: o, y :: n => (if p 0 = true then x else y) :: rs (fun i => p (i + 1)) o n
  | _, _, n => n
def inN (vs : List Nat) : Nat → Bool := fun i => vs.contains i
theorem wp_get {α : Type} : ∀ {p : Nat → Bool} {l : List (Option α)} {i : Nat}, (wp p l)[i]? = l[i]?.map fun x => if p i = true then none else x
  | _, [], i => by simp [wp]
  | p, x :: l, 0 => by simp [wp]
  | p, x :: l, i + 1 => by
    show (wp (fun i => p (i + 1)) l)[i]? = _
    rw [wp_get]
    simp
theorem wp_len {α : Type} : ∀ {p : Nat → Bool} {l : List (Option α)}, (wp p l).length = l.length
  | _, [] => rfl
  | p, x :: l => by rw [wp, List.length_cons, List.length_cons, wp_len]
theorem wipe_wp (σ : L2.St) (vs : List Nat) : wipe σ vs = wp (inN vs) σ := by
  apply List.ext_getElem?
  intro i
  rw [wp_get]
  by_cases h : i ∈ vs
  · have e : inN vs i = true := by simp [inN, h]
    rw [e]
    have key : ∀ {us : List Nat}, i ∈ us → (wipe σ us)[i]? = σ[i]?.map fun _ => none := by
      intro us
      induction us with
      | nil => intro h; cases h
      | cons u us ih =>
        intro h
        show ((wipe σ us).set u none)[i]? = _
        by_cases q : u = i
        · subst q
          by_cases hl : u < σ.length
          · rw [List.getElem?_set_self (by rw [wipe_length]; exact hl)]
            simp [hl]
          · rw [List.getElem?_eq_none (by rw [List.length_set, wipe_length]; omega), List.getElem?_eq_none (by omega)]
            rfl
        · rw [List.getElem?_set_ne q]
          exact ih ((List.mem_cons.mp h).resolve_left fun z => q z.symm)
    rw [key h]
    rfl
  · have e : inN vs i = false := by simp [inN, h]
    rw [e, wipe_out h]
    cases σ[i]? <;> rfl
section
variable {G : Cg}
theorem perm_of {α : Type} [DecidableEq α] {l m : List α} (h : ∀ a, l.count a = m.count a) : l.Perm m := List.perm_iff_count.mpr h
/-- the names that a block has, aside -/
theorem EnvR.split {I H : Hp} : ∀ {ρ : Env} {σ : L2.St} {F : List Addr} (p : Nat → Bool), EnvR G I H ρ σ F → ∃ Fo Fr, F.Perm (Fo ++ Fr) ∧ EnvR G I H (wp p ρ) (wp p σ) Fr ∧
    ∀ {I' H' : Hp} {ρ' : Env} {σ' : L2.St} {F' : List Addr}, Same I I' → (∀ a o, a ∈ Fo → H a = some o → H' a = some o) → EnvR G I' H' ρ' σ' F' → wp p σ' = wp p σ → ∃ F2 Fd, EnvR G I' H' (rs p ρ ρ') σ F2 ∧ (Fd ++ F2).Perm (Fo ++ F')
  | [], σ, F, p, h => by
    obtain ⟨rfl, rfl⟩ := h
    refine ⟨[], [], .refl _, ⟨rfl, rfl⟩, fun {I' H' ρ' σ' F'} s k n e => ?_⟩
    have hl : σ'.length = 0 := by
      have := congrArg List.length e
      rwa [wp_len, wp_len] at this
    have e1 : σ' = [] := List.length_eq_zero_iff.mp hl
    subst e1
    refine ⟨F', [], ?_, by simp⟩
    have : ρ' = [] := List.length_eq_zero_iff.mp n.len
    subst this
    exact n
  | none :: ρ, σ, F, p, ⟨x, r, e, h⟩ => by
    subst e
    obtain ⟨Fo, Fr, pm, nb, back⟩ := EnvR.split (fun i => p (i + 1)) h
    refine ⟨Fo, Fr, pm, ?_, fun {I' H' ρ' σ' F'} s k n e => ?_⟩
    · show EnvR G I H ((if p 0 = true then none else none) :: wp (fun i => p (i + 1)) ρ) _ Fr
      have : (if p 0 = true then none else none : Option D) = none := by split <;> rfl
      rw [this]
      exact ⟨_, _, rfl, nb⟩
    · cases σ' with
      | nil => exact absurd (congrArg List.length e) (by simp [wp])
      | cons x' r' =>
        have e' : wp (fun i => p (i + 1)) r' = wp (fun i => p (i + 1)) r := (List.cons.inj e).2
        have e0 : (if p 0 = true then none else x' : Option V) = if p 0 = true then none else x := (List.cons.inj e).1
        cases ρ' with
        | nil => exact absurd n.len (by simp)
        | cons c' ρ' =>
          by_cases hp : p 0 = true
          · cases c' with
            | none =>
              obtain ⟨_, _, e2, n⟩ := n
              cases e2
              obtain ⟨F2, Fd, n2, pm2⟩ := back s k n e'
              refine ⟨F2, Fd, ?_, pm2⟩
              show EnvR G I' H' ((if p 0 = true then none else none) :: _) _ _
              rw [if_pos hp]
              exact ⟨x, r, rfl, n2⟩
            | some c' =>
              obtain ⟨_, _, B, C, e2, rfl, rv, n⟩ := n
              cases e2
              obtain ⟨F2, Fd, n2, pm2⟩ := back s k n e'
              refine ⟨F2, B ++ Fd, ?_, perm_of fun a => ?_⟩
              · show EnvR G I' H' ((if p 0 = true then none else some c') :: _) _ _
                rw [if_pos hp]
                exact ⟨x, r, rfl, n2⟩
              · have := pm2.count_eq a
                simp only [List.count_append] at this ⊢
                omega
          · rw [if_neg hp, if_neg hp] at e0
            subst e0
            cases c' with
            | none =>
              obtain ⟨_, _, e2, n⟩ := n
              cases e2
              obtain ⟨F2, Fd, n2, pm2⟩ := back s k n e'
              refine ⟨F2, Fd, ?_, pm2⟩
              show EnvR G I' H' ((if p 0 = true then none else none) :: _) _ _
              rw [if_neg hp]
              exact ⟨_, r, rfl, n2⟩
            | some c' =>
              obtain ⟨v, _, B, C, e2, rfl, rv, n⟩ := n
              cases e2
              obtain ⟨F2, Fd, n2, pm2⟩ := back s k n e'
              refine ⟨B ++ F2, Fd, ?_, perm_of fun a => ?_⟩
              · show EnvR G I' H' ((if p 0 = true then none else some c') :: _) _ _
                rw [if_neg hp]
                exact ⟨v, r, B, F2, rfl, rfl, rv, n2⟩
              · have := pm2.count_eq a
                simp only [List.count_append] at this ⊢
                omega
  | some c :: ρ, σ, F, p, ⟨v, r, B, C, e, f, q, h⟩ => by
    subst e f
    obtain ⟨Fo, Fr, pm, nb, back⟩ := EnvR.split (fun i => p (i + 1)) h
    by_cases hp : p 0 = true
    · refine ⟨B ++ Fo, Fr, perm_of fun a => by
        have := pm.count_eq a
        simp only [List.count_append] at this ⊢
        omega, ?_, fun {I' H' ρ' σ' F'} s k n e => ?_⟩
      · show EnvR G I H ((if p 0 = true then none else some c) :: wp (fun i => p (i + 1)) ρ) ((if p 0 = true then none else some v) :: _) Fr
        rw [if_pos hp, if_pos hp]
        exact ⟨_, _, rfl, nb⟩
      · cases σ' with
        | nil => exact absurd (congrArg List.length e) (by simp [wp])
        | cons x' r' =>
          have e' : wp (fun i => p (i + 1)) r' = wp (fun i => p (i + 1)) r := (List.cons.inj e).2
          have q' : Rp G I' H' c v B := q.stay s _ _ _ fun a o m => k a o (List.mem_append_left _ m)
          have k' : ∀ a o, a ∈ Fo → H a = some o → H' a = some o := fun a o m => k a o (List.mem_append_right _ m)
          cases ρ' with
          | nil => exact absurd n.len (by simp)
          | cons c' ρ' =>
            cases c' with
            | none =>
              obtain ⟨_, _, e2, n⟩ := n
              cases e2
              obtain ⟨F2, Fd, n2, pm2⟩ := back s k' n e'
              refine ⟨B ++ F2, Fd, ?_, perm_of fun a => ?_⟩
              · show EnvR G I' H' ((if p 0 = true then some c else none) :: _) _ _
                rw [if_pos hp]
                exact ⟨v, r, B, F2, rfl, rfl, q', n2⟩
              · have := pm2.count_eq a
                simp only [List.count_append] at this ⊢
                omega
            | some c' =>
              obtain ⟨_, _, B', C', e2, rfl, rv, n⟩ := n
              cases e2
              obtain ⟨F2, Fd, n2, pm2⟩ := back s k' n e'
              refine ⟨B ++ F2, B' ++ Fd, ?_, perm_of fun a => ?_⟩
              · show EnvR G I' H' ((if p 0 = true then some c else some c') :: _) _ _
                rw [if_pos hp]
                exact ⟨v, r, B, F2, rfl, rfl, q', n2⟩
              · have := pm2.count_eq a
                simp only [List.count_append] at this ⊢
                omega
    · refine ⟨Fo, B ++ Fr, perm_of fun a => by
        have := pm.count_eq a
        simp only [List.count_append] at this ⊢
        omega, ?_, fun {I' H' ρ' σ' F'} s k n e => ?_⟩
      · show EnvR G I H ((if p 0 = true then none else some c) :: wp (fun i => p (i + 1)) ρ) ((if p 0 = true then none else some v) :: _) _
        rw [if_neg hp, if_neg hp]
        exact ⟨v, _, B, Fr, rfl, rfl, q, nb⟩
      · cases σ' with
        | nil => exact absurd (congrArg List.length e) (by simp [wp])
        | cons x' r' =>
          have e' : wp (fun i => p (i + 1)) r' = wp (fun i => p (i + 1)) r := (List.cons.inj e).2
          have e0 : (if p 0 = true then none else x' : Option V) = if p 0 = true then none else some v := (List.cons.inj e).1
          rw [if_neg hp, if_neg hp] at e0
          subst e0
          cases ρ' with
          | nil => exact absurd n.len (by simp)
          | cons c' ρ' =>
            cases c' with
            | none =>
              obtain ⟨_, _, e2, n⟩ := n
              cases e2
              obtain ⟨F2, Fd, n2, pm2⟩ := back s k n e'
              refine ⟨F2, Fd, ?_, pm2⟩
              show EnvR G I' H' ((if p 0 = true then some c else none) :: _) _ _
              rw [if_neg hp]
              exact ⟨_, r, rfl, n2⟩
            | some c' =>
              obtain ⟨v', _, B', C', e2, rfl, rv, n⟩ := n
              cases e2
              obtain ⟨F2, Fd, n2, pm2⟩ := back s k n e'
              refine ⟨B' ++ F2, Fd, ?_, perm_of fun a => ?_⟩
              · show EnvR G I' H' ((if p 0 = true then some c else some c') :: _) _ _
                rw [if_neg hp]
                exact ⟨v, r, B', F2, rfl, rfl, rv, n2⟩
              · have := pm2.count_eq a
                simp only [List.count_append] at this ⊢
                omega
end

/-! ### a clause -/
def evLc (p : Nat → Bool) (g : Mg) (c e : M) : List D → Env → Option (List D × Env)
  | [], ρ => some ([], ρ)
  | d :: ds, ρ => match g d (wp p ρ) with
    | some ρ2 => match c ρ2 with
      | some (.bl true, ρ3) => match e ρ3 with
        | some (y, ρ4) => match evLc p g c e ds (rs p ρ ρ4) with
          | some (ys, ρ5) => some (y :: ys, ρ5)
          | none => none
        | none => none
      | some (.bl false, ρ3) => evLc p g c e ds (rs p ρ ρ3)
      | _ => none
    | none => none
/-- a target keeps the number of names -/
def KeepLen (g : Mg) : Prop := ∀ d ρ ρ', g d ρ = some ρ' → ρ'.length = ρ.length
def KeepLens (g : Mgs) : Prop := ∀ d ρ ρ', g d ρ = some ρ' → ρ'.length = ρ.length
theorem kl_nm (i : Nat) : KeepLen (gNm i) := fun d ρ ρ' e => by
  unfold gNm at e
  split at e
  · cases e; rw [List.length_set]
  · cases e
theorem kl_nil : KeepLens gsNil := fun d ρ ρ' e => by
  unfold gsNil at e
  split at e
  · cases e; rfl
  · cases e
theorem kl_cons {g : Mg} {h : Mgs} (hg : KeepLen g) (hh : KeepLens h) : KeepLens (gsCons g h) := fun d ρ ρ' e => by
  unfold gsCons at e
  split at e
  · split at e
    · rename_i ρ1 e1
      rw [hh _ _ _ e, hg _ _ _ e1]
    · cases e
  · cases e
theorem kl_tp {n : Nat} {h : Mgs} (hh : KeepLens h) : KeepLen (gTp n h) := fun d ρ ρ' e => by
  unfold gTp at e
  split at e
  · split at e
    · exact hh _ _ _ e
    · cases e
  · cases e
/-- the names that stay as they are in a block -/
def others (N : Nat) (vs : List Nat) : List Nat := (List.range N).filter fun i => !vs.contains i
theorem ios_wp {N : Nat} {vs : List Nat} {σ σ' : L2.St} (h : IoS (others N vs) (wp (inN vs) σ) σ') (hN : σ.length = N) (hl : σ'.length = N) : wp (inN vs) σ' = wp (inN vs) σ := by
  apply List.ext_getElem?
  intro i
  rw [wp_get, wp_get]
  by_cases hi : i < N
  · by_cases q : inN vs i = true
    · simp only [q, if_true]
      have h1 : i < σ.length := by omega
      have h2 : i < σ'.length := by omega
      simp [h1, h2]
    · have m : i ∈ others N vs := by
        unfold others
        rw [List.mem_filter]
        exact ⟨List.mem_range.mpr hi, by simpa [inN] using q⟩
      have := h i m
      rw [wp_get] at this
      rw [this]
      simp only [q, if_false, Option.map_map]
      rfl
  · rw [List.getElem?_eq_none (by omega), List.getElem?_eq_none (by omega)]
theorem Mor.go' {I H I1 H1 I2 H2 : Hp} {F F1 : List Addr} (m : Mor I1 H1 I2 H2) (g : Go I H F I1 H1 F1) (lv : ∀ a ∈ F1, ∃ o, H1 a = some o) : Go I H F I2 H2 F1 :=
  g.res (A := []) lv m.sub m.top m.keep m.frz (fun _ z => nomatch z) List.nodup_nil
theorem Go.left {I H I1 H1 : Hp} {F L R : List Addr} (g : Go I H F I1 H1 (L ++ R)) : Go I H F I1 H1 L := g.weak (fun a m => List.mem_append_left _ m) (List.nodup_append.mp g.nd).1

section
variable {G : Cg} {q2 q3 : Bool} {g : Mg} {c e : M} {vs : List Nat} {N : Nat}
/-- the loop of a clause whose items go to the new list at D; T: what stands aside -/
theorem lc_loop {I0 H0 I1 HT : Hp} {F0 F1 T A0 : List Addr} {σ : L2.St} {J : It} {ds ys acc0 : List D} {acV : List V} {r0 : List D} {ρ1 ρ' : Env} {L : Addr} {Fin : Hp → Prop} (hg : KeepLen g) (hN : σ.length = N) (it : ItR G I1 J ds)
    (n1 : EnvR G I1 HT ρ1 σ F1) (g1 : Go I0 H0 F0 I1 HT ((L :: (T ++ A0)) ++ F1)) (lvT : ∀ a ∈ T, ∃ o, HT a = some o) (hD : HT L = some (.lst acV)) (rA : RpL G I1 HT acc0 acV A0) (ev : evLc (inN vs) g c e ds ρ1 = some (r0, ρ')) (hy : acc0 ++ r0 = ys) (hz : ys.length ≤ sizeLine)
    (fin : ∀ (H2 I2 : Hp) (F2 : List Addr) (accV : List V) (A : List Addr), EnvR G I2 H2 ρ' σ F2 → Go I0 H0 F0 I2 H2 ((L :: (T ++ A)) ++ F2) → (∀ a ∈ T, ∀ o, HT a = some o → H2 a = some o) → H2 L = some (.lst accV) → RpL G I2 H2 ys accV A → Same I1 I2 → Fin H2) :
    ∃ W : Nat → Nat → Hp → Prop, (∃ m, W 0 m HT) ∧ ∀ i m H, W i m H →
      (J.stop i H ∧ Fin H) ∨ (J.go i H ∧ ∃ Nx : Hp → Prop, (∀ H', Nx H' → ∃ m', m' < m ∧ W (i + 1) m' H') ∧ ∀ x H', J.yld i H x H' → tG G (others N vs) g x (wipe σ vs) H' fun σ2 H2 => wipe σ2 vs = wipe σ vs ∧ tT G q2 c σ2 H2 fun b H3 =>
        if b = true then tE G q3 e σ2 H3 fun y H4 => ∃ acc, H4 L = some (.lst acc) ∧ acc.length < sizeLine ∧ Nx (upd H4 L (.lst (acc ++ [y]))) else Nx H3) := by
  let S : Nat → Hp → Prop := fun i H2 => ∃ I2 F2 ρ2 acc accV A r, EnvR G I2 H2 ρ2 σ F2 ∧ Go I0 H0 F0 I2 H2 ((L :: (T ++ A)) ++ F2) ∧ (∀ a ∈ T, ∀ o, HT a = some o → H2 a = some o) ∧ H2 L = some (.lst accV) ∧ RpL G I2 H2 acc accV A ∧ Same I1 I2 ∧
    evLc (inN vs) g c e (ds.drop i) ρ2 = some (r, ρ') ∧ acc ++ r = ys
  refine ⟨fun i m H2 => m = ds.length - i ∧ i ≤ ds.length ∧ S i H2, ⟨ds.length, by omega, Nat.zero_le _, I1, F1, ρ1, acc0, acV, A0, r0, n1, g1, fun _ _ _ e => e, hD, rA, Same.refl _, ev, hy⟩, ?_⟩
  rintro i m H2 ⟨rfl, hi, I2, F2, ρ2, acc, accV, A, r, n2, g2, kT, hDl, rAl, s2, e2, ey⟩
  by_cases hlt : i < ds.length
  · refine .inr ⟨it.go i H2 (s2.trans g2.top) hlt, S (i + 1), fun H' hS => ⟨ds.length - (i + 1), by omega, rfl, hlt, hS⟩, fun x H3 y => ?_⟩
    obtain ⟨I3, mo, d, hd, rd⟩ := it.yld i I2 H2 x H3 s2 g2.top hlt y
    rw [List.drop_eq_getElem_cons hlt] at e2
    have ed : ds[i] = d := by
      rw [List.getElem?_eq_getElem hlt] at hd
      exact Option.some.inj hd
    rw [ed] at e2
    have lv2 : ∀ a ∈ (L :: (T ++ A)) ++ F2, ∃ o, H2 a = some o := fun a m => by
      rcases List.mem_append.mp m with m | m
      · rcases List.mem_cons.mp m with rfl | m
        · exact ⟨_, hDl⟩
        · rcases List.mem_append.mp m with m | m
          · obtain ⟨o, ho⟩ := lvT a m
            exact ⟨o, kT a m o ho⟩
          · exact rAl.live _ _ _ a m
      · exact n2.live a m
    have g3 := mo.go' g2 lv2
    have n3 : EnvR G I3 H3 ρ2 σ F2 := n2.stay mo.sub fun a o _ e => mo.keep a o e
    obtain ⟨Fo, Fr, pm, nb, back⟩ := n3.split (inN vs)
    have g4 : Go I0 H0 F0 I3 H3 ((L :: (T ++ (A ++ Fo))) ++ Fr) := g3.perm (perm_of fun a => by
      have := pm.count_eq a
      simp only [List.count_append, List.count_cons] at this ⊢
      omega)
    have lv4 : ∀ a ∈ L :: (T ++ (A ++ Fo)), ∃ o, H3 a = some o := fun a m => by
      have : a ∈ (L :: (T ++ A)) ++ F2 := by
        simp only [List.mem_append, List.mem_cons] at m ⊢
        rcases m with m | m | m | m
        · exact .inl (.inl m)
        · exact .inl (.inr (.inl m))
        · exact .inl (.inr (.inr m))
        · exact .inr (pm.mem_iff.mpr (List.mem_append_left _ m))
      obtain ⟨o, ho⟩ := lv2 a this
      exact ⟨o, mo.keep a o ho⟩
    unfold evLc at e2
    split at e2
    · rename_i ρ4 eg
      rw [wipe_wp]
      refine ⟨I3, Fr, [], wp (inN vs) ρ2, d, ρ4, ⟨nb, g3.top, g4.tail.nd, g4.tail.off⟩, rd, eg, fun σ4 F4 n4 sub4 nd4 i4 => ?_⟩
      have l4 : σ4.length = N := by rw [← n4.len, hg _ _ _ eg, wp_len, n3.len, hN]
      have wE := ios_wp i4 hN l4
      refine ⟨by rw [wipe_wp]; exact wE, ?_⟩
      have T4 : Go I0 H0 F0 I3 H3 ((L :: (T ++ (A ++ Fo))) ++ F4) := by
        have h := List.nodup_append.mp g4.nd
        refine g4.weak (fun a m => ?_) (List.nodup_append.mpr ⟨h.1, nd4, fun a m b m' => h.2.2 a m b (by simpa using sub4 b m')⟩)
        rcases List.mem_append.mp m with m | m
        · exact List.mem_append_left _ m
        · exact List.mem_append_right _ (by simpa using sub4 a m)
      -- the turn's end
      have done : ∀ {I6 H6 : Hp} {F6 Ay : List Addr} {ρ6 : Env} (accV' : List V) (acc' : List D), Go I0 H0 F0 I6 H6 ((L :: (T ++ (A ++ Fo))) ++ (Ay ++ F6)) → Same I3 I6 → (∀ a o, a ∈ T ++ (A ++ Fo) → H3 a = some o → H6 a = some o) → EnvR G I6 H6 ρ6 σ4 F6 → H6 L = some (.lst accV') →
          RpL G I6 H6 acc' accV' (A ++ Ay) → (∃ r, evLc (inN vs) g c e (ds.drop (i + 1)) (rs (inN vs) ρ2 ρ6) = some (r, ρ') ∧ acc' ++ r = ys) → S (i + 1) H6 := fun {I6 H6 F6 Ay ρ6} accV' acc' T6 s6 k6 n6 hD6 r6 ⟨r, er, ey⟩ => by
        obtain ⟨F7, Fd, n7, pm7⟩ := back s6 (fun a o m => k6 a o (List.mem_append_right _ (List.mem_append_right _ m))) n6 wE
        have T7 : Go I0 H0 F0 I6 H6 (((L :: (T ++ (A ++ Ay))) ++ F7) ++ Fd) := T6.perm (perm_of fun a => by
          have := pm7.count_eq a
          simp only [List.count_append, List.count_cons] at this ⊢
          omega)
        exact ⟨I6, F7, _, acc', accV', A ++ Ay, r, n7, T7.left, fun a m o ho => k6 a o (List.mem_append_left _ m) (mo.keep a o (kT a m o ho)), hD6, r6, (s2.trans mo.sub).trans s6, er, ey⟩
      have nT4 : ∀ a ∈ L :: (T ++ (A ++ Fo)), a ∉ F4 := fun a m m' => (List.nodup_append.mp T4.nd).2.2 a m a m' rfl
      have rA3 : RpL G I3 H3 acc accV A := rAl.stay mo.sub _ _ _ fun a o _ e => mo.keep a o e
      have hD3 : H3 L = some (.lst accV) := mo.keep _ _ hDl
      split at e2
      · rename_i ρ5 ec
        refine ⟨I3, F4, ρ4, true, ρ5, ⟨n4, g3.top, nd4, T4.tail.off⟩, ec, fun H5 I5 F5 g5 s5 n5 => ?_⟩
        have T5 := T4.trans g5 lv4
        have nT5 : ∀ a ∈ L :: (T ++ (A ++ Fo)), a ∉ F5 := fun a m m' => (List.nodup_append.mp T5.nd).2.2 a m a m' rfl
        refine iteT ?_
        split at e2
        · rename_i yv ρ6 ee
          split at e2
          · rename_i ys' ρ7 er
            cases e2
            refine ⟨I5, F5, ρ5, yv, ρ6, .of g5 n5, ee, fun v H6 I6 Ay F6 g6 s6 n6 r6 => ?_⟩
            have k6 : ∀ a o, a ∈ L :: (T ++ (A ++ Fo)) → H3 a = some o → H6 a = some o := fun a o m ho => g6.keep a o (g5.keep a o ho (nT4 a m)) (nT5 a m)
            have T6 := T5.trans g6 fun a m => by
              obtain ⟨o, ho⟩ := lv4 a m
              exact ⟨o, g5.keep a o ho (nT4 a m)⟩
            have hD6 : H6 L = some (.lst accV) := k6 L _ List.mem_cons_self hD3
            have hlen : acc.length = accV.length := rAl.length
            refine ⟨accV, hD6, ?_, ?_⟩
            · have := congrArg List.length ey
              simp only [List.length_append, List.length_cons] at this
              omega
            · have T7 := T6.upd (a := L) (o := .lst (accV ++ [v])) (List.mem_append_left _ List.mem_cons_self)
              have ne : ∀ a ∈ (T ++ (A ++ Fo)) ++ (Ay ++ F6), a ≠ L := fun a m e => by
                have := T6.nd
                rw [List.cons_append] at this
                rw [e] at m
                exact (List.nodup_cons.mp this).1 m
              refine done (accV ++ [v]) (acc ++ [yv]) T7 (g5.sub.trans g6.sub) (fun a o m ho => ?_) (n6.stay (Same.refl _) fun a o m ho => ?_) upd_same ?_ ⟨ys', er, by rw [List.append_assoc]; exact ey⟩
              · rw [upd_ne (ne a (List.mem_append_left _ m))]
                exact k6 a o (List.mem_cons_of_mem _ m) ho
              · rw [upd_ne (ne a (List.mem_append_right _ (List.mem_append_right _ m)))]; exact ho
              · refine RpL.append (rA3.stay (g5.sub.trans g6.sub) _ _ _ fun a o m ho => ?_) (show RpL G I6 _ [yv] [v] Ay from ⟨v, [], Ay, [], rfl, by simp, r6.stay (Same.refl _) _ _ _ fun a o m ho => ?_, rfl, rfl⟩)
                · have m' : a ∈ T ++ (A ++ Fo) := List.mem_append_right _ (List.mem_append_left _ m)
                  rw [upd_ne (ne a (List.mem_append_left _ m'))]
                  exact k6 a o (List.mem_cons_of_mem _ m') ho
                · rw [upd_ne (ne a (List.mem_append_right _ (List.mem_append_left _ m)))]; exact ho
          · cases e2
        · cases e2
      · rename_i ρ5 ec
        refine ⟨I3, F4, ρ4, false, ρ5, ⟨n4, g3.top, nd4, T4.tail.off⟩, ec, fun H5 I5 F5 g5 s5 n5 => ?_⟩
        have T5 := T4.trans g5 lv4
        refine iteF ?_
        have k5 : ∀ a o, a ∈ L :: (T ++ (A ++ Fo)) → H3 a = some o → H5 a = some o := fun a o m ho => g5.keep a o ho (nT4 a m)
        refine done (Ay := []) accV acc T5 g5.sub (fun a o m ho => k5 a o (List.mem_cons_of_mem _ m) ho) n5 (k5 L _ List.mem_cons_self hD3) ?_ ⟨r, e2, ey⟩
        rw [List.append_nil]
        exact rA3.stay g5.sub _ _ _ fun a o m ho => k5 a o (List.mem_cons_of_mem _ (List.mem_append_right _ (List.mem_append_left _ m))) ho
      · cases e2
    · cases e2
  · have ei : i = ds.length := by omega
    subst ei
    rw [List.drop_length] at e2
    cases e2
    rw [List.append_nil] at ey
    subst ey
    exact .inl ⟨it.stop _ H2 (s2.trans g2.top) (Nat.le_refl _), fin H2 I2 F2 accV A n2 g2 kT hDl rAl s2⟩
end

/-! ### one clause -/
def cYes : M := fun ρ => some (.bl true, ρ)
def eLc (N : Nat) (vs : List Nat) (n : Ms) (g : Mg) (c e : M) : M := fun ρ => match n ρ with
  | some (ds, ρ1) => if ρ1.length = N then match evLc (inN vs) g c e ds ρ1 with
      | some (ys, ρ2) => if ys.length ≤ sizeLine then some (.lst true ys, ρ2) else none
      | none => none
    else none
  | none => none
section
variable {G : Cg} {q q2 q3 : Bool} {n : Ms} {g : Mg} {c e : M} {vs : List Nat} {N : Nat}
theorem lc_of {σ : L2.St} {H : Hp} {Q : VK} (hg : KeepLen g) (h : tE G false (eLc N vs n g c e) σ H Q) : tLc (tI G q n) (tG G (others N vs) g) (tT G q2 c) (tE G q3 e) vs σ H Q := by
  obtain ⟨I, F, ρ, d, ρ', f, em, k⟩ := h
  unfold eLc at em
  split at em
  · rename_i ds ρ1 en
    split at em
    · rename_i hl
      split at em
      · rename_i ys ρ2 ev
        split at em
        · rename_i hz
          cases em
          refine ⟨I, F, ρ, ds, ρ1, f, en, fun J H1 I1 F1 g1 s1 n1 it L hD => ?_⟩
          have hN : σ.length = N := by rw [← n1.len]; exact hl
          refine lc_loop (I0 := I) (H0 := H) (F0 := F) (T := []) (A0 := []) (acc0 := []) (acV := []) hg hN it (n1.stay (Same.refl _) fun a o _ e => same_new hD a o e) (by simpa using g1.alloc n1.live hD) (fun _ z => nomatch z) upd_same ⟨rfl, rfl⟩ ev (List.nil_append _) hz fun H2 I2 F2 accV A n2 g2 _ hD2 rA s2 => ?_
          exact k (.ref L) H2 I2 (L :: A) F2 (by simpa using g2) (fun z => nomatch z) n2 ⟨L, accV, A, rfl, rfl, hD2, rA⟩
        · cases em
      · cases em
    · cases em
  · cases em
end

/-! ### two clauses -/
def evLc2 (p : Nat → Bool) (g : Mg) (c : M) (n1 : Ms) (p1 : Nat → Bool) (g1 : Mg) (c1 e : M) : List D → Env → Option (List D × Env)
  | [], ρ => some ([], ρ)
  | d :: ds, ρ => match g d (wp p ρ) with
    | some ρ2 => match c ρ2 with
      | some (.bl true, ρ3) => match n1 ρ3 with
        | some (es, ρ4) => match evLc p1 g1 c1 e es ρ4 with
          | some (ys, ρ5) => match evLc2 p g c n1 p1 g1 c1 e ds (rs p ρ ρ5) with
            | some (zs, ρ6) => some (ys ++ zs, ρ6)
            | none => none
          | none => none
        | none => none
      | some (.bl false, ρ3) => evLc2 p g c n1 p1 g1 c1 e ds (rs p ρ ρ3)
      | _ => none
    | none => none
def eLc2 (N : Nat) (vs vs1 : List Nat) (n : Ms) (g : Mg) (c : M) (n1 : Ms) (g1 : Mg) (c1 e : M) : M := fun ρ => match n ρ with
  | some (ds, ρ1) => if ρ1.length = N then match evLc2 (inN vs) g c n1 (inN vs1) g1 c1 e ds ρ1 with
      | some (ys, ρ2) => if ys.length ≤ sizeLine then some (.lst true ys, ρ2) else none
      | none => none
    else none
  | none => none
section
variable {G : Cg} {q q2 q3 q4 q5 : Bool} {n n1 : Ms} {g g1 : Mg} {c c1 e : M} {vs vs1 : List Nat} {N : Nat}
theorem lc2_of {σ : L2.St} {H : Hp} {Q : VK} (hg : KeepLen g) (hg1 : KeepLen g1) (h : tE G false (eLc2 N vs vs1 n g c n1 g1 c1 e) σ H Q) :
    tLc2 (tI G q n) (tG G (others N vs) g) (tT G q2 c) (tI G q4 n1) (tG G (others N vs1) g1) (tT G q5 c1) (tE G q3 e) vs vs1 σ H Q := by
  obtain ⟨I0, F0, ρ0, d, ρ', f, em, k⟩ := h
  unfold eLc2 at em
  split at em
  · rename_i ds ρ1 en
    split at em
    · rename_i hl
      split at em
      · rename_i ys ρz ev
        split at em
        · rename_i hz
          cases em
          refine ⟨I0, F0, ρ0, ds, ρ1, f, en, fun J H1 I1 F1 g1' s1 nn1 it L hL => ?_⟩
          have hN : σ.length = N := by rw [← nn1.len]; exact hl
          let S : Nat → Hp → Prop := fun i H2 => ∃ I2 F2 ρ2 acc accV A r, EnvR G I2 H2 ρ2 σ F2 ∧ Go I0 H F0 I2 H2 ((L :: A) ++ F2) ∧ H2 L = some (.lst accV) ∧ RpL G I2 H2 acc accV A ∧ Same I1 I2 ∧
            evLc2 (inN vs) g c n1 (inN vs1) g1 c1 e (ds.drop i) ρ2 = some (r, ρ') ∧ acc ++ r = ys
          refine ⟨fun i m H2 => m = ds.length - i ∧ i ≤ ds.length ∧ S i H2, ⟨ds.length, by omega, Nat.zero_le _, I1, F1, ρ1, [], [], [], ys, nn1.stay (Same.refl _) fun a o _ e => same_new hL a o e, by simpa using g1'.alloc nn1.live hL, upd_same, ⟨rfl, rfl⟩, Same.refl _, ev, List.nil_append _⟩, ?_⟩
          rintro i m H2 ⟨rfl, hi, I2, F2, ρ2, acc, accV, A, r, n2, g2, hDl, rAl, s2, e2, ey⟩
          by_cases hlt : i < ds.length
          · refine .inr ⟨it.go i H2 (s2.trans g2.top) hlt, S (i + 1), fun H' hS => ⟨ds.length - (i + 1), by omega, rfl, hlt, hS⟩, fun x H3 y => ?_⟩
            obtain ⟨I3, mo, d, hd, rd⟩ := it.yld i I2 H2 x H3 s2 g2.top hlt y
            rw [List.drop_eq_getElem_cons hlt] at e2
            have ed : ds[i] = d := by
              rw [List.getElem?_eq_getElem hlt] at hd
              exact Option.some.inj hd
            rw [ed] at e2
            have lv2 : ∀ a ∈ (L :: A) ++ F2, ∃ o, H2 a = some o := fun a m => by
              rcases List.mem_append.mp m with m | m
              · rcases List.mem_cons.mp m with rfl | m
                · exact ⟨_, hDl⟩
                · exact rAl.live _ _ _ a m
              · exact n2.live a m
            have g3 := mo.go' g2 lv2
            have n3 : EnvR G I3 H3 ρ2 σ F2 := n2.stay mo.sub fun a o _ e => mo.keep a o e
            obtain ⟨Fo, Fr, pm, nb, back⟩ := n3.split (inN vs)
            have g4 : Go I0 H F0 I3 H3 ((L :: (Fo ++ A)) ++ Fr) := g3.perm (perm_of fun a => by
              have := pm.count_eq a
              simp only [List.count_append, List.count_cons] at this ⊢
              omega)
            have lv4 : ∀ a ∈ L :: (Fo ++ A), ∃ o, H3 a = some o := fun a m => by
              have : a ∈ (L :: A) ++ F2 := by
                simp only [List.mem_append, List.mem_cons] at m ⊢
                rcases m with m | m | m
                · exact .inl (.inl m)
                · exact .inr (pm.mem_iff.mpr (List.mem_append_left _ m))
                · exact .inl (.inr m)
              obtain ⟨o, ho⟩ := lv2 a this
              exact ⟨o, mo.keep a o ho⟩
            unfold evLc2 at e2
            split at e2
            · rename_i ρ4 eg
              rw [wipe_wp]
              refine ⟨I3, Fr, [], wp (inN vs) ρ2, d, ρ4, ⟨nb, g3.top, g4.tail.nd, g4.tail.off⟩, rd, eg, fun σ4 F4 n4 sub4 nd4 i4 => ?_⟩
              have l4 : σ4.length = N := by rw [← n4.len, hg _ _ _ eg, wp_len, n3.len, hN]
              have wE := ios_wp i4 hN l4
              refine ⟨by rw [wipe_wp]; exact wE, ?_⟩
              have T4 : Go I0 H F0 I3 H3 ((L :: (Fo ++ A)) ++ F4) := by
                have h := List.nodup_append.mp g4.nd
                refine g4.weak (fun a m => ?_) (List.nodup_append.mpr ⟨h.1, nd4, fun a m b m' => h.2.2 a m b (by simpa using sub4 b m')⟩)
                rcases List.mem_append.mp m with m | m
                · exact List.mem_append_left _ m
                · exact List.mem_append_right _ (by simpa using sub4 a m)
              have nT4 : ∀ a ∈ L :: (Fo ++ A), a ∉ F4 := fun a m m' => (List.nodup_append.mp T4.nd).2.2 a m a m' rfl
              have rA3 : RpL G I3 H3 acc accV A := rAl.stay mo.sub _ _ _ fun a o _ e => mo.keep a o e
              have hD3 : H3 L = some (.lst accV) := mo.keep _ _ hDl
              split at e2
              · rename_i ρ5 ec
                refine ⟨I3, F4, ρ4, true, ρ5, ⟨n4, g3.top, nd4, T4.tail.off⟩, ec, fun H5 I5 F5 g5 s5 n5 => ?_⟩
                have T5 := T4.trans g5 lv4
                have nT5 : ∀ a ∈ L :: (Fo ++ A), a ∉ F5 := fun a m m' => (List.nodup_append.mp T5.nd).2.2 a m a m' rfl
                refine iteT ?_
                split at e2
                · rename_i es ρ6 esrc
                  split at e2
                  · rename_i ys' ρ7 el
                    split at e2
                    · rename_i zs ρ8 er
                      cases e2
                      refine ⟨I5, F5, ρ5, es, ρ6, .of g5 n5, esrc, fun J1 H6 I6 F6 g6 s6 n6 it1 => ?_⟩
                      have k6 : ∀ a o, a ∈ L :: (Fo ++ A) → H3 a = some o → H6 a = some o := fun a o m ho => g6.keep a o (g5.keep a o ho (nT4 a m)) (nT5 a m)
                      have T6 := T5.trans g6 fun a m => by
                        obtain ⟨o, ho⟩ := lv4 a m
                        exact ⟨o, g5.keep a o ho (nT4 a m)⟩
                      have hz' : (acc ++ ys').length ≤ sizeLine := by
                        have := congrArg List.length ey
                        simp only [List.length_append] at this ⊢
                        omega
                      refine lc_loop (I0 := I0) (H0 := H) (F0 := F0) (T := Fo) (A0 := A) hg1 l4 it1 n6 T6 (fun a m => ?_) (k6 L _ List.mem_cons_self hD3) (rA3.stay (g5.sub.trans g6.sub) _ _ _ fun a o m ho => k6 a o (List.mem_cons_of_mem _ (List.mem_append_right _ m)) ho) el rfl hz' fun H7 I7 F7 accV7 A7 n7 g7 kT7 hD7 rA7 s7 => ?_
                      · obtain ⟨o, ho⟩ := lv4 a (List.mem_cons_of_mem _ (List.mem_append_left _ m))
                        exact ⟨o, k6 a o (List.mem_cons_of_mem _ (List.mem_append_left _ m)) ho⟩
                      · obtain ⟨F8, Fd, n8, pm8⟩ := back ((g5.sub.trans g6.sub).trans s7) (fun a o m ho => kT7 a m o (k6 a o (List.mem_cons_of_mem _ (List.mem_append_left _ m)) ho)) n7 wE
                        have T8 : Go I0 H F0 I7 H7 (((L :: A7) ++ F8) ++ Fd) := g7.perm (perm_of fun a => by
                          have := pm8.count_eq a
                          simp only [List.count_append, List.count_cons] at this ⊢
                          omega)
                        exact ⟨I7, F8, _, _, accV7, A7, zs, n8, T8.left, hD7, rA7, ((s2.trans mo.sub).trans (g5.sub.trans g6.sub)).trans s7, er, by rw [List.append_assoc]; exact ey⟩
                    · cases e2
                  · cases e2
                · cases e2
              · rename_i ρ5 ec
                refine ⟨I3, F4, ρ4, false, ρ5, ⟨n4, g3.top, nd4, T4.tail.off⟩, ec, fun H5 I5 F5 g5 s5 n5 => ?_⟩
                have T5 := T4.trans g5 lv4
                refine iteF ?_
                have k5 : ∀ a o, a ∈ L :: (Fo ++ A) → H3 a = some o → H5 a = some o := fun a o m ho => g5.keep a o ho (nT4 a m)
                obtain ⟨F8, Fd, n8, pm8⟩ := back g5.sub (fun a o m ho => k5 a o (List.mem_cons_of_mem _ (List.mem_append_left _ m)) ho) n5 wE
                have T8 : Go I0 H F0 I5 H5 (((L :: A) ++ F8) ++ Fd) := T5.perm (perm_of fun a => by
                  have := pm8.count_eq a
                  simp only [List.count_append, List.count_cons] at this ⊢
                  omega)
                exact ⟨I5, F8, _, acc, accV, A, r, n8, T8.left, k5 L _ List.mem_cons_self hD3, rA3.stay g5.sub _ _ _ fun a o m ho => k5 a o (List.mem_cons_of_mem _ (List.mem_append_right _ m)) ho, (s2.trans mo.sub).trans g5.sub, e2, ey⟩
              · cases e2
            · cases e2
          · have ei : i = ds.length := by omega
            subst ei
            rw [List.drop_length] at e2
            cases e2
            rw [List.append_nil] at ey
            subst ey
            exact .inl ⟨it.stop _ H2 (s2.trans g2.top) (Nat.le_refl _), k (.ref L) H2 I2 (L :: A) F2 g2 (fun z => nomatch z) n2 ⟨L, accV, A, rfl, rfl, hDl, rAl⟩⟩
        · cases em
      · cases em
    · cases em
  · cases em
end

/-- a clause's tests -/
structure DTs (X : Cx) (cls : Nat → Addr) (ifs : List Expr) (q : Bool) (m : M) : Prop where
  pt : PTs X ifs (tT (cgOf X cls) q m)
theorem dts_nil {X : Cx} {cls : Nat → Addr} : DTs X cls [] true cYes := by
  refine ⟨⟨fun pins s σ H Q J ⟨I, F, ρ, b, ρ', f, e, k⟩ => pts_nil.run pins s σ H Q J ?_⟩⟩
  cases e
  exact k H I F f.go (fun _ => Same.refl _) f.env
theorem dts_one {X : Cx} {cls : Nat → Addr} {e : Expr} {q : Bool} {m : M} (h : DT X cls e q m) : DTs X cls [e] q m := ⟨pts_one h.pt⟩

section
variable {X : Cx} {cls : Nat → Addr} {elt tg iter tg1 iter1 : Expr} {ifs ifs1 : List Expr} {scope : Scope} {own : List (Str × Nat)} {vs vs1 : List Nat} {pos : Pos} {n n1 : Ms} {g g1 : Mg} {c c1 e : M} {q q1 q2 q3 q4 : Bool} {N : Nat}
theorem de_lc (hc : X.calm = true) (hN : X.N.Nodup) (hi : DI X cls tg iter q n) (ok : BlkOk X.N X.env.scope scope own) (hv : own.map (·.2) = vs) (hl : KeepLen g)
    (hg : ∀ (s : Shared) (H : Hp) (C : Addr) (cl : List (Str × Addr)) (fp : List Addr), DG (X.blk s H scope (compEnvC scope cl C X.env) fp) cls (others N vs) tg g)
    (ht : ∀ (s : Shared) (H : Hp) (C : Addr) (cl : List (Str × Addr)) (fp : List Addr), DTs (X.blk s H scope (compEnvC scope cl C X.env) fp) cls ifs q2 c)
    (he : ∀ (s : Shared) (H : Hp) (C : Addr) (cl : List (Str × Addr)) (fp : List Addr), DE (X.blk s H scope (compEnvC scope cl C X.env) fp) cls elt q3 e) (hs : ∀ x, foldedSetIterable iter X.env x = pure x := by intro _; rfl) :
    DE X cls (.ListComp elt [⟨tg, iter, ifs, 0⟩] scope pos) false (eLc N vs n g c e) := by
  subst hv
  exact ⟨PE.imp (pe_lc hc hN hi.pi ok (fun s H C cl fp => (hg s H C cl fp).pg) (fun s H C cl fp => (ht s H C cl fp).pt) (fun s H C cl fp => (he s H C cl fp).pe) hs) fun σ H Q h => lc_of hl h⟩
theorem de_lc2 (hc : X.calm = true) (hN : X.N.Nodup) (hi : DI X cls tg iter q n) (ok : BlkOk X.N X.env.scope scope own) (hv : own.map (·.2) = vs) (hv1 : ∀ i ∈ vs1, i ∈ own.map (·.2)) (hl : KeepLen g) (hl1 : KeepLen g1)
    (hg : ∀ (s : Shared) (H : Hp) (C : Addr) (cl : List (Str × Addr)) (fp : List Addr), DG (X.blk s H scope (compEnvC scope cl C X.env) fp) cls (others N vs) tg g)
    (ht : ∀ (s : Shared) (H : Hp) (C : Addr) (cl : List (Str × Addr)) (fp : List Addr), DTs (X.blk s H scope (compEnvC scope cl C X.env) fp) cls ifs q2 c)
    (hi1 : ∀ (s : Shared) (H : Hp) (C : Addr) (cl : List (Str × Addr)) (fp : List Addr), DI (X.blk s H scope (compEnvC scope cl C X.env) fp) cls tg1 iter1 q4 n1)
    (hg1 : ∀ (s : Shared) (H : Hp) (C : Addr) (cl : List (Str × Addr)) (fp : List Addr), DG (X.blk s H scope (compEnvC scope cl C X.env) fp) cls (others N vs1) tg1 g1)
    (ht1 : ∀ (s : Shared) (H : Hp) (C : Addr) (cl : List (Str × Addr)) (fp : List Addr), DTs (X.blk s H scope (compEnvC scope cl C X.env) fp) cls ifs1 q1 c1)
    (he : ∀ (s : Shared) (H : Hp) (C : Addr) (cl : List (Str × Addr)) (fp : List Addr), DE (X.blk s H scope (compEnvC scope cl C X.env) fp) cls elt q3 e) (hs : ∀ x, foldedSetIterable iter X.env x = pure x := by intro _; rfl) (hs1 : ∀ env x, foldedSetIterable iter1 env x = pure x := by intro _ _; rfl) :
    DE X cls (.ListComp elt [⟨tg, iter, ifs, 0⟩, ⟨tg1, iter1, ifs1, 0⟩] scope pos) false (eLc2 N vs vs1 n g c n1 g1 c1 e) := by
  subst hv
  exact ⟨PE.imp (pe_lc2 hc hN hi.pi ok hv1 (fun s H C cl fp => (hg s H C cl fp).pg) (fun s H C cl fp => (ht s H C cl fp).pt) (fun s H C cl fp => (hi1 s H C cl fp).pi) (fun s H C cl fp => (hg1 s H C cl fp).pg) (fun s H C cl fp => (ht1 s H C cl fp).pt)
    (fun s H C cl fp => (he s H C cl fp).pe) hs hs1) fun σ H Q h => lc2_of hl hl1 h⟩
end
end Ev

/-! Ev13: calls with frozen arguments, with a lent name; methods, properties, fields; new instances. -/
namespace Ev
open PySem PySem.Spec PyProof.Rows L2

section
variable {X : Cx} {cls : Nat → Addr} {k n : Nat} {f C : Addr} {fd : FuncData} {ps : List Str} {F : FSem} {x m : Str} {p pos apos : Pos} {e o : Expr} {es : List Expr} {ms : Ms} {ma : M} {q q1 q2 : Bool} {i : Nat}
theorem RpL.nil_of {G : Cg} {I H : Hp} {vs : List V} {C : List Addr} {l : Nat} (h : RpL G I H [] (vs.take l) C) : C = [] := h.2
/-- all arguments frozen: nothing that stands is changed -/
theorem callP_of {G : Cg} {σ : L2.St} {H : Hp} {Q : VK} {E : XK} (hn : ∀ ρ ds ρ', ms ρ = some (ds, ρ') → ds.length = n) (h : tE G q (eCall F ms) σ H Q) : tAs G true q ms σ H (fun vs H1 => spF G n 0 F vs H1 Q E) := by
  obtain ⟨I, F0, ρ, d, ρ', f, e, k⟩ := h
  unfold eCall at e
  split at e
  · rename_i ds ρ1 em
    split at e
    · rename_i r eF
      cases e
      refine ⟨I, F0, ρ, ds, ρ', f, em, fun vs H1 I1 F1 g s n1 sv pv => ?_⟩
      have rl := pv rfl
      refine ⟨by rw [← rl.length]; exact hn _ _ _ em, I1, ds, [], d, [], g.top, rl, List.nodup_nil, (fun _ z => nomatch z), eF, fun v H2 I2 B C g2 rv rc => ?_⟩
      obtain ⟨_, rfl⟩ := rc
      have g2' := Go.trans (T := F1) (F1 := []) (by simpa using g) g2 n1.live
      rw [List.append_nil] at g2'
      exact k v H2 I2 B F1 (g2'.perm List.perm_append_comm) (fun z => (s z).trans fun a o ho => g2.keep a o ho (fun z => nomatch z)) (n1.stay g2.sub fun a o _ e => g2.keep a o e fun z => nomatch z) rv
    · cases e
  · cases e
theorem de_callP (hgd : X.A.guards = some []) (c : Cl X cls x n 0 F) (ha : DAs X cls (e :: es) true q ms) (hn : ∀ ρ ds ρ', ms ρ = some (ds, ρ') → ds.length = n)
    (hdb : (x == ("__debug__" : Str)) = false := by decide) (he : starEach (e :: es) X.env = (false, eval e X.env) :: starEach es X.env := by rfl) (hpl : (backTo pos (starEach es X.env)).any (·.1) = false := by rfl) :
    DE X cls (.Call (.Name x p) (e :: es) [] pos) q (eCall F ms) := by
  obtain ⟨k, f, fd, ps, hF, hr, hm, hk, hb⟩ := c.ok
  exact ⟨PE.imp (pe_callG (E := E0) hgd hF hr c.gl hm hk hb pass0 ha.pa hdb he hpl) fun _ _ _ h => callP_of hn h⟩
theorem de_call0 (hgd : X.A.guards = some []) (c : Cl X cls x 0 0 F) (hdb : (x == ("__debug__" : Str)) = false := by decide) : DE X cls (.Call (.Name x p) [] [] pos) true (eCall F eNil) := by
  obtain ⟨k, f, fd, ps, hF, hr, hm, hk, hb⟩ := c.ok
  refine ⟨PE.imp (pe_callG0 (E := E0) hgd hF hr c.gl hm hk hb pass0 hdb) fun σ H Q h => ?_⟩
  have h := callP_of (n := 0) (E := E0) (fun ρ ds ρ' e => by unfold eNil at e; cases e; rfl) h
  obtain ⟨I, F0, ρ, ds, ρ', f, e, k⟩ := h
  cases e
  exact k [] H I F0 f.go (fun _ => Same.refl _) f.env rfl fun _ => ⟨rfl, rfl⟩
/-! ### a name is lent as the first argument -/
theorem callL_of {G : Cg} {σ : L2.St} {H : Hp} {Q : VK} {E : XK} (hn : ∀ ρ ds ρ', ms ρ = some (ds, ρ') → ds.length + 1 = n) (h : tE G false (eCallL F i ms) σ H Q) : tVar i σ H fun v H1 => tEs G q ms σ H1 fun vs H2 => spF G n 1 F (v :: vs) H2 Q E := by
  obtain ⟨I, F0, ρ, d, ρ', f, e, k⟩ := h
  unfold eCallL at e
  split at e
  · rename_i d0 hi0
    split at e
    · rename_i ds ρ1 em
      split at e
      · rename_i d1 hi1
        split at e
        · rename_i r d' eF
          cases e
          obtain ⟨v, L0, B0, R0, hs, _, _, _⟩ := f.env.at hi0
          refine ⟨v, hs, I, F0, ρ, ds, ρ1, f, em, fun vs H1 I1 A F1 g s n1 rl => ?_⟩
          obtain ⟨v', L, B, R, hs', rfl, rv, put⟩ := n1.at hi1
          rw [hs] at hs'
          cases hs'
          have nd := List.nodup_append.mp g.nd
          obtain ⟨m1, m2, m3, m4⟩ := nodup_mid nd.2.1
          have rl' : RpL G I1 H1 (d1 :: ds) (v :: vs) (B ++ A) := ⟨v, vs, B, A, rfl, rfl, rv, rl⟩
          have ndBA : (B ++ A).Nodup := List.nodup_append.mpr ⟨m2, nd.1, fun a ma b mb e => nd.2.2 b mb a (by simp only [List.mem_append]; exact .inr (.inl ma)) e.symm⟩
          have gP : Go I H F0 I1 H1 ((L ++ R) ++ (B ++ A)) := g.perm (perm_of fun a => by
            simp only [List.count_append]
            omega)
          refine ⟨by rw [← rl'.length]; exact hn _ _ _ em, I1, d1 :: ds, B ++ A, d, [d'], g.top, rl', ndBA, fun a m => g.off a (by
            simp only [List.mem_append] at m ⊢
            rcases m with m | m
            · exact .inr (.inr (.inl m))
            · exact .inl m), eF, fun v2 H2 I2 B2 C g2 rv2 rc => ?_⟩
          have rc' : RpL G I2 H2 [d'] [v] C := rc
          obtain ⟨_, _, C1, C2, ev, rfl, rd, _, rfl⟩ := rc'
          cases ev
          have lvLR : ∀ a ∈ L ++ R, ∃ o, H1 a = some o := fun a m => n1.live a (by
            simp only [List.mem_append] at m ⊢
            rcases m with m | m
            · exact .inl m
            · exact .inr (.inr m))
          have g3 := gP.trans g2 lvLR
          have nLR : ∀ a ∈ L ++ R, a ∉ B ++ A := fun a m m' => (List.nodup_append.mp gP.nd).2.2 a m a m' rfl
          have keepLR : ∀ a o, a ∈ L ++ R → H1 a = some o → H2 a = some o := fun a o m ho => g2.keep a o ho (nLR a m)
          refine k v2 H2 I2 B2 (L ++ (C1 ++ R)) (g3.perm (perm_of fun a => by
            simp only [List.count_append, List.count_nil]
            omega)) (fun z => nomatch z) ?_ rv2
          have := put (some d') (some v) C1 g2.sub (fun a o m ho => keepLR a o (List.mem_append_left _ m) ho) (fun a o m ho => keepLR a o (List.mem_append_right _ m) ho) ⟨v, rfl, rd⟩
          rwa [show σ.set i (some v) = σ from set_same hs] at this
        · cases e
      · cases e
    · cases e
  · cases e
theorem de_callL {y : Str} {yp : Pos} (hgd : X.A.guards = some []) (c : Cl X cls x n 1 F) (hy : Nm X i y) (ha : DEs X cls es q ms) (hn : ∀ ρ ds ρ', ms ρ = some (ds, ρ') → ds.length + 1 = n)
    (hdb : (x == ("__debug__" : Str)) = false := by decide) (he : starEach (.Name y yp :: es) X.env = (false, eval (.Name y yp) X.env) :: starEach es X.env := by rfl) (hpl : (backTo pos (starEach es X.env)).any (·.1) = false := by rfl) :
    DE X cls (.Call (.Name x p) (.Name y yp :: es) [] pos) false (eCallL F i ms) := by
  obtain ⟨k, f, fd, ps, hF, hr, hm, hk, hb⟩ := c.ok
  exact ⟨PE.imp (pe_callG (E := E0) hgd hF hr c.gl hm hk hb pass0 (pa_cons hy.pe ha.pa he) hdb he hpl) fun _ _ _ h => callL_of hn h⟩
end

/-! ### fields -/
section
variable {G : Cg} {I H : Hp}
theorem RpF.look : ∀ {fs : List (Str × D)} {gs : List (Str × V)} {f : Str} {d : D}, RpF G I H fs gs [] → fs.lookup f = some d → ∃ v, gs.lookup f = some v ∧ Rp G I H d v []
  | [], _, _, _, _, e => by simp at e
  | (g, x) :: fs, _, f, d, ⟨v, r, B, C, e, hA, q, h⟩, z => by
    obtain ⟨rfl, rfl⟩ := List.append_eq_nil_iff.mp hA.symm
    subst e
    rw [List.lookup_cons] at z ⊢
    cases b : (f == g) with
    | true =>
      rw [b] at z
      simp only at z ⊢
      cases z
      exact ⟨v, rfl, q⟩
    | false =>
      rw [b] at z
      simp only at z ⊢
      exact RpF.look h z
theorem RpF.none : ∀ {fs : List (Str × D)} {gs : List (Str × V)} {f : Str} {A : List Addr}, RpF G I H fs gs A → fs.lookup f = none → gs.lookup f = none
  | [], _, _, _, h, e => by rw [h.1]; rfl
  | (g, x) :: fs, _, f, A, ⟨v, r, B, C, e, hA, q, h⟩, z => by
    subst e
    rw [List.lookup_cons] at z ⊢
    cases b : (f == g) with
    | true => rw [b] at z; cases z
    | false =>
      rw [b] at z
      simp only at z ⊢
      exact RpF.none h z
end
def fldD (c : Nat) (f : Str) : D → Option D
  | .ins _ c' fs => if c' = c then fs.lookup f else none
  | _ => none
section
variable {X : Cx} {cls : Nat → Addr} {k n c : Nat} {g C fI : Addr} {fd : FuncData} {ps : List Str} {F : FSem} {f x m : Str} {p pos apos : Pos} {e o : Expr} {es : List Expr} {ms : Ms} {ma : M} {q q1 q2 pp pa : Bool} {i : Nat}
theorem look_plain {f : Str} {r : D} : ∀ {fs : List (Str × D)}, fs.lookup f = some r → frzF fs = fs → Ev.frz r = r
  | [], h, _ => by simp at h
  | (g, y) :: fs, h, z => by
    simp only [frzF, List.cons.injEq, Prod.mk.injEq, true_and] at z
    rw [List.lookup_cons] at h
    cases b : (f == g) with
    | true => rw [b] at h; cases h; exact z.1
    | false => rw [b] at h; exact look_plain h z.2
theorem fld_plain {d r : D} (h : fldD c f d = some r) (z : Ev.frz d = d) : Ev.frz r = r := by
  unfold fldD at h
  split at h
  · split at h
    · simp only [Ev.frz, D.ins.injEq] at z
      exact look_plain h z.2.2
    · cases h
  · cases h
/-- e.f: a part of what stands -/
theorem da_fld (hc : Cls X.K (cls c)) (hf : NoAttr X.K (cls c) f) (ha : DA X cls e pa q ma) (hb : attributeBase e f X.env (eval e X.env) = eval e X.env := by rfl) : DA X cls (.Attribute e f pos) true q (eOp1 (fldD c f) ma) := by
  refine ⟨PE.imp (pe_fld ha.pe hb) fun σ H Q ⟨I, F, ρ, d, ρ', ft, em, k⟩ => ?_, fun ρ d ρ' em => ?_⟩
  · obtain ⟨d0, e0, ef⟩ := eOp1_some em
    refine ⟨I, F, ρ, d0, ρ', ft, e0, fun v H1 I1 F1 g1 s1 n1 sv _ => ?_⟩
    have zz := fld_plain ef (ha.pl _ _ _ e0)
    unfold fldD at ef
    split at ef
    · rename_i o c' fs
      split at ef
      · rename_i ec
        subst ec
        obtain ⟨a, dx, gs, rfl, hA, _, rf⟩ := sv
        obtain ⟨w, hw, rw'⟩ := rf.look ef
        exact ⟨a, _, dx, gs, w, rfl, hA, hc, hf, hw, k w H1 I1 F1 g1 s1 n1 (rw'.sv g1.top zz) fun _ => rw'⟩
      · cases ef
    · cases ef
  · obtain ⟨d0, e0, ef⟩ := eOp1_some em
    exact fld_plain ef (ha.pl _ _ _ e0)
theorem de_da (ha : DA X cls e true q ma) : DE X cls e q ma := ⟨PE.imp ha.pe fun σ H Q ⟨I, F, ρ, d, ρ', f, em, k⟩ => ⟨I, F, ρ, d, ρ', f, em, fun v H' I' F' g s n _ pv => k v H' I' [] F' g s n (pv rfl)⟩⟩

/-! ### methods -/
/-- o.m(..), o an instance of the class c, frozen -/
def eMeth (c : Nat) (m : Str) (F : FSem) (ma : M) (ms : Ms) : M := fun ρ => match ma ρ with
  | some (.ins o c' fs, ρ1) => if c' = c ∧ fs.lookup m = none then match ms ρ1 with
      | some (ds, ρ2) => match F (.ins o c' fs :: ds) with
        | some (r, []) => some (r, ρ2)
        | _ => none
      | none => none
    else none
  | _ => none
/-- a method that may be called: n arguments beside the instance -/
structure Mt (X : Cx) (cls : Nat → Addr) (c : Nat) (m : Str) (n : Nat) (F : FSem) : Prop where
  cl : Cls X.K (cls c)
  ok : ∃ (k : Nat) (f : Addr) (fd : FuncData) (ps : List Str), Meth X.K (cls c) m f ∧ FnG X.prog X.w X.K X.mg X.base CX0 k f fd ps (spF (cgOf X cls) (n + 1) 0 F) ∧ Room k X.A ∧ Binds X.K fd ps []
theorem meth_of {G : Cg} {σ : L2.St} {H : Hp} {Q : VK} {E : XK} (hp : (pa || q2) = true) (hn : ∀ ρ ds ρ', ms ρ = some (ds, ρ') → ds.length = n) (hm : Plain ma) (h : tE G (q1 && q2) (eMeth c m F ma ms) σ H Q) (hpa : pa = true) :
    tMethG (G.cls c) m (spF G (n + 1) 0 F) E (tA G pa q1 ma) (tAs G true q2 ms) σ H Q := by
  obtain ⟨I, F0, ρ, d, ρ', f, e, k⟩ := h
  unfold eMeth at e
  split at e
  · rename_i o c' fs ρ1 ea
    split at e
    · rename_i hc
      obtain ⟨rfl, hl⟩ := hc
      split at e
      · rename_i ds ρ2 em
        split at e
        · rename_i r eF
          cases e
          refine ⟨I, F0, ρ, _, ρ1, f, ea, fun v H1 I1 F1 g1 s1 n1 sv pv => ?_⟩
          have rv := pv hpa
          obtain ⟨a, dx, gs, rfl, hA, _, rf⟩ := sv
          refine ⟨a, dx, gs, rfl, hA, rf.none hl, I1, F1, ρ1, ds, ρ', .of g1 n1, em, fun vs H2 I2 F2 g2 s2 n2 sv2 pv2 => ?_⟩
          have rl : RpL G I2 H2 (.ins o c' fs :: ds) (.ref a :: vs) [] := .cons0 (rv.up g2.sub) (pv2 rfl)
          refine ⟨by rw [← rl.length, List.length_cons, hn _ _ _ em], I2, _, [], d, [], g2.top, rl, List.nodup_nil, (fun _ z => nomatch z), eF, fun v H3 I3 B C g3 rv rc => ?_⟩
          obtain ⟨_, rfl⟩ := rc
          have g3' := Go.trans (T := F2) (F1 := []) (by simpa using g1.then g2) g3 n2.live
          rw [List.append_nil] at g3'
          exact k v H3 I3 B F2 (g3'.perm List.perm_append_comm) (fun z => by
            rw [Bool.and_eq_true] at z
            exact ((s1 z.1).trans (s2 z.2)).trans fun a o ho => g3.keep a o ho (fun z => nomatch z)) (n2.stay g3.sub fun a o _ e => g3.keep a o e fun z => nomatch z) rv
        · cases e
      · cases e
    · cases e
  · cases e
theorem de_meth {pl : Sem Bool} (hgd : X.A.guards = some []) (M : Mt X cls c m n F) (ho : DA X cls o true q1 ma) (ha : DAs X cls (e :: es) true q2 ms) (hn : ∀ ρ ds ρ', ms ρ = some (ds, ρ') → ds.length = n)
    (hst : starEach (e :: es) X.env = (false, eval e X.env) :: starEach es X.env := by rfl) (hpl : (backTo pos (starEach es X.env)).any (·.1) = false := by rfl)
    (ht : eval (.Call (.Attribute o m apos) (e :: es) [] pos) X.env = (do
      let rv ← eval o X.env
      standAt apos.atName
      let (g, first) ← holding [rv] (getMethod rv m pl)
      callWith pos g first (backTo pos (starEach (e :: es) X.env)) (backToKw pos (keywordEach [] X.env))) := by rfl) :
    DE X cls (.Call (.Attribute o m apos) (e :: es) [] pos) (q1 && q2) (eMeth c m F ma ms) := by
  obtain ⟨k, f, fd, ps, hm, hF, hr, hb⟩ := M.ok
  exact ⟨PE.imp (pe_methG (E := E0) hgd ho.pe M.cl hm hF hr hb pass0 ha.pa hst hpl ht) fun σ H Q h => meth_of (pa := true) rfl hn ho.pl h rfl⟩
/-! ### properties -/
theorem getprop_okG {f : Str} {p g a dx : Addr} {sp : Sp} {fs : List (Str × V)} {pins : List (Addr × Obj)} {σ : L2.St} {H : Hp} {s : Shared} {Q : VK} {b : Bool} {E' : Value → Shared → Prop} (hgd : X.A.guards = some []) (J : Inv X pins σ H s) (ea : H a = some (.ins C dx fs)) (c : Cls X.K C) (hp : PropOf X.K C f p g)
    (F : FnG X.prog X.w X.K X.mg X.base CX0 k g fd ps sp) (hr : Room (k + 1) X.A) (hb : Binds X.K fd ps []) (h : sp [.ref a] H Q E0) :
    wpAny (model X.prog X.w) X.A (getAttr (.ref a) f b) (EP X pins σ Q) E' s := by
  obtain ⟨mA, O, _⟩ := ins_get J.hok ea
  obtain ⟨od, T, _⟩ := O.look
  obtain ⟨rest, hrec⟩ := hp.rec_
  have I1 := J.tok (s.toks + 1)
  have hl : ([Value.ref a] ++ []).length = ps.length := by
    rw [← F.len _ _ _ _ h]
    rfl
  have hc : (PySem.W.clsIn X.K C).isSome = true := by
    obtain ⟨cd, hc, _⟩ := PySem.W.any_some c.hd
    rw [hc]
    rfl
  refine PySem.W.get_bind J.kIn T (PySem.W.plainGet_of (c.get f)).1 (PySem.W.findObj_data hc hp.at_ hp.get hp.tak) (PySem.W.plainGet_of (c.get f)).2 (wpAny_call (PySem.W.prop_get (s := { s with toks := s.toks + 1 }) J.kIn hrec ?_))
  refine codeAny_mono (F.run X.A.in1 X.stack { s with toks := s.toks + 1 } H ⟨[.ref a], []⟩ [.ref a] [.ref a] Q E0 (by exact hgd) hr.in1 I1.env0.in1 (by
    have := hb { s with toks := s.toks + 1 } [.ref a] I1.kIn hl
    rwa [List.append_nil] at this) (.cons rfl .nil) h) fun r s' hq => ?_
  cases r with
  | error er => exact False.elim (pass0 (X := X.nox) pins σ H { s with toks := s.toks + 1 } er s' (I1.wish _) hq)
  | ok fl =>
    cases fl with
    | ret u =>
      obtain ⟨v, H', I3, rv, q3⟩ := I1.after hq
      show wpAny _ _ (handedOut u) _ _ _
      rw [PySem.W.handedOut_of (handed_of rv)]
      exact wpAny_pure ⟨v, H', I3, rv, q3⟩
    | next => exact False.elim hq
    | brk => exact False.elim hq
    | cont => exact False.elim hq
/-- a property of the class c -/
structure Pr (X : Cx) (cls : Nat → Addr) (c : Nat) (f : Str) (F : FSem) : Prop where
  cl : Cls X.K (cls c)
  ok : ∃ (k : Nat) (p g : Addr) (fd : FuncData) (ps : List Str), PropOf X.K (cls c) f p g ∧ FnG X.prog X.w X.K X.mg X.base CX0 k g fd ps (spF (cgOf X cls) 1 0 F) ∧ Room (k + 1) X.A ∧ Binds X.K fd ps []
def eProp (c : Nat) (F : FSem) (ma : M) : M := fun ρ => match ma ρ with
  | some (.ins o c' fs, ρ1) => if c' = c then match F [.ins o c' fs] with
      | some (r, []) => some (r, ρ1)
      | _ => none
    else none
  | _ => none
theorem de_prop (hgd : X.A.guards = some []) (P : Pr X cls c f F) (ha : DA X cls e true q ma) (hb : attributeBase e f X.env (eval e X.env) = eval e X.env := by rfl) : DE X cls (.Attribute e f pos) q (eProp c F ma) := by
  obtain ⟨k, pA, g, fd, ps, hP, hF, hr, hbd⟩ := P.ok
  refine ⟨⟨fun pins s σ H Q J h => attr_of hb (thn (ha.pe.run pins s σ H (fun x H1 => ∃ a dx gs, x = .ref a ∧ H1 a = some (.ins (cls c) dx gs) ∧ spF (cgOf X cls) 1 0 F [.ref a] H1 Q E0) J ?_) fun u s1 ⟨x, H1, J1, rx, a, dx, gs, ex, hA, q1⟩ => ?_)⟩⟩
  · obtain ⟨I, F0, ρ, d, ρ', ft, em, kk⟩ := h
    unfold eProp at em
    split at em
    · rename_i o c' fs ρ1 ea
      split at em
      · rename_i ec
        subst ec
        split at em
        · rename_i r eF
          cases em
          refine ⟨I, F0, ρ, _, ρ', ft, ea, fun v H1 I1 F1 g1 s1 n1 sv pv => ?_⟩
          have rv := pv rfl
          obtain ⟨a, dx, gs, rfl, hA, _, rf⟩ := sv
          refine ⟨a, dx, gs, rfl, hA, rfl, I1, _, [], d, [], g1.top, .cons0 rv (show RpL (cgOf X cls) I1 H1 [] [] [] from ⟨rfl, rfl⟩), List.nodup_nil, (fun _ z => nomatch z), eF, fun v H3 I3 B C g3 rv rc => ?_⟩
          obtain ⟨_, rfl⟩ := rc
          have g3' := Go.trans (T := F1) (F1 := []) (by simpa using g1) g3 n1.live
          rw [List.append_nil] at g3'
          exact kk v H3 I3 B F1 (g3'.perm List.perm_append_comm) (fun z => (s1 z).trans fun a o ho => g3.keep a o ho (fun z => nomatch z)) (n1.stay g3.sub fun a o _ e => g3.keep a o e fun z => nomatch z) rv
        · cases em
      · cases em
    · cases em
  · subst ex
    obtain rfl : u = Value.ref a := rx
    exact getprop_okG hgd J1 hA P.cl hP hF hr hbd q1
/-! ### new instances -/
theorem run_makeG {sp : Sp} {vs : List V} {pins : List (Addr × Obj)} {σ : L2.St} {H : Hp} {s : Shared} {Q : VK} {us : List Value} (hgd : X.A.guards = some []) (M : Mk X.K C fI) (F : FnG X.prog X.w X.K X.mg X.base CX0 k fI fd ps sp) (hr : Room (k + 1) X.A) (hb : Binds X.K fd ps [])
    (J : Inv X pins σ H s) (r : Vals vs us)
    (h : ∀ x dx, H x = none → H dx = none → dx ≠ x → sp (.ref x :: vs) (upd (upd H dx (.own x)) x (.ins C dx [])) (fun v H2 => v = .non ∧ Q (.ref x) H2) E0) :
    wpAny (model X.prog X.w) X.A (call (.ref C) us) (EP X pins σ Q) X.xe s := by
  have hq := h (s.heap.objs.size + 1) s.heap.objs.size (J.hok.fresh (Nat.le_succ _)) (J.hok.fresh (Nat.le_refl _)) (Nat.ne_of_lt (Nat.lt_succ_self _))
  have I2 := Inv.made (C := C) J
  have r2 : Vals (V.ref (s.heap.objs.size + 1) :: vs) (Value.ref (s.heap.objs.size + 1) :: us) := .cons rfl r
  have hl : ((Value.ref (s.heap.objs.size + 1) :: us) ++ []).length = ps.length := by
    have e := r2.length
    rw [F.len _ _ _ _ hq] at e
    rw [List.append_nil]
    exact e.symm
  refine wpAny_call (make_map (f := fI) J.kIn M.makes M.init (beq_iff_eq.mp M.fn) (codeAny_mono (F.run _ X.stack _ _ ⟨Value.ref (s.heap.objs.size + 1) :: us, []⟩ (Value.ref (s.heap.objs.size + 1) :: us) _ _ E0 (by first | exact hgd | (simpa [Around.under, Code.isGuard] using hgd)) (hr.make C us [])
    (I2.env0.make C us []) (by
      have := hb _ (Value.ref (s.heap.objs.size + 1) :: us) I2.kIn hl
      rwa [List.append_nil] at this) r2 hq) fun r s' hq' => ?_))
  cases r with
  | error e => exact pass0 pins σ _ _ e s' I2 hq'
  | ok fl =>
    cases fl with
    | ret u =>
      obtain ⟨v, H', I3, rv, ev, q3⟩ := I2.after hq'
      subst ev
      exact ⟨rv, ⟨V.ref (s.heap.objs.size + 1), H', I3, rfl, q3⟩⟩
    | next => exact False.elim hq'
    | brk => exact False.elim hq'
    | cont => exact False.elim hq'
/-- a class of the text that may be called: its __init__ has n parameters beside the instance, which is lent -/
structure Mk1 (X : Cx) (cls : Nat → Addr) (x : Str) (c n : Nat) (F : FSem) : Prop where
  gl : Gl X x
  mg : X.mg x = some (.ref (cls c))
  ok : ∃ (k : Nat) (f : Addr) (fd : FuncData) (ps : List Str), Mk X.K (cls c) f ∧ FnG X.prog X.w X.K X.mg X.base CX0 k f fd ps (spF (cgOf X cls) (n + 1) 1 F) ∧ Room (k + 1) X.A ∧ Binds X.K fd ps []
def eMake (c : Nat) (F : FSem) (ms : Ms) : M := fun ρ => match ms ρ with
  | some (ds, ρ1) => match F (.ins true c [] :: ds) with
    | some (.non, [d]) => some (d, ρ1)
    | _ => none
  | none => none
theorem de_make (hgd : X.A.guards = some []) (M : Mk1 X cls x c n F) (ha : DEs X cls (e :: es) q ms) (hn : ∀ ρ ds ρ', ms ρ = some (ds, ρ') → ds.length = n)
    (hdb : (x == ("__debug__" : Str)) = false := by decide) (he : starEach (e :: es) X.env = (false, eval e X.env) :: starEach es X.env := by rfl) (hpl : (backTo pos (starEach es X.env)).any (·.1) = false := by rfl) :
    DE X cls (.Call (.Name x p) (e :: es) [] pos) false (eMake c F ms) := by
  obtain ⟨k, fI, fd, ps, hM, hF, hr, hb⟩ := M.ok
  refine ⟨⟨fun pins s σ H Q J h => wpAny_Call_Name_kw (ld_glob J M.gl M.mg (PySem.W.callWith_K (h₀ := X.base) J.ok.mod.kin hM.kp (thn (ha.pa.run pos pins s σ H (fun vs H1 => ∀ x dx, H1 x = none → H1 dx = none → dx ≠ x → spF (cgOf X cls) (n + 1) 1 F (.ref x :: vs) (upd (upd H1 dx (.own x)) x (.ins (cls c) dx [])) (fun v H2 => v = .non ∧ Q (.ref x) H2) E0) J ?_) fun us s1 ⟨vs, H1, J1, r, q1⟩ => ⟨J1.kIn, run_makeG hgd hM hF hr hb J1 r q1⟩) he hpl) hdb)⟩⟩
  obtain ⟨I, F0, ρ, d, ρ', ft, em, kk⟩ := h
  unfold eMake at em
  split at em
  · rename_i ds ρ1 es'
    split at em
    · rename_i d1 eF
      cases em
      refine ⟨I, F0, ρ, ds, ρ', ft, es', fun vs H1 I1 A F1 g1 s1 n1 rl y dx hy hdx hne => ?_⟩
      have lv1 : ∀ a ∈ A ++ F1, ∃ o, H1 a = some o := all_live rl n1
      have nA : ∀ a ∈ A ++ F1, a ≠ y ∧ a ≠ dx := fun a m => by
        obtain ⟨o, ho⟩ := lv1 a m
        exact ⟨fun e => (by rw [e, hy] at ho; cases ho), fun e => (by rw [e, hdx] at ho; cases ho)⟩
      have hy2 : (upd H1 dx (.own y)) y = none := by rw [upd_ne (Ne.symm hne)]; exact hy
      have sm : Same H1 (upd (upd H1 dx (.own y)) y (.ins (cls c) dx [])) := (same_new hdx).trans (same_new hy2)
      have g2 : Go I H F0 I1 (upd (upd H1 dx (.own y)) y (.ins (cls c) dx [])) (([y, dx]) ++ (A ++ F1)) :=
        g1.res (A := [y, dx]) lv1 (Same.refl _) (g1.top.trans sm) sm (fun _ _ z => .inl z) (fun a m => by
          have e : a = y ∨ a = dx := by simpa using m
          rcases e with rfl | rfl
          · exact ⟨hy, g1.top.free hy⟩
          · exact ⟨hdx, g1.top.free hdx⟩) (by simp [Ne.symm hne])
      have rd : Rp (cgOf X cls) I1 (upd (upd H1 dx (.own y)) y (.ins (cls c) dx [])) (.ins true c []) (.ref y) [y, dx] := by
        simp only [Rp]
        exact ⟨y, dx, [], [], rfl, rfl, upd_same, by rw [upd_ne hne, upd_same], rfl, rfl⟩
      have rl2 : RpL (cgOf X cls) I1 (upd (upd H1 dx (.own y)) y (.ins (cls c) dx [])) ds vs A := rl.stay (Same.refl _) _ _ _ fun a o _ ho => sm a o ho
      have nd := g2.nd
      refine ⟨?_, I1, .ins true c [] :: ds, [y, dx] ++ A, .non, [d], g2.top, ⟨.ref y, vs, [y, dx], A, rfl, rfl, rd, rl2⟩, ?_, fun a m => g2.off a ?_, eF, fun v H2 I2 B C g3 rv rc => ?_⟩
      · rw [List.length_cons, ← rl.length, hn _ _ _ es']
      · rw [← List.append_assoc] at nd
        exact (List.nodup_append.mp nd).1
      · rw [← List.append_assoc]
        exact List.mem_append_left _ m
      · simp only [Rp] at rv
        obtain ⟨rfl, rfl⟩ := rv
        refine ⟨rfl, ?_⟩
        have rc' : RpL (cgOf X cls) I2 H2 [d] [.ref y] C := rc
        obtain ⟨_, _, C1, C2, ev, rfl, rdd, _, rfl⟩ := rc'
        cases ev
        have gP : Go I H F0 I1 (upd (upd H1 dx (.own y)) y (.ins (cls c) dx [])) (F1 ++ ([y, dx] ++ A)) := g2.perm (perm_of fun a => by
          simp only [List.count_append]
          omega)
        have lvF : ∀ a ∈ F1, ∃ o, (upd (upd H1 dx (.own y)) y (.ins (cls c) dx [])) a = some o := fun a m => by
          obtain ⟨o, ho⟩ := n1.live a m
          exact ⟨o, sm a o ho⟩
        have g4 := gP.trans g3 lvF
        have nF : ∀ a ∈ F1, a ∉ [y, dx] ++ A := fun a m m' => (List.nodup_append.mp gP.nd).2.2 a m a m' rfl
        refine kk (.ref y) H2 I2 C1 F1 (g4.perm (perm_of fun a => by
          simp only [List.count_append, List.count_nil]
          omega)) (fun z => nomatch z) (n1.stay g3.sub fun a o m ho => g3.keep a o (sm a o ho) (nF a m)) rdd
    · cases em
  · cases em
end
end Ev

/-! Ev14: places (a name, its items, its fields) and what is done to them. -/
namespace Ev
open PySem PySem.Spec PyProof.Rows L2

section
variable {G : Cg} {I H : Hp}
/-- an item of a list, and the rest around it -/
theorem RpL.at : ∀ {xs : List D} {vs : List V} {B : List Addr} {j : Nat} {y : D}, RpL G I H xs vs B → xs[j]? = some y → ∃ v1 L A1 R, vs[j]? = some v1 ∧ B = L ++ (A1 ++ R) ∧ Rp G I H y v1 A1 ∧
    (∀ {I' H' : Hp} (y' : D) (w : V) (A1' : List Addr), Same I I' → (∀ a o, a ∈ L ++ R → H a = some o → H' a = some o) → Rp G I' H' y' w A1' → RpL G I' H' (xs.set j y') (vs.set j w) (L ++ (A1' ++ R))) ∧
    ∀ {I' H' : Hp}, Same I I' → (∀ a o, a ∈ L ++ R → H a = some o → H' a = some o) → RpL G I' H' (xs.eraseIdx j) (vs.eraseIdx j) (L ++ R)
  | [], _, _, _, _, _, e => by simp at e
  | x :: xs, _, _, 0, y, ⟨v, r, B, C, e, f, q, h⟩, z => by
    have : x = y := by simpa using z
    subst this
    subst e f
    refine ⟨v, [], B, C, rfl, rfl, q, fun {I' H'} y' w A1' s k r' => ?_, fun {I' H'} s k => ?_⟩
    · exact ⟨w, r, A1', C, rfl, rfl, r', h.stay s _ _ _ fun a o m => k a o (by simpa using m)⟩
    · exact h.stay s _ _ _ fun a o m => k a o (by simpa using m)
  | x :: xs, _, _, j + 1, y, ⟨v, r, B, C, e, f, q, h⟩, z => by
    subst e f
    obtain ⟨v1, L, A1, R, hv, rfl, r1, st, er⟩ := RpL.at (j := j) h (by simpa using z)
    refine ⟨v1, B ++ L, A1, R, by simpa using hv, by rw [List.append_assoc], r1, fun {I' H'} y' w A1' s k r' => ?_, fun {I' H'} s k => ?_⟩
    · have k1 : ∀ a o, a ∈ B → H a = some o → H' a = some o := fun a o m => k a o (List.mem_append_left _ (List.mem_append_left _ m))
      have k2 : ∀ a o, a ∈ L ++ R → H a = some o → H' a = some o := fun a o m => k a o (by
        simp only [List.mem_append] at m ⊢
        rcases m with m | m
        · exact .inl (.inr m)
        · exact .inr m)
      exact ⟨v, r.set j w, B, _, rfl, by rw [List.append_assoc], q.stay s _ _ _ k1, st y' w A1' s k2 r'⟩
    · have k1 : ∀ a o, a ∈ B → H a = some o → H' a = some o := fun a o m => k a o (List.mem_append_left _ (List.mem_append_left _ m))
      have k2 : ∀ a o, a ∈ L ++ R → H a = some o → H' a = some o := fun a o m => k a o (by
        simp only [List.mem_append] at m ⊢
        rcases m with m | m
        · exact .inl (.inr m)
        · exact .inr m)
      exact ⟨v, r.eraseIdx j, B, L ++ R, rfl, by rw [List.append_assoc], q.stay s _ _ _ k1, er s k2⟩
/-- a field of an instance -/
theorem RpF.at : ∀ {fs : List (Str × D)} {gs : List (Str × V)} {B : List Addr} {f : Str} {y : D}, RpF G I H fs gs B → fs.lookup f = some y → ∃ v1 A1 R, gs.lookup f = some v1 ∧ B.Perm (A1 ++ R) ∧ Rp G I H y v1 A1
  | [], _, _, _, _, _, e => by simp at e
  | (g, x) :: fs, _, _, f, y, ⟨v, r, B, C, e, hA, q, h⟩, z => by
    subst e hA
    rw [List.lookup_cons] at z ⊢
    cases b : (f == g) with
    | true =>
      rw [b] at z
      simp only at z ⊢
      cases z
      exact ⟨v, B, C, rfl, .refl _, q⟩
    | false =>
      rw [b] at z
      simp only at z ⊢
      obtain ⟨v1, A1, R, hv, pm, r1⟩ := RpF.at h z
      refine ⟨v1, A1, B ++ R, hv, perm_of fun a => ?_, r1⟩
      have := pm.count_eq a
      simp only [List.count_append] at this ⊢
      omega
end

/-! ### places -/
abbrev Hf := D → Env → Option (D × (D → D) × Env)
/-- a place within the name i (which is hidden meanwhile) -/
def tP (G : Cg) (i : Nat) (f : Hf) : TE := fun σ H Q => ∃ I F B ρ d v d1 bk ρ', σ[i]? = some (some v) ∧ Hnd G I H ρ σ B F ∧ Rp G I H d v B ∧ f d ρ = some (d1, bk, ρ') ∧
  ∀ v1 H' I' A1 Ar F', Go I H (B ++ F) I' H' ((A1 ++ Ar) ++ F') → EnvR G I' H' ρ' σ F' → Rp G I' H' d1 v1 A1 → (∀ a ∈ Ar, ∃ o, H' a = some o) →
    (∀ {I2 H2 : Hp} {d1' : D} {A1' : List Addr}, Same I' I2 → (∀ a o, a ∈ Ar → H' a = some o → H2 a = some o) → Rp G I2 H2 d1' v1 A1' → ∃ A', A'.Perm (A1' ++ Ar) ∧ Rp G I2 H2 (bk d1') v A') → Q v1 H'
structure DP (X : Cx) (cls : Nat → Addr) (e : Expr) (i : Nat) (f : Hf) : Prop where
  pe : PE X e (tP (cgOf X cls) i f)
def pNm : Hf := fun d ρ => some (d, id, ρ)
def pIx (f : Hf) (m : M) : Hf := fun d ρ => match f d ρ with
  | some (.lst true xs, bk, ρ1) => match m ρ1 with
    | some (.int n, ρ2) => match ixN xs.length n with
      | some j => match xs[j]? with
        | some y => some (y, fun y' => bk (.lst true (xs.set j y')), ρ2)
        | none => none
      | none => none
    | _ => none
  | _ => none
section
variable {X : Cx} {cls : Nat → Addr} {e b : Expr} {i : Nat} {x : Str} {f : Hf} {m : M} {q : Bool} {pos : Pos}
theorem Hnd.go {G : Cg} {I H : Hp} {ρ : Env} {σ : L2.St} {B F : List Addr} (h : Hnd G I H ρ σ B F) : Go I H (B ++ F) I H (B ++ F) := ⟨Same.refl _, h.top, fun _ _ z _ => z, fun _ _ z => .inl z, fun _ z => .inl z, h.off, h.nd⟩
theorem dp_nm (h : Nm X i x) : DP X cls (.Name x pos) i pNm := by
  refine ⟨PE.imp (h.pe (pos := pos)) fun σ H Q ⟨I, F, B, ρ, d, v, d1, bk, ρ', hs, hn, hr, e, k⟩ => ⟨v, hs, ?_⟩⟩
  cases e
  exact k v H I B [] F (by simpa using hn.go) hn.env hr (fun _ z => nomatch z) fun {I2 H2 d1' A1'} s kk r => ⟨A1', by simp, r⟩
theorem set_self {α : Type} {l : List α} {i : Nat} {x : α} (h : l[i]? = some x) : l.set i x = l := set_same h
theorem dp_ix (h : DP X cls e i f) (hb : DE X cls b q m) (hs : PlainIx b := by exact fun _ _ => rfl) : DP X cls (.Subscript e b pos) i (pIx f m) := by
  refine ⟨PE.imp (pe_ix ix_list h.pe hb.pe hs) fun σ H Q ⟨I, F, B, ρ, d, v, d1, bk, ρ', hs, hn, hr, e, k⟩ => ?_⟩
  unfold pIx at e
  split at e
  · rename_i xs bk1 ρ1 ef
    split at e
    · rename_i n ρ2 em
      split at e
      · rename_i j ej
        split at e
        · rename_i y ey
          cases e
          refine ⟨I, F, B, ρ, d, v, _, bk1, ρ1, hs, hn, hr, ef, fun v1 H1 I1 A1 Ar F1 g1 n1 r1 lvr back => ?_⟩
          have lv : ∀ a ∈ A1 ++ Ar, ∃ o, H1 a = some o := fun a m => (List.mem_append.mp m).elim (r1.live _ _ _ a) (lvr a)
          refine ⟨I1, F1, ρ1, .int n, ρ', ⟨n1, g1.top, (List.nodup_append.mp g1.nd).2.1, fun a m => g1.off a (List.mem_append_right _ m)⟩, em, fun v2 H2 I2 A2 F2 g2 s2 n2 r2 => ?_⟩
          simp only [Rp] at r2
          obtain ⟨rfl, rfl⟩ := r2
          rw [List.nil_append] at g2
          have g3 := g1.trans g2 lv
          have nT : ∀ a ∈ A1 ++ Ar, a ∉ F1 := fun a m m' => (List.nodup_append.mp g1.nd).2.2 a m a m' rfl
          have kT : ∀ a o, a ∈ A1 ++ Ar → H1 a = some o → H2 a = some o := fun a o m ho => g2.keep a o ho (nT a m)
          have r1' : Rp (cgOf X cls) I2 H2 (.lst true xs) v1 A1 := r1.stay g2.sub _ _ _ fun a o m ho => kT a o (List.mem_append_left _ m) ho
          simp only [Rp] at r1'
          obtain ⟨a, vs, C, rfl, rfl, hA, rl⟩ := r1'
          obtain ⟨w, L, A2, R, hw, rfl, rw', st, _⟩ := rl.at ey
          have hat : atI vs n = some w := by
            unfold atI
            rw [← rl.length, ej]
            exact hw
          refine ⟨a, vs, n, w, rfl, rfl, SqL.of hA, hat, ?_⟩
          refine k w H2 I2 A2 (a :: (L ++ R) ++ Ar) F2 (g3.perm (perm_of fun c => by
            simp only [List.count_append, List.count_cons, List.cons_append]
            omega)) n2 rw' (fun c m => ?_) fun {I3 H3 y' A2'} s kk r => ?_
          · have : c ∈ (a :: (L ++ (A2 ++ R))) ++ Ar := by
              simp only [List.mem_append, List.mem_cons] at m ⊢
              rcases m with (m | m | m) | m
              · exact .inl (.inl m)
              · exact .inl (.inr (.inl m))
              · exact .inl (.inr (.inr (.inr m)))
              · exact .inr m
            obtain ⟨o, ho⟩ := lv c this
            exact ⟨o, kT c o this ho⟩
          · have hA3 : H3 a = some (.lst vs) := kk a _ (List.mem_append_left _ List.mem_cons_self) hA
            have kLR : ∀ c o, c ∈ L ++ R → H2 c = some o → H3 c = some o := fun c o m => kk c o (List.mem_append_left _ (List.mem_cons_of_mem _ m))
            have rl3 := st y' w A2' s kLR r
            rw [set_self hw] at rl3
            have rd : Rp (cgOf X cls) I3 H3 (.lst true (xs.set j y')) (.ref a) (a :: (L ++ (A2' ++ R))) := ⟨a, vs, _, rfl, rfl, hA3, rl3⟩
            obtain ⟨A', pm, r4⟩ := back (g2.sub.trans s) (fun c o m ho => kk c o (List.mem_append_right _ m) (kT c o (List.mem_append_right _ m) ho)) rd
            refine ⟨A', pm.trans (perm_of fun c => by
              simp only [List.count_append, List.count_cons, List.cons_append]
              omega), r4⟩
        · cases e
      · cases e
    · cases e
  · cases e
end

/-! ### what is done -/
/-- a method's work on the object at hand -/
def MutR (G : Cg) (r : V → List V → Hp → VK → Prop) (op : D → List D → Option (D × D)) : Prop := ∀ I H d1 v1 A1 ds vs As res d1' Q, Same I H → Rp G I H d1 v1 A1 → RpL G I H ds vs As → (A1 ++ As).Nodup → op d1 ds = some (res, d1') →
  (∀ vr a o Ar A1' Z, a ∈ A1 → Rp G I (upd H a o) res vr Ar → Rp G I (upd H a o) d1' v1 A1' → ((Ar ++ A1') ++ Z).Perm (A1 ++ As) → Q vr (upd H a o)) → r v1 vs H Q
def appD : D → List D → Option (D × D)
  | .lst true xs, [y] => if xs.length < sizeLine then some (.non, .lst true (xs ++ [y])) else none
  | _, _ => none
def extD : D → List D → Option (D × D)
  | .lst true xs, [.lst _ ys] => if xs.length + ys.length ≤ sizeLine then some (.non, .lst true (xs ++ ys)) else none
  | _, _ => none
def popD : D → List D → Option (D × D)
  | .lst true xs, [] => match xs[xs.length - 1]? with
    | some y => some (y, .lst true (xs.eraseIdx (xs.length - 1)))
    | none => none
  | .lst true xs, [.int n] => if -(2 ^ 63) ≤ n ∧ n < 2 ^ 63 then match seqIndex? n xs.length with
      | some k => match xs[k]? with
        | some y => some (y, .lst true (xs.eraseIdx k))
        | none => none
      | none => none
    else none
  | _, _ => none
section
variable {G : Cg} {I H : Hp}
theorem RpL.one {y : D} {vs : List V} {A : List Addr} (h : RpL G I H [y] vs A) : ∃ w, vs = [w] ∧ Rp G I H y w A := by
  obtain ⟨w, r, B, C, e, f, q, k⟩ := h
  obtain ⟨rfl, rfl⟩ := k
  exact ⟨w, e, by rw [f, List.append_nil]; exact q⟩
theorem Rp.own {xs : List D} {v : V} {A : List Addr} (h : Rp G I H (.lst true xs) v A) : ∃ a vs B, v = .ref a ∧ A = a :: B ∧ H a = some (.lst vs) ∧ RpL G I H xs vs B := by simpa only [Rp] using h
theorem keep_upd {a : Addr} {o : HO} {L : List Addr} (n : a ∉ L) : ∀ (b : Addr) (u : HO), b ∈ L → H b = some u → (upd H a o) b = some u := fun b u m h => by
  rw [upd_ne fun e => n (by rw [← e]; exact m)]
  exact h
theorem m_app : MutR G rAppend appD := by
  intro I H d1 v1 A1 ds vs As res d1' Q t r1 r2 nd o k
  unfold appD at o
  split at o
  · rename_i xs y
    split at o
    · rename_i hz
      cases o
      obtain ⟨a, ws, B, rfl, rfl, hA, rl⟩ := r1.own
      obtain ⟨w, rfl, rw'⟩ := r2.one
      refine ⟨a, ws, w, rfl, rfl, hA, by rw [← rl.length]; exact hz, ?_⟩
      rw [List.cons_append] at nd
      have na := (List.nodup_cons.mp nd).1
      refine k .non a _ [] (a :: (B ++ As)) [] List.mem_cons_self rp_non ⟨a, ws ++ [w], B ++ As, rfl, rfl, upd_same, ?_⟩ (by simp)
      exact (rl.stay (Same.refl _) _ _ _ (keep_upd fun m => na (List.mem_append_left _ m))).append ⟨w, [], As, [], rfl, by simp, rw'.stay (Same.refl _) _ _ _ (keep_upd fun m => na (List.mem_append_right _ m)), rfl, rfl⟩
    · cases o
  · cases o
theorem m_ext : MutR G rExtend extD := by
  intro I H d1 v1 A1 ds vs As res d1' Q t r1 r2 nd o k
  unfold extD at o
  split at o
  · rename_i xs ow ys
    split at o
    · rename_i hz
      cases o
      obtain ⟨a, ws, B, rfl, rfl, hA, rl⟩ := r1.own
      obtain ⟨w, rfl, rw'⟩ := r2.one
      rw [List.cons_append] at nd
      have na := (List.nodup_cons.mp nd).1
      obtain ⟨b, us, Z, C, rfl, hB, rl2, pm⟩ : ∃ b us Z C, w = .ref b ∧ H b = some (.lst us) ∧ RpL G I H ys us C ∧ As = Z ++ C := by
        cases ow with
        | true =>
          obtain ⟨b, us, C, e, f, hB, rl2⟩ := rw'.own
          exact ⟨b, us, [b], C, e, hB, rl2, f⟩
        | false =>
          simp only [Rp] at rw'
          obtain ⟨e, b, us, ev, hB, rl2⟩ := rw'
          exact ⟨b, us, [], [], ev, t _ _ hB, rl2, e⟩
      subst pm
      refine ⟨a, b, ws, us, rfl, rfl, hA, hB, by rw [← rl.length, ← rl2.length]; exact hz, ?_⟩
      refine k .non a _ [] (a :: (B ++ C)) Z List.mem_cons_self rp_non ⟨a, ws ++ us, B ++ C, rfl, rfl, upd_same, ?_⟩ (perm_of fun c => by
        simp only [List.count_append, List.count_cons, List.count_nil, List.cons_append]
        omega)
      exact (rl.stay (Same.refl _) _ _ _ (keep_upd fun m => na (List.mem_append_left _ m))).append (rl2.stay (Same.refl _) _ _ _ (keep_upd fun m => na (List.mem_append_right _ (List.mem_append_right _ m))))
    · cases o
  · cases o
def rPop2 : V → List V → Hp → VK → Prop := fun x vs H Q => rPop x vs H Q ∨ rPopAt x vs H Q
theorem mt_pop2 {X : Cx} : MtR X "list.pop" rPop2 := fun pins s σ H x xs v us Q J r1 r2 h => h.elim (mt_pop pins s σ H x xs v us Q J r1 r2) (mt_popAt pins s σ H x xs v us Q J r1 r2)
theorem erase_last {α : Type} (l : List α) : l.eraseIdx (l.length - 1) = l.dropLast := by
  apply List.ext_getElem?
  intro i
  rw [List.getElem?_eraseIdx, List.getElem?_dropLast]
  by_cases h : i < l.length - 1
  · rw [if_pos h, if_pos h]
  · rw [if_neg h, if_neg h, List.getElem?_eq_none (by omega)]
theorem m_pop : MutR G rPop2 popD := by
  intro I H d1 v1 A1 ds vs As res d1' Q t r1 r2 nd o k
  have fin : ∀ {xs : List D} {a : Addr} {ws : List V} {B : List Addr} {j : Nat} {y : D}, H a = some (.lst ws) → RpL G I H xs ws B → (a :: B).Nodup → xs[j]? = some y → (∀ vr a' o Ar A1' Z, a' ∈ a :: B → Rp G I (upd H a' o) y vr Ar → Rp G I (upd H a' o) (.lst true (xs.eraseIdx j)) (.ref a) A1' → ((Ar ++ A1') ++ Z).Perm ((a :: B)) → Q vr (upd H a' o)) →
      ∃ w, ws[j]? = some w ∧ Q w (upd H a (.lst (ws.eraseIdx j))) := fun {xs a ws B j y} hA rl nd ey k => by
    obtain ⟨w, L, A2, R, hw, rfl, rw', _, er⟩ := rl.at ey
    have na := (List.nodup_cons.mp nd).1
    refine ⟨w, hw, k w a _ A2 (a :: (L ++ R)) [] List.mem_cons_self (rw'.stay (Same.refl _) _ _ _ (keep_upd fun m => na (by simp only [List.mem_append]; exact .inr (.inl m)))) ⟨a, _, L ++ R, rfl, rfl, upd_same, er (Same.refl _) (keep_upd fun m => na ?_)⟩ (perm_of fun c => by
      simp only [List.count_append, List.count_cons, List.count_nil]
      omega)⟩
    simp only [List.mem_append] at m ⊢
    rcases m with m | m
    · exact .inl m
    · exact .inr (.inr m)
  unfold popD at o
  split at o
  · rename_i xs
    split at o
    · rename_i y ey
      cases o
      obtain ⟨a, ws, B, rfl, rfl, hA, rl⟩ := r1.own
      obtain ⟨rfl, rfl⟩ := r2
      rw [List.append_nil] at nd
      obtain ⟨w, hw, q⟩ := fin hA rl nd ey fun vr a' o Ar A1' Z m r3 r4 pm => k vr a' o Ar A1' Z m r3 r4 (by rw [List.append_nil]; exact pm)
      refine .inl ⟨a, ws, w, rfl, rfl, hA, by rw [← rl.length]; exact hw, ?_⟩
      rw [← erase_last, ← rl.length]
      exact q
    · cases o
  · rename_i xs n
    split at o
    · rename_i hz
      split at o
      · rename_i j ej
        split at o
        · rename_i y ey
          cases o
          obtain ⟨a, ws, B, rfl, rfl, hA, rl⟩ := r1.own
          obtain ⟨w0, rfl, r3⟩ := r2.one
          simp only [Rp] at r3
          obtain ⟨rfl, rfl⟩ := r3
          rw [List.append_nil] at nd
          obtain ⟨w, hw, q⟩ := fin hA rl nd ey fun vr a' o Ar A1' Z m r3 r4 pm => k vr a' o Ar A1' Z m r3 r4 (by rw [List.append_nil]; exact pm)
          exact .inr ⟨a, ws, n, j, w, rfl, rfl, hA, hz.1, hz.2, by rw [← rl.length]; exact ej, hw, q⟩
        · cases o
      · cases o
    · cases o
  · cases o
end

/-! ### o.m(..), o a place -/
def isL : D → Bool
  | .lst true _ => true
  | _ => false
/-- the arguments do not name i -/
def eMut (i : Nat) (f : Hf) (ms : Ms) (op : D → List D → Option (D × D)) : M := fun ρ => match ρ[i]? with
  | some (some d) => match f d (ρ.set i none) with
    | some (d1, bk, ρ1) => if isL d1 = true then match ms ρ1 with
        | some (ds, ρ2) => match ρ2[i]? with
          | some none => match op d1 ds with
            | some (r, d1') => some (r, ρ2.set i (some (bk d1')))
            | none => none
          | _ => none
        | none => none
      else none
    | none => none
  | _ => none
/-- o is the name i; the arguments may look at it -/
def eMutN (i : Nat) (ms : Ms) (op : D → List D → Option (D × D)) : M := fun ρ => match ρ[i]? with
  | some (some d) => if isL d = true then match ms ρ with
      | some (ds, ρ2) => match ρ2[i]? with
        | some (some d1) => match op d1 ds with
          | some (r, d1') => some (r, ρ2.set i (some d1'))
          | none => none
        | _ => none
      | none => none
    else none
  | _ => none
theorem ty_own {G : Cg} {I H : Hp} {d : D} {v : V} {A : List Addr} (h : isL d = true) (r : Rp G I H d v A) : tyV G.K "list" v H := by
  unfold isL at h
  split at h
  · obtain ⟨a, vs, B, rfl, _, hA, _⟩ := r.own
    exact .inl ⟨rfl, vs, SqL.of hA⟩
  · cases h
section
variable {X : Cx} {cls : Nat → Addr} {o e : Expr} {es : List Expr} {i : Nat} {f : Hf} {ms : Ms} {q : Bool} {op : D → List D → Option (D × D)} {name x : Str} {id : String} {np apos cpos : Pos} {r : V → List V → Hp → VK → Prop}
/-- the name at i hidden -/
theorem Fit.hide {G : Cg} {I H : Hp} {ρ : Env} {σ : L2.St} {F : List Addr} {d : D} (h : Fit G I H ρ σ F) (hi : ρ[i]? = some (some d)) :
    ∃ v B F', σ[i]? = some (some v) ∧ F.Perm (B ++ F') ∧ Rp G I H d v B ∧ Hnd G I H (ρ.set i none) σ B F' := by
  obtain ⟨v, L, B, R, hs, rfl, hr, put⟩ := h.env.at hi
  have pm : (L ++ (B ++ R)).Perm (B ++ (L ++ R)) := perm_of fun c => by
    simp only [List.count_append]
    omega
  refine ⟨v, B, L ++ R, hs, pm, hr, ⟨?_, h.top, pm.nodup_iff.mp h.nd, fun a m => h.off a (pm.mem_iff.mpr m)⟩⟩
  have := put none (some v) [] (Same.refl _) (fun _ _ _ e => e) (fun _ _ _ e => e) rfl
  rwa [show σ.set i (some v) = σ from set_same hs] at this
/-- and put back -/
theorem EnvR.unhide {G : Cg} {I H : Hp} {ρ : Env} {σ : L2.St} {F A : List Addr} {d : D} {v : V} (h : EnvR G I H ρ σ F) (hi : ρ[i]? = some none) (hs : σ[i]? = some (some v)) (r : Rp G I H d v A) : ∃ F', F'.Perm (A ++ F) ∧ EnvR G I H (ρ.set i (some d)) σ F' := by
  obtain ⟨_, L, R, rfl, put⟩ := h.free hi
  refine ⟨L ++ (A ++ R), perm_of fun c => by
    simp only [List.count_append]
    omega, ?_⟩
  have := put (some d) (some v) A (Same.refl _) (fun _ _ _ e => e) ⟨v, rfl, r⟩
  rwa [show σ.set i (some v) = σ from set_same hs] at this
theorem mut_of {G : Cg} {σ : L2.St} {H : Hp} {Q : VK} (hm : MutR G r op) (h : tE G false (eMut i f ms op) σ H Q) : tBM G.K "list" r (tP G i f) (tEs G q ms) σ H Q := by
  obtain ⟨I, F, ρ, d, ρ', ft, e, k⟩ := h
  unfold eMut at e
  split at e
  · rename_i d0 hi
    split at e
    · rename_i d1 bk ρ1 ef
      split at e
      · rename_i hl
        split at e
        · rename_i ds ρ2 em
          split at e
          · rename_i h2
            split at e
            · rename_i res d1' eo
              cases e
              obtain ⟨v, B, F', hs, pm, hr, hn⟩ := ft.hide hi
              have g0 : Go I H F I H (B ++ F') := ft.go.perm pm
              refine ⟨I, F', B, _, d0, v, d1, bk, ρ1, hs, hn, hr, ef, fun v1 H1 I1 A1 Ar F1 g1 n1 r1 lvr back => ⟨ty_own hl r1, ?_⟩⟩
              have g1' := g0.then g1
              have lv : ∀ a ∈ A1 ++ Ar, ∃ o, H1 a = some o := fun a m => (List.mem_append.mp m).elim (r1.live _ _ _ a) (lvr a)
              refine ⟨I1, F1, ρ1, ds, ρ2, ⟨n1, g1.top, (List.nodup_append.mp g1.nd).2.1, fun a m => g1.off a (List.mem_append_right _ m)⟩, em, fun vs H2 I2 As F2 g2 s2 n2 r2 => ?_⟩
              have g3 := g1'.trans g2 lv
              have nT : ∀ a ∈ A1 ++ Ar, a ∉ F1 := fun a m m' => (List.nodup_append.mp g1.nd).2.2 a m a m' rfl
              have kT : ∀ a o, a ∈ A1 ++ Ar → H1 a = some o → H2 a = some o := fun a o m ho => g2.keep a o ho (nT a m)
              have r1' : Rp G I2 H2 d1 v1 A1 := r1.stay g2.sub _ _ _ fun a o m ho => kT a o (List.mem_append_left _ m) ho
              have g4 : Go I H F I2 H2 ((A1 ++ As) ++ (Ar ++ F2)) := g3.perm (perm_of fun c => by
                simp only [List.count_append]
                omega)
              have nd4 := List.nodup_append.mp g4.nd
              refine hm I2 H2 d1 v1 A1 ds vs As d d1' Q g2.top r1' r2 nd4.1 eo fun vr a ob Aq A1' Z ma rr rd pmz => ?_
              have na : a ∉ Ar ++ F2 := fun m => nd4.2.2 a (List.mem_append_left _ ma) a m rfl
              obtain ⟨A', pmA, rb⟩ := back (I2 := I2) (H2 := upd H2 a ob) g2.sub (fun c o m ho => keep_upd (fun z => na (List.mem_append_left _ z)) c o m (kT c o (List.mem_append_right _ m) ho)) rd
              obtain ⟨F3, pmF, n3⟩ := (n2.stay (Same.refl _) (keep_upd (o := ob) fun z => na (List.mem_append_right _ z))).unhide h2 hs rb
              have g5 := (g4.upd (a := a) (o := ob) (List.mem_append_left _ (List.mem_append_left _ ma)))
              have g6 : Go I H F I2 (upd H2 a ob) ((Aq ++ F3) ++ Z) := g5.perm (perm_of fun c => by
                have h1 := pmz.count_eq c
                have h2 := pmA.count_eq c
                have h3 := pmF.count_eq c
                simp only [List.count_append] at h1 h2 h3 ⊢
                omega)
              exact k vr _ I2 Aq F3 g6.left (fun z => nomatch z) n3 rr
            · cases e
          · cases e
        · cases e
      · cases e
    · cases e
  · cases e
theorem de_mut {name : Str} (slot : Slot "list" name id) (hty : typeOf (.builtin id) = pure (.type "method_descriptor")) (hR : MtR X id r) (hm : MutR (cgOf X cls) r op) (ho : DP X cls o i f) (ha : DEs X cls (e :: es) q ms)
    (hbase : attributeBase o name X.env (eval o X.env) = eval o X.env := by rfl)
    (hfew : ((backTo cpos (starEach (e :: es) X.env)).all (fun x => !x.1) && (backToKw cpos (keywordEach [] X.env)).all (fun x => x.1.isSome)
      && decide ((e :: es).length + ([] : List Keyword).length + (if ([] : List Keyword).isEmpty then 0 else 1) < 30)) = true := by rfl)
    (hline : (apos.endLine == cpos.line) = true := by rfl) (hs : starEach (e :: es) X.env = (false, eval e X.env) :: starEach es X.env := by rfl) (hplain : (backTo cpos (starEach es X.env)).any (·.1) = false := by rfl) :
    DE X cls (.Call (.Attribute o name apos) (e :: es) [] cpos) false (eMut i f ms op) :=
  ⟨PE.imp (pe_bm PySem.F.plainAttrs_list slot hty hR ho.pe ha.pa hbase hfew hline hs hplain) fun _ _ _ h => mut_of hm h⟩
theorem de_mut0 {name : Str} (slot : Slot "list" name id) (hty : typeOf (.builtin id) = pure (.type "method_descriptor")) (hR : MtR X id r) (hm : MutR (cgOf X cls) r op) (ho : DP X cls o i f)
    (hbase : attributeBase o name X.env (eval o X.env) = eval o X.env := by rfl) (hline : (apos.endLine == cpos.line) = true := by rfl) :
    DE X cls (.Call (.Attribute o name apos) [] [] cpos) false (eMut i f eNil op) := by
  refine ⟨PE.imp (pe_bm0 PySem.F.plainAttrs_list slot hty hR ho.pe hbase hline) fun σ H Q h => ?_⟩
  obtain ⟨I, F, B, ρ, d, v, d1, bk, ρ', hs, hn, hr, ef, kk⟩ := mut_of (q := true) hm h
  refine ⟨I, F, B, ρ, d, v, d1, bk, ρ', hs, hn, hr, ef, fun v1 H1 I1 A1 Ar F1 g1 n1 r1 lvr back => ?_⟩
  obtain ⟨ty, I2, F2, ρ2, ds, ρ3, ft2, e2, k2⟩ := kk v1 H1 I1 A1 Ar F1 g1 n1 r1 lvr back
  cases e2
  exact ⟨ty, k2 [] H1 I2 [] F2 ft2.go (fun _ => Same.refl _) ft2.env ⟨rfl, rfl⟩⟩
theorem mutN_of {G : Cg} {σ : L2.St} {H : Hp} {Q : VK} (hm : MutR G r op) (h : tE G false (eMutN i ms op) σ H Q) : tBM G.K "list" r (tVar i) (tEs G q ms) σ H Q := by
  obtain ⟨I, F, ρ, d, ρ', ft, e, k⟩ := h
  unfold eMutN at e
  split at e
  · rename_i d0 hi
    split at e
    · rename_i hl
      split at e
      · rename_i ds ρ2 em
        split at e
        · rename_i d1 h2
          split at e
          · rename_i res d1' eo
            cases e
            obtain ⟨v, L0, B0, R0, hs, _, hr0, _⟩ := ft.env.at hi
            refine ⟨v, hs, ty_own hl hr0, I, F, ρ, ds, ρ2, ft, em, fun vs H2 I2 As F2 g2 s2 n2 r2 => ?_⟩
            obtain ⟨v', L, A1, R, hs', rfl, r1, put⟩ := n2.at h2
            rw [hs] at hs'
            cases hs'
            have g4 : Go I H F I2 H2 ((A1 ++ As) ++ (L ++ R)) := g2.perm (perm_of fun c => by
              simp only [List.count_append]
              omega)
            have nd4 := List.nodup_append.mp g4.nd
            refine hm I2 H2 d1 v A1 ds vs As d d1' Q g2.top r1 r2 nd4.1 eo fun vr a ob Aq A1' Z ma rr rd pmz => ?_
            have na : a ∉ L ++ R := fun m => nd4.2.2 a (List.mem_append_left _ ma) a m rfl
            have n3 := put (some d1') (some v) A1' (I' := I2) (H' := upd H2 a ob) (Same.refl _) (keep_upd fun m => na (List.mem_append_left _ m)) (keep_upd fun m => na (List.mem_append_right _ m)) ⟨v, rfl, rd⟩
            rw [show σ.set i (some v) = σ from set_same hs] at n3
            have g5 := (g4.upd (a := a) (o := ob) (List.mem_append_left _ (List.mem_append_left _ ma)))
            have g6 : Go I H F I2 (upd H2 a ob) ((Aq ++ (L ++ (A1' ++ R))) ++ Z) := g5.perm (perm_of fun c => by
              have h1 := pmz.count_eq c
              simp only [List.count_append] at h1 ⊢
              omega)
            exact k vr _ I2 Aq _ g6.left (fun z => nomatch z) n3 rr
          · cases e
        · cases e
      · cases e
    · cases e
  · cases e
theorem de_mutN {name : Str} (slot : Slot "list" name id) (hty : typeOf (.builtin id) = pure (.type "method_descriptor")) (hR : MtR X id r) (hm : MutR (cgOf X cls) r op) (ho : Nm X i x) (ha : DEs X cls (e :: es) q ms)
    (hbase : attributeBase (.Name x np) name X.env (eval (.Name x np) X.env) = eval (.Name x np) X.env := by rfl)
    (hfew : ((backTo cpos (starEach (e :: es) X.env)).all (fun x => !x.1) && (backToKw cpos (keywordEach [] X.env)).all (fun x => x.1.isSome)
      && decide ((e :: es).length + ([] : List Keyword).length + (if ([] : List Keyword).isEmpty then 0 else 1) < 30)) = true := by rfl)
    (hline : (apos.endLine == cpos.line) = true := by rfl) (hs : starEach (e :: es) X.env = (false, eval e X.env) :: starEach es X.env := by rfl) (hplain : (backTo cpos (starEach es X.env)).any (·.1) = false := by rfl) :
    DE X cls (.Call (.Attribute (.Name x np) name apos) (e :: es) [] cpos) false (eMutN i ms op) :=
  ⟨PE.imp (pe_bm PySem.F.plainAttrs_list slot hty hR ho.pe ha.pa hbase hfew hline hs hplain) fun _ _ _ h => mutN_of hm h⟩
end
end Ev

/-! Ev15: o[i] = e, o.f = e, x op= e. -/
namespace Ev
open PySem PySem.Spec PyProof.Rows L2

/-! ### o[i] = e -/
def SetR (G : Cg) (t : TSet) (op : D → D → D → Option D) : Prop := ∀ I H d1 v1 A1 di vi dv w Aw d1' Q, Same I H → Rp G I H d1 v1 A1 → Sv G I H di vi → Rp G I H dv w Aw → (A1 ++ Aw).Nodup → op d1 di dv = some d1' →
  (∀ a o A1' Z, a ∈ A1 → Rp G I (upd H a o) d1' v1 A1' → (A1' ++ Z).Perm (A1 ++ Aw) → Q (upd H a o)) → t v1 vi w H Q
def setLD : D → D → D → Option D
  | .lst true xs, .int n, y => match ixN xs.length n with
    | some j => if j < xs.length then some (.lst true (xs.set j y)) else none
    | none => none
  | _, _, _ => none
section
variable {G : Cg}
theorem s_lst : SetR G rSetL setLD := by
  intro I H d1 v1 A1 di vi dv w Aw d1' Q t r1 ri rv nd o k
  unfold setLD at o
  split at o
  · rename_i xs n
    split at o
    · rename_i j ej
      split at o
      · rename_i hj
        cases o
        obtain ⟨a, vs, B, rfl, rfl, hA, rl⟩ := r1.own
        obtain ⟨y0, hy0⟩ : ∃ y0, xs[j]? = some y0 := ⟨xs[j], by simp [hj]⟩
        obtain ⟨v0, L, A2, R, hv0, rfl, _, st, _⟩ := rl.at hy0
        rw [List.cons_append] at nd
        have na := (List.nodup_cons.mp nd).1
        refine ⟨a, vs, n, j, rfl, ri.int, hA, by rw [← rl.length]; exact ej, ?_⟩
        refine k a _ (a :: (L ++ (Aw ++ R))) A2 List.mem_cons_self ⟨a, _, _, rfl, rfl, upd_same, st dv w Aw (Same.refl _) (keep_upd fun m => na ?_) (rv.stay (Same.refl _) _ _ _ (keep_upd fun m => na (List.mem_append_right _ m)))⟩ (perm_of fun c => by
          simp only [List.count_append, List.count_cons, List.cons_append]
          omega)
        simp only [List.mem_append] at m ⊢
        rcases m with m | m
        · exact .inl (.inl m)
        · exact .inl (.inr (.inr m))
      · cases o
    · cases o
  · cases o
end
def sSetIx (me : M) (i : Nat) (f : Hf) (mi : M) (op : D → D → D → Option D) : Mst := fun ρ => match me ρ with
  | some (dv, ρ0) => match ρ0[i]? with
    | some (some d) => match f d (ρ0.set i none) with
      | some (d1, bk, ρ1) => match mi ρ1 with
        | some (di, ρ2) => match ρ2[i]? with
          | some none => match op d1 di dv with
            | some d1' => some (.nx, ρ2.set i (some (bk d1')))
            | none => none
          | _ => none
        | none => none
      | none => none
    | _ => none
  | none => none
section
variable {X : Cx} {cls : Nat → Addr} {ios : List Nat} {o ix e : Expr} {i c : Nat} {f : Hf} {me mi : M} {p q q1 q2 : Bool} {op : D → D → D → Option D} {t : TSet} {pos pos' : Pos} {fl x : Str}
theorem setIx_of {G : Cg} {σ : L2.St} {H : Hp} {E : Ends} (hm : SetR G t op) (h : tS G ios (sSetIx me i f mi op) E σ H) : tAsg (tE G q me) (gSub (tP G i f) (tA G p q1 mi) t) E σ H := by
  obtain ⟨I, F, ρ, o, ρ', ft, e, k⟩ := h
  unfold sSetIx at e
  split at e
  · rename_i dv ρ0 em
    split at e
    · rename_i d0 hi
      split at e
      · rename_i d1 bk ρ1 ef
        split at e
        · rename_i di ρ2 ei
          split at e
          · rename_i h2
            split at e
            · rename_i d1' eo
              cases e
              refine ⟨I, F, ρ, dv, ρ0, ft, em, fun w H0 I0 Aw F0 g0 s0 n0 rw0 => ?_⟩
              have f0 : Fit G I0 H0 ρ0 σ F0 := .of g0.tail n0
              obtain ⟨v, B, F', hs, pm, hr, hn⟩ := f0.hide hi
              have g0' : Go I H F I0 H0 (Aw ++ (B ++ F')) := g0.perm (List.Perm.append_left _ pm)
              refine ⟨I0, F', B, _, d0, v, d1, bk, ρ1, hs, hn, hr, ef, fun v1 H1 I1 A1 Ar F1 g1 n1 r1 lvr back => ?_⟩
              have g1' := g0'.trans g1 (rw0.live _ _ _)
              have nW : ∀ a ∈ Aw, a ∉ B ++ F' := fun a m m' => (List.nodup_append.mp g0'.nd).2.2 a m a m' rfl
              have rw1 : Rp G I1 H1 dv w Aw := rw0.stay g1.sub _ _ _ fun a o m ho => g1.keep a o ho (nW a m)
              have lv : ∀ a ∈ Aw ++ (A1 ++ Ar), ∃ o, H1 a = some o := fun a m => by
                rcases List.mem_append.mp m with m | m
                · exact rw1.live _ _ _ a m
                · exact (List.mem_append.mp m).elim (r1.live _ _ _ a) (lvr a)
              have g1'' : Go I H F I1 H1 ((Aw ++ (A1 ++ Ar)) ++ F1) := g1'.perm (perm_of fun c => by
                simp only [List.count_append]
                omega)
              refine ⟨I1, F1, ρ1, di, ρ2, ⟨n1, g1.top, (List.nodup_append.mp g1.nd).2.1, fun a m => g1.off a (List.mem_append_right _ m)⟩, ei, fun vi H2 I2 F2 g2 s2 n2 sv2 _ => ?_⟩
              have g3 := g1''.trans g2 lv
              have nT : ∀ a ∈ Aw ++ (A1 ++ Ar), a ∉ F1 := fun a m m' => (List.nodup_append.mp g1''.nd).2.2 a m a m' rfl
              have kT : ∀ a o, a ∈ Aw ++ (A1 ++ Ar) → H1 a = some o → H2 a = some o := fun a o m ho => g2.keep a o ho (nT a m)
              have r1' : Rp G I2 H2 d1 v1 A1 := r1.stay g2.sub _ _ _ fun a o m ho => kT a o (List.mem_append_right _ (List.mem_append_left _ m)) ho
              have rw2 : Rp G I2 H2 dv w Aw := rw1.stay g2.sub _ _ _ fun a o m ho => kT a o (List.mem_append_left _ m) ho
              have g4 : Go I H F I2 H2 ((A1 ++ Aw) ++ (Ar ++ F2)) := g3.perm (perm_of fun c => by
                simp only [List.count_append]
                omega)
              have nd4 := List.nodup_append.mp g4.nd
              refine hm I2 H2 d1 v1 A1 di vi dv w Aw d1' _ g2.top r1' sv2 rw2 nd4.1 eo fun a ob A1' Z ma rd pmz => ?_
              have na : a ∉ Ar ++ F2 := fun m => nd4.2.2 a (List.mem_append_left _ ma) a m rfl
              obtain ⟨A', pmA, rb⟩ := back (I2 := I2) (H2 := upd H2 a ob) g2.sub (fun c o m ho => keep_upd (fun z => na (List.mem_append_left _ z)) c o m (kT c o (List.mem_append_right _ (List.mem_append_right _ m)) ho)) rd
              obtain ⟨F3, pmF, n3⟩ := (n2.stay (Same.refl _) (keep_upd (o := ob) fun z => na (List.mem_append_right _ z))).unhide h2 hs rb
              have g5 := (g4.upd (a := a) (o := ob) (List.mem_append_left _ (List.mem_append_left _ ma)))
              have g6 : Go I H F I2 (upd H2 a ob) (F3 ++ Z) := g5.perm (perm_of fun c => by
                have h1 := pmz.count_eq c
                have h2 := pmA.count_eq c
                have h3 := pmF.count_eq c
                simp only [List.count_append] at h1 h2 h3 ⊢
                omega)
              exact k σ _ I2 F3 g6.left n3 .refl
            · cases e
          · cases e
        · cases e
      · cases e
    · cases e
  · cases e
theorem ds_setIx (hR : PSet X t) (hm : SetR (cgOf X cls) t op) (he : DE X cls e q me) (ho : DP X cls o i f) (hi : DA X cls ix p q1 mi)
    (ha : ∀ v, assign (.Subscript o ix pos') X.env v = (do
      let ov ← holding [v] (eval o X.env)
      let iv ← holding [v, ov] (eval ix X.env)
      standAt pos'
      holding [v, ov, iv] (setItem ov iv v)
      release [v, ov, iv] []) := by intro _; rfl)
    (hs : swapsWithSole [.Subscript o ix pos'] e pos.line X.env = pure false := by rfl) (hw : swappedStores [.Subscript o ix pos'] e X.env = pure none := by rfl)
    (h1 : (assignEach [.Subscript o ix pos'] X.env).map (·.2) = [assign (.Subscript o ix pos') X.env] := by rfl) : DS X cls ios (.Assign [.Subscript o ix pos'] e pos) (sSetIx me i f mi op) :=
  ⟨PS.imp (ps_asg he.pe (pg_sub ho.pe hi.pe hR ha) hs hw h1) fun _ _ _ h => setIx_of hm h⟩

/-! ### o.f = e -/
def putD (f : Str) (v : D) : List (Str × D) → List (Str × D)
  | [] => [(f, v)]
  | (g, x) :: r => if g = f then (g, v) :: r else (g, x) :: putD f v r
theorem RpF.put {G : Cg} {I H : Hp} {dv : D} {w : V} {Aw : List Addr} (rv : Rp G I H dv w Aw) : ∀ {fs : List (Str × D)} {gs : List (Str × V)} {B : List Addr}, RpF G I H fs gs B → ∃ B' Z, RpF G I H (putD fl dv fs) (putF fl w gs) B' ∧ (B' ++ Z).Perm (B ++ Aw)
  | [], _, _, h => by
    obtain ⟨rfl, rfl⟩ := h
    exact ⟨Aw ++ [], [], ⟨w, [], Aw, [], rfl, rfl, rv, rfl, rfl⟩, by simp⟩
  | (g, x) :: fs, _, _, ⟨v, r, B, C, e, hA, q, h⟩ => by
    subst e hA
    by_cases hg : g = fl
    · rw [show putD fl dv ((g, x) :: fs) = (g, dv) :: fs from if_pos hg, show putF fl w ((g, v) :: r) = (g, w) :: r from if_pos hg]
      exact ⟨Aw ++ C, B, ⟨w, r, Aw, C, rfl, rfl, rv, h⟩, perm_of fun c => by
        simp only [List.count_append]
        omega⟩
    · rw [show putD fl dv ((g, x) :: fs) = (g, x) :: putD fl dv fs from if_neg hg, show putF fl w ((g, v) :: r) = (g, v) :: putF fl w r from if_neg hg]
      obtain ⟨B', Z, h2, pm⟩ := RpF.put rv h
      refine ⟨B ++ B', Z, ⟨v, _, B, B', rfl, rfl, q, h2⟩, perm_of fun c => ?_⟩
      have := pm.count_eq c
      simp only [List.count_append] at this ⊢
      omega
def setFD (c : Nat) (f : Str) (v : D) : D → Option D
  | .ins true c' fs => if c' = c ∧ fs.length < 1000 then some (.ins true c' (putD f v fs)) else none
  | _ => none
def sSetF (me : M) (i : Nat) (f : Hf) (c : Nat) (fl : Str) : Mst := fun ρ => match me ρ with
  | some (dv, ρ0) => match ρ0[i]? with
    | some (some d) => match f d (ρ0.set i none) with
      | some (d1, bk, ρ1) => match ρ1[i]? with
        | some none => match setFD c fl dv d1 with
          | some d1' => some (.nx, ρ1.set i (some (bk d1')))
          | none => none
        | _ => none
      | none => none
    | _ => none
  | none => none
theorem RpF.length {G : Cg} {I H : Hp} : ∀ {fs : List (Str × D)} {gs : List (Str × V)} {B : List Addr}, RpF G I H fs gs B → fs.length = gs.length
  | [], _, _, h => by rw [h.1]; rfl
  | (g, x) :: fs, _, _, ⟨v, r, B, C, e, _, _, h⟩ => by rw [e, List.length_cons, List.length_cons, RpF.length h]
theorem RpF.keep {G : Cg} {I H H' : Hp} {fs : List (Str × D)} {gs : List (Str × V)} {B : List Addr} (h : RpF G I H fs gs B) (k : ∀ a o, a ∈ B → H a = some o → H' a = some o) : RpF G I H' fs gs B := h.stay (Same.refl _) _ _ _ k
theorem setF_of {G : Cg} {σ : L2.St} {H : Hp} {E : Ends} {K : PySem.W.Frag} (hc : Cls K (G.cls c)) (hf : NoAttr K (G.cls c) fl) (h : tS G ios (sSetF me i f c fl) E σ H) : sFld K (tP G i f) (tE G q me) fl E σ H := by
  obtain ⟨I, F, ρ, o, ρ', ft, e, k⟩ := h
  unfold sSetF at e
  split at e
  · rename_i dv ρ0 em
    split at e
    · rename_i d0 hi
      split at e
      · rename_i d1 bk ρ1 ef
        split at e
        · rename_i h2
          split at e
          · rename_i d1' eo
            cases e
            refine ⟨I, F, ρ, dv, ρ0, ft, em, fun w H0 I0 Aw F0 g0 s0 n0 rw0 => ?_⟩
            have f0 : Fit G I0 H0 ρ0 σ F0 := .of g0.tail n0
            obtain ⟨v, B, F', hs, pm, hr, hn⟩ := f0.hide hi
            have g0' : Go I H F I0 H0 (Aw ++ (B ++ F')) := g0.perm (List.Perm.append_left _ pm)
            refine ⟨I0, F', B, _, d0, v, d1, bk, ρ1, hs, hn, hr, ef, fun v1 H1 I1 A1 Ar F1 g1 n1 r1 lvr back => ?_⟩
            have g1' := g0'.trans g1 (rw0.live _ _ _)
            have nW : ∀ a ∈ Aw, a ∉ B ++ F' := fun a m m' => (List.nodup_append.mp g0'.nd).2.2 a m a m' rfl
            have rw1 : Rp G I1 H1 dv w Aw := rw0.stay g1.sub _ _ _ fun a o m ho => g1.keep a o ho (nW a m)
            unfold setFD at eo
            split at eo
            · rename_i c' fs
              split at eo
              · rename_i hcc
                cases eo
                obtain ⟨rfl, hl⟩ := hcc
                simp only [Rp] at r1
                obtain ⟨a, dx, gs, C, rfl, rfl, hA, hX, rf⟩ := r1
                have g4 : Go I H F I1 H1 (((a :: dx :: C) ++ Aw) ++ (Ar ++ F1)) := g1'.perm (perm_of fun c => by
                  simp only [List.count_append]
                  omega)
                have nd4 := List.nodup_append.mp g4.nd
                have nd5 := nd4.1
                rw [List.cons_append, List.cons_append] at nd5
                have na1 := (List.nodup_cons.mp nd5).1
                refine ⟨a, _, dx, gs, rfl, hA, hc, hf, by rw [← rf.length]; exact hl, ?_⟩
                have na : a ∉ Ar ++ F1 := fun m => nd4.2.2 a (List.mem_append_left _ List.mem_cons_self) a m rfl
                have rfU : RpF G I1 (upd H1 a (.ins (G.cls c') dx (putF fl w gs))) fs gs C := rf.keep (keep_upd fun m => na1 (List.mem_cons_of_mem _ (List.mem_append_left _ m)))
                have rwU : Rp G I1 (upd H1 a (.ins (G.cls c') dx (putF fl w gs))) dv w Aw := rw1.stay (Same.refl _) _ _ _ (keep_upd fun m => na1 (List.mem_cons_of_mem _ (List.mem_append_right _ m)))
                obtain ⟨B', Z, rf2, pmz⟩ := RpF.put (fl := fl) rwU rfU
                have hne : dx ≠ a := fun z => na1 (by rw [← z]; exact List.mem_cons_self)
                have rd : Rp G I1 (upd H1 a (.ins (G.cls c') dx (putF fl w gs))) (.ins true c' (putD fl dv fs)) (.ref a) (a :: dx :: B') := by
                  simp only [Rp]
                  exact ⟨a, dx, _, B', rfl, rfl, upd_same, by rw [upd_ne hne]; exact hX, rf2⟩
                obtain ⟨A', pmA, rb⟩ := back (I2 := I1) (H2 := upd H1 a (.ins (G.cls c') dx (putF fl w gs))) (Same.refl _) (keep_upd fun m => na (List.mem_append_left _ m)) rd
                obtain ⟨F3, pmF, n3⟩ := (n1.stay (Same.refl _) (keep_upd (o := .ins (G.cls c') dx (putF fl w gs)) fun z => na (List.mem_append_right _ z))).unhide h2 hs rb
                have g5 := (g4.upd (a := a) (o := .ins (G.cls c') dx (putF fl w gs)) (List.mem_append_left _ (List.mem_append_left _ List.mem_cons_self)))
                have g6 : Go I H F I1 (upd H1 a (.ins (G.cls c') dx (putF fl w gs))) (F3 ++ Z) := g5.perm (perm_of fun c => by
                  have h1 := pmz.count_eq c
                  have h2 := pmA.count_eq c
                  have h3 := pmF.count_eq c
                  simp only [List.count_append, List.count_cons, List.cons_append] at h1 h2 h3 ⊢
                  omega)
                exact k σ _ I1 F3 g6.left n3 .refl
              · cases eo
            · cases eo
          · cases e
        · cases e
      · cases e
    · cases e
  · cases e
theorem ds_setF (hc : Cls X.K (cls c)) (hf : NoAttr X.K (cls c) fl) (he : DE X cls e q me) (ho : DP X cls o i f) (hs : swapsWith e (some (.Attribute o fl pos')) pos.line X.env = pure false := by rfl) :
    DS X cls ios (.Assign [.Attribute o fl pos'] e pos) (sSetF me i f c fl) := ⟨PS.imp (ps_fld ho.pe he.pe hs) fun _ _ _ h => setF_of hc hf h⟩
/-! ### x op= e, ints -/
def sAug (i : Nat) (o : Int → Int → Option Int) (me : M) : Mst := fun ρ => match ρ[i]? with
  | some (some (.int a)) => match me ρ with
    | some (.int b, ρ1) => match o a b with
      | some r => if i < ρ1.length then some (.nx, ρ1.set i (some (.int r))) else none
      | none => none
    | _ => none
  | _ => none
def IntIp (ti : TIp) (o : Int → Int → Option Int) : Prop := ∀ a b r H Q, o a b = some r → Q (.int r) H → ti (.int a) (.int b) H Q
theorem ds_aug {aop : Operator} {ti : TIp} {oo : Int → Int → Option Int} (h : Nw X i x) (hio : i ∉ ios) (he : DE X cls e q me) (ho : PIp X aop ti) (hoo : IntIp ti oo) : DS X cls ios (.AugAssign (.Name x pos') aop e pos) (sAug i oo me) := by
  refine ⟨PS.imp (ps_aug (pos := pos) (pos' := pos') h.hN h.hi h.hx he.pe ho h.hf) fun E σ H qq => ?_⟩
  obtain ⟨I, F, ρ, o, ρ', ft, e, k⟩ := qq
  unfold sAug at e
  split at e
  · rename_i a hi
    split at e
    · rename_i b ρ1 em
      split at e
      · rename_i r eo
        split at e
        · rename_i hl
          cases e
          obtain ⟨v, L0, B0, R0, hs, _, hr0, _⟩ := ft.env.at hi
          simp only [Rp] at hr0
          obtain ⟨rfl, _⟩ := hr0
          refine ⟨.int a, hs, I, F, ρ, .int b, ρ1, ft, em, fun w H1 I1 A F1 g1 s1 n1 r1 => ?_⟩
          simp only [Rp] at r1
          obtain ⟨rfl, rfl⟩ := r1
          refine hoo a b r H1 _ eo ?_
          obtain ⟨F', n', s', nd'⟩ := put_ok (A := []) ⟨n1, g1.top, g1.nd, g1.off⟩ (rp_int r) hl
          exact k _ H1 I1 F' (g1.weak s' nd') n' fun j m => List.getElem?_set_ne (fun z : i = j => hio (by rw [z]; exact m))
        · cases e
      · cases e
    · cases e
  · cases e
end
end Ev

/-! Hd: the head: facts of the heap behind the top, by names; the law's end. -/
namespace Ev
open PySem PySem.Spec PyProof.Rows L2

/-! ### facts: any truth that the written part shows -/
abbrev Fct := PySem.W.Frag → Bool
/-- a def: where its function object stands, what it is -/
structure DefX where
  ad : PySem.W.Frag → Addr
  name : Str
  qual : Str
  params : Arguments
  body : List Stmt
  scope : Scope
abbrev FnX : Type := Option (Str × Str × Arguments × FuncBody × Scope × Addr × List (Str × Addr) × Value × Addr)
def fnX (K : PySem.W.Frag) (a : Addr) : FnX := match K.lookup a with
  | some ob => match ob.data with
    | .func fd => some (fd.name, fd.qualname, fd.params, fd.body, fd.scope, fd.globals, fd.closure, fd.defaults, fd.builtins)
    | _ => none
  | none => none
def DefX.want (d : DefX) : FnX := some (d.name, d.qual, d.params, .stmts d.body, d.scope, mainGlobals, [], .none, builtinsNs)
def DefX.good (K : PySem.W.Frag) (d : DefX) : Bool := match K.lookup (d.ad K) with
  | some ob => match ob.data with
    | .func fd => PySem.W.codeIn K fd.code d.qual
    | _ => false
  | none => false
structure FunX (K : PySem.W.Frag) (d : DefX) (fd : FuncData) : Prop where
  ex : ∃ (oc : Value) (od : Option Addr) (kV doc pm : Value) (an : Option Addr) (cdv ct : Value) (osl : Array (Option Value)),
    fd = PySem.W.fnOf d.name d.qual d.params d.body d.scope .none kV doc pm an cdv ct ∧ K.lookup (d.ad K) = some ⟨oc, od, .func fd, osl⟩ ∧ PySem.W.codeIn K cdv d.qual = true
theorem funX_of {K : PySem.W.Frag} {d : DefX} (e : fnX K (d.ad K) = d.want) (g : d.good K = true) : ∃ fd, FunX K d fd := by
  unfold fnX at e
  unfold DefX.good at g
  cases q : K.lookup (d.ad K) with
  | none => rw [q] at g; cases g
  | some ob =>
    obtain ⟨oc, od, dt, sl⟩ := ob
    rw [q] at g e
    cases dt with
    | func fd =>
      refine ⟨fd, ?_⟩
      obtain ⟨a1, a2, a3, a4, a5, a6, a7, a8, a9, a10, a11, a12, a13, a14, a15⟩ := fd
      have e2 : (some (a1, a2, a3, a4, a5, a6, a7, a8, a15) : FnX) = some (d.name, d.qual, d.params, .stmts d.body, d.scope, mainGlobals, [], .none, builtinsNs) := e
      simp only [Option.some.injEq, Prod.mk.injEq] at e2
      obtain ⟨rfl, rfl, rfl, rfl, rfl, rfl, rfl, rfl, rfl⟩ := e2
      exact ⟨⟨oc, od, a9, a10, a11, a12, a13, a14, sl, rfl, q, g⟩⟩
    | _ => cases g
/-- the addresses that are shown: the module's names and sys.modules, and what they reach -/
def asX (g : Addr → Option Obj) : Nat → List Addr
  | 0 => [sysModules, mainGlobals, cStatics]
  | n + 1 => He.growD g (asX g n)
abbrev AlX : Type := Bool × List FnX
def seenX (fs : List Fct) (fn : List DefX) (K : PySem.W.Frag) : AlX := ((fs.all fun f => f K) && fn.all fun d => d.good K, fn.map fun d => fnX K (d.ad K))
def wantX (fn : List DefX) : AlX := (true, fn.map DefX.want)
def Says (fs : List Fct) (fn : List DefX) (K : PySem.W.Frag) : Prop := seenX fs fn K = wantX fn
def seenG (n : Nat) (fs : List Fct) (fn : List DefX) (g : Addr → Option Obj) : AlX := seenX fs fn (He.frG g (asX g n))
def hookX (n : Nat) (fs : List Fct) (fn : List DefX) : PySem.W.Hook where
  α := AlX
  obs := fun s => seenG n fs fn s.heap.get?
  val := fun _ => wantX fn
  says := fun _ h => ∃ K : PySem.W.Frag, K.In h ∧ Says fs fn K
  of := fun _ _ e => ⟨_, He.frG_in, e⟩
  keeps := fun _ _ _ ⟨K, hK, c⟩ k => ⟨K, PySem.W.Frag.In.keeps hK k, c⟩
theorem seenG_eq {n : Nat} {fs : List Fct} {fn : List DefX} {g : Addr → Option Obj} {s : Shared} (h : ∀ a, g a = s.heap.get? a) : seenG n fs fn g = (hookX n fs fn).obs s := by
  have : g = s.heap.get? := funext h
  subst this
  rfl
section
variable {fs : List Fct} {fn : List DefX} {K : PySem.W.Frag}
theorem Says.fact (c : Says fs fn K) (i : Nat) {f : Fct} (h : fs[i]? = some f := by rfl) : f K = true := by
  have z : ((fs.all fun f => f K) && fn.all fun d => d.good K) = true := congrArg Prod.fst c
  rw [Bool.and_eq_true] at z
  exact List.all_eq_true.mp z.1 f (List.mem_of_getElem? h)
theorem Says.df (c : Says fs fn K) (i : Nat) {d : DefX} (h : fn[i]? = some d := by rfl) : ∃ fd, FunX K d fd := by
  have z : ((fs.all fun f => f K) && fn.all fun d => d.good K) = true := congrArg Prod.fst c
  rw [Bool.and_eq_true] at z
  have e : (fn.map fun d => fnX K (d.ad K)) = fn.map DefX.want := congrArg Prod.snd c
  have e2 := congrArg (fun l => l[i]?) e
  simp only [List.getElem?_map, h, Option.map_some, Option.some.injEq] at e2
  exact funX_of e2 (List.all_eq_true.mp z.2 d (List.mem_of_getElem? h))
end
/-- the rule for a def (fn_ev), by its datum -/
theorem fn_x {P : Program} {w : World} {K : PySem.W.Frag} {mg : Str → Option Value} {base : Heap} {d : DefX} {fd : FuncData} {N ps : List Str} {k lent : Nat} {m : Mst} {cls : Nat → Addr}
    (F : FunX K d fd) (S : FnScope N ps d.scope) (hl : lent ≤ ps.length)
    (hb : ∀ (cdv : Value) (A : Around) (outer : List PySem.Env) (s : Shared) (H : Hp) (E : XK), Bd (cxOf CX0 P w K mg base N d.qual d.scope (d.ad K) cdv A outer s H E).nox k → DSs (cxOf CX0 P w K mg base N d.qual d.scope (d.ad K) cdv A outer s H E).nox cls (List.range lent) d.body m) :
    FnG P w K mg base CX0 (k + 1) (d.ad K) fd ps (spF ⟨P, w, K, cls⟩ ps.length lent (fSem N.length lent m)) := by
  obtain ⟨oc, od, kV, doc, pm, an, cdv, ct, osl, rfl, lk, hcd⟩ := F.ex
  refine fnG_of lk hcd S (fun vs H Q E h => h.1) fun A outer s H vs Q E hg room h => ?_
  have hx : ps.length ≤ N.length := by
    have := congrArg List.length S.pre
    rw [List.length_take] at this
    omega
  have B : Bd (cxOf CX0 P w K mg base N d.qual d.scope (d.ad K) cdv A outer s H E).nox k := ⟨room, hg, rfl, S.nd, PassesOwn.never⟩
  exact ⟨_, (hb cdv A outer s H E B).pss.nox, spF_body hx hl h⟩
theorem FunX.binds {K : PySem.W.Frag} {d : DefX} {fd : FuncData} {ps : List Str} (F : FunX K d fd)
    (h : ∀ (kV doc pm : Value) (an : Option Addr) (cdv ct : Value) (us : List Value), us.length = ps.length → bindArgs (PySem.W.fnOf d.name d.qual d.params d.body d.scope .none kV doc pm an cdv ct) ⟨us, []⟩ = pure (ps.zip us)) : Binds K fd ps [] := by
  obtain ⟨oc, od, kV, doc, pm, an, cdv, ct, osl, rfl, _⟩ := F.ex
  exact .all (h kV doc pm an cdv ct)

/-! ### the law's end -/
section
variable {P : Program} {w : World} {K : PySem.W.Frag} {mg mb : Str → Option Value} {k : Nat} {fa a : Addr} {fd : FuncData} {x : Str} {F : FSem} {cls : Nat → Addr} {s₁ : Shared} {vs : List Value} {ns : List Int}
/-- where the script alone is tracked (or nothing) -/
theorem law_from {H : Hp} (KX : K.In s₁.heap) (hns : s₁.heap.Ns mainGlobals mg) (hb : s₁.heap.Ns builtinsNs mb) (hbb : ∀ y : Str, y ≠ "__name__" → mb y = bootBuiltins y) (hlim : s₁.heap.NoLimit) (hg : s₁.gens = #[])
    (ho : s₁.heap.get? a = some { cls := .type "list", data := .seq vs.toArray }) (hr : Room k callerA)
    (G : ∀ B : Heap, K.In B → B.Ns mainGlobals mg → FnG P w K mg B CX0 k fa fd [x] (spF ⟨P, w, K, cls⟩ 1 0 F)) (hbind : ∀ (s : Shared) (u : Value), BindsTo s fd ⟨[u], []⟩ [(x, u)])
    (hF : F [.scr ns] = some (.bl true, [])) (hS : SqL K H a (ns.map V.int)) (hok : HOk P w H s₁.heap) (one : ∀ b u, H b = some u → b = a ∧ ∃ o xs, u = .frz o (.lst xs)) (hK : H a = none ∨ K.lookup a = none) :
    codeAny (model P w) callerA (.call (.ref fa) ⟨[.ref a], []⟩) (fun r s' => r = .ok (.ret (.bool true)) ∧ OldK s₁.heap s'.heap ∧ s'.os = s₁.os ∧ AllBare s'.gens) s₁ := by
  have free : ∀ {b : Addr}, b ≠ a → H b = none := fun {b} hb => by
    cases q : H b with
    | none => rfl
    | some u => exact absurd (one b u q).1 hb
  have dict_free : ∀ {b : Addr} {o : Obj} {es : Array DictEntry} {n : Nat}, s₁.heap.get? b = some o → o.data = .dict es n → H b = none := fun {b o es n} e d => free fun z => by
    rw [z, ho] at e
    cases e
    cases d
  have ns_B : ∀ {b : Addr} {m : Str → Option Value}, s₁.heap.Ns b m → (hidT s₁.heap H).Ns b m := fun {b m} q => by
    obtain ⟨o, es, n, e, d, r⟩ := q
    exact ⟨o, es, n, hidT_get e (dict_free e d), d, r⟩
  have K_B : K.In (hidT s₁.heap H) := fun b o e => hidT_get (KX b o e) (by
    by_cases z : b = a
    · rcases hK with q | q
      · rw [z]; exact q
      · rw [z, q] at e; cases e
    · exact free z)
  have M_B : Mod K mg (hidT s₁.heap H) := by
    obtain ⟨mc, c1, c2⟩ := hlim
    exact ⟨K_B, ns_B hns, ⟨mb, ns_B hb, hbb⟩, ⟨mc, ns_B c1, c2⟩⟩
  have none0 : ∀ b, b ∉ ([] : List Addr) := fun b z => nomatch z
  have E_B : Env0 P w K mg (hidT s₁.heap H) callerA [] s₁ H := ⟨rfl, M_B, fun _ _ z => of_hidT z, Nat.le_of_eq (hidT_size _ _), trivial, fun b z => absurd z (none0 b), hok, .of_eq hg⟩
  have sp0 : spF (⟨P, w, K, cls⟩ : Cg) 1 0 F [.ref a] H (fun v _ => v = .bl true) (fun _ _ _ => False) := by
    refine ⟨rfl, H, [.scr ns], [], .bl true, [], Same.refl _, ?_, List.nodup_nil, (fun _ z => nomatch z), hF, fun v H' I' B C g rv rc => ?_⟩
    · refine .cons0 ?_ (show RpL (⟨P, w, K, cls⟩ : Cg) H H [] [] [] from ⟨rfl, rfl⟩)
      simp only [Rp]
      exact ⟨trivial, a, rfl, hS⟩
    · simp only [Rp] at rv
      exact rv.1
  have ran := (G _ K_B (ns_B hns)).run callerA [] s₁ H ⟨[.ref a], []⟩ [.ref a] [.ref a] _ _ rfl hr E_B (hbind s₁ (.ref a)) (.cons rfl .nil) sp0
  refine codeAny_mono ran fun r s' q => ?_
  match r, q with
  | .error e, q => exact False.elim q
  | .ok (.ret u), q =>
    obtain ⟨v, H', os, bare, un, hok', rv, ev⟩ := q
    have ev' : v = .bl true := ev
    subst ev'
    have eu : u = Value.bool true := rv
    subst eu
    refine ⟨rfl, OldK.of_keep fun b o e => ?_, os, bare⟩
    cases hb : H b with
    | none => exact un.keep b o e hb (none0 b) (none0 b)
    | some t =>
      obtain ⟨rfl, o', xs, rfl⟩ := one b t hb
      have w1 := (hok _ _ hb).1
      have w2 := (hok' _ _ (un.frzs _ _ _ hb)).1
      rw [w1] at e
      cases e
      exact w2
theorem law_run (KX : K.In s₁.heap) (hns : s₁.heap.Ns mainGlobals mg) (hb : s₁.heap.Ns builtinsNs mb) (hbb : ∀ y : Str, y ≠ "__name__" → mb y = bootBuiltins y) (hlim : s₁.heap.NoLimit) (hg : s₁.gens = #[])
    (ho : s₁.heap.get? a = some { cls := .type "list", data := .seq vs.toArray }) (hi : IntsAre vs ns) (hl : ns.length ≤ sizeLine) (hr : Room k callerA)
    (G : ∀ B : Heap, K.In B → B.Ns mainGlobals mg → FnG P w K mg B CX0 k fa fd [x] (spF ⟨P, w, K, cls⟩ 1 0 F)) (hbind : ∀ (s : Shared) (u : Value), BindsTo s fd ⟨[u], []⟩ [(x, u)]) (hF : F [.scr ns] = some (.bl true, [])) :
    codeAny (model P w) callerA (.call (.ref fa) ⟨[.ref a], []⟩) (fun r s' => r = .ok (.ret (.bool true)) ∧ OldK s₁.heap s'.heap ∧ s'.os = s₁.os ∧ AllBare s'.gens) s₁ := by
  have rv := vals_ints hi
  cases q : K.lookup a with
  | none =>
    have same : ∀ {b u}, (if b = a then some (HO.frz { cls := .type "list", data := .seq vs.toArray } (.lst (ns.map V.int))) else none) = some u → b = a ∧ u = .frz { cls := .type "list", data := .seq vs.toArray } (.lst (ns.map V.int)) := fun {b u} e => by
      split at e
      · rename_i hb
        cases e
        exact ⟨hb, rfl⟩
      · cases e
    refine law_from (H := fun b => if b = a then some (HO.frz { cls := .type "list", data := .seq vs.toArray } (.lst (ns.map V.int))) else none) KX hns hb hbb hlim hg ho hr G hbind hF (.inl (.inr ⟨_, if_pos rfl⟩)) (fun b u e => ?_) (fun b u e => ?_) (.inr q)
    · obtain ⟨rfl, rfl⟩ := same e
      exact ⟨ho, by rw [List.length_map]; exact hl, vs, 0, rv, ho⟩
    · obtain ⟨h1, rfl⟩ := same e
      exact ⟨h1, _, _, rfl⟩
  | some o =>
    have e := KX a o q
    rw [ho] at e
    cases e
    have lv := hi.length
    refine law_from (H := fun _ => none) KX hns hb hbb hlim hg ho hr G hbind hF (.inr ⟨_, vs.toArray, 0, q, rfl, rfl, rfl, ?_, by simpa using rv⟩) (fun b u e => nomatch e) (fun b u e => nomatch e) (.inl rfl)
    rw [List.size_toArray]
    omega
end
/-- the goal that head_any leaves (case hc) -/
theorem walk_x {l : PySem.W.OpenLaw} {n k : Nat} {q : Program} {loose : List Str} {XP : (Str → Option Value) → Heap → Prop} {YP : World → Heap → Prop} {d : DefRec} {x : Str} {F : PySem.W.Frag → FSem}
    (hn : l.most = some n) (hn2 : n ≤ sizeLine) (hdf : d.params.defaults = []) (hr : Room k callerA)
    (hG : ∀ (w : World) (mg : Str → Option Value) (fa : Addr) (h : Heap), YP w h → h.Ns mainGlobals mg → mg d.name = some (.ref fa) →
      ∃ (K : PySem.W.Frag) (fd : FuncData) (cls : Nat → Addr), K.In h ∧ (∀ (s : Shared) (u : Value), BindsTo s fd ⟨[u], []⟩ [(x, u)]) ∧ ∀ B : Heap, K.In B → B.Ns mainGlobals mg → FnG l.prog w K mg B CX0 k fa fd [x] (spF ⟨l.prog, w, K, cls⟩ 1 0 (F K)))
    (hF : ∀ K ns, ns.length ≤ n → F K [.scr ns] = some (.bl true, [])) : PySem.W.WalkO q loose XP YP l.row.toRowW d [] (fun f vs => PySem.call f vs) := by
  refine Att.attach_call hn hdf fun w s₀ s₁ mg mb fa o pm cd doc a vs ns G Y ho hd hcd hmg hobj hints hlen hg => ?_
  obtain ⟨K, fd, cls, KX, hbind, hFn⟩ := hG w mg fa _ Y G.T.g hmg
  exact law_run KX G.T.g G.T.b G.T.builtins G.T.nolimit hg hobj hints (Nat.le_trans hlen hn2) hr hFn hbind (hF K ns hlen)
end Ev

/-! Ev16: what the printed derivations lean on. -/
namespace Ev
open PySem PySem.Spec PyProof.Rows L2

def visB (sc : Scope) (x : Str) : Bool := match sc.names.lookup x with
  | some .local => true
  | some .cell => true
  | some .free => true
  | _ => false
def locB (sc : Scope) (x : Str) : Bool := match sc.names.lookup x with
  | some .local => true
  | some .cell => true
  | _ => false
def okN (x : Str) : Bool := !(x == ("__debug__" : Str)) && !(x == ("__classdict__" : Str))
def fnB (X : Cx) (x : Str) : Bool := X.fn x || (match X.env.scope.names.lookup x with
  | some .local => true
  | _ => false)
theorem nmk {X : Cx} {i : Nat} {x : Str} (h1 : X.N[i]? = some x) (h2 : visB X.env.scope x = true) (h3 : okN x = true) : Nm X i x := by
  unfold okN at h3
  rw [Bool.and_eq_true, Bool.not_eq_true', Bool.not_eq_true'] at h3
  refine ⟨h1, ?_, h3.1, h3.2⟩
  unfold visB at h2
  split at h2
  · rename_i e; exact .inl e
  · rename_i e; exact .inr (.inl e)
  · rename_i e; exact .inr (.inr e)
  · cases h2
theorem nwk {X : Cx} {i : Nat} {x : Str} (h0 : X.N.Nodup) (h1 : X.N[i]? = some x) (h2 : locB X.env.scope x = true) (h3 : fnB X x = true) : Nw X i x := by
  refine ⟨h0, h1, ?_, ?_⟩
  · unfold locB at h2
    split at h2
    · rename_i e; exact .inl e
    · rename_i e; exact .inr e
    · cases h2
  · unfold fnB at h3
    rcases Bool.or_eq_true_iff.mp h3 with z | z
    · exact .inl z
    · split at z
      · rename_i e; exact .inr e
      · cases z
theorem Bd.u {X : Cx} {k : Nat} (B : Bd X k) : X.A.units + 70 < cLine := by
  have := B.room.un
  omega
/-- a def that may be called, wherever the room is -/
structure ClK (P : Program) (w : World) (K : PySem.W.Frag) (mg : Str → Option Value) (base : Heap) (cls : Nat → Addr) (k : Nat) (x : Str) (n lent : Nat) (F : FSem) : Prop where
  ok : ∃ (f : Addr) (fd : FuncData) (ps : List Str), FnG P w K mg base CX0 k f fd ps (spF ⟨P, w, K, cls⟩ n lent F) ∧ mg x = some (.ref f) ∧ PySem.W.keepIn K (.ref f) = true ∧ Binds K fd ps []
theorem clOf {X : Cx} {cls : Nat → Addr} {j k n lent : Nat} {x : Str} {F : FSem} (c : ClK X.prog X.w X.K X.mg X.base cls k x n lent F) (B : Bd X j) (gl : X.env.kindOf x = some .globalImplicit) (h : k ≤ j) : Cl X cls x n lent F := by
  obtain ⟨f, fd, ps, h1, h2, h3, h4⟩ := c.ok
  exact ⟨gl, k, f, fd, ps, h1, B.room.mono h, h2, h3, h4⟩
theorem clkOf {P : Program} {w : World} {K : PySem.W.Frag} {mg : Str → Option Value} {base : Heap} {cls : Nat → Addr} {k n lent : Nat} {x : Str} {F : FSem} {f : Addr} {fd : FuncData} {ps : List Str}
    (G : FnG P w K mg base CX0 k f fd ps (spF ⟨P, w, K, cls⟩ n lent F)) (hm : mg x = some (.ref f)) (hk : PySem.W.keepIn K (.ref f) = true) (hb : Binds K fd ps []) : ClK P w K mg base cls k x n lent F := ⟨f, fd, ps, G, hm, hk, hb⟩
/-- the built-in names that the module leaves alone -/
def bltNames : List Str := ["len", "range", "enumerate", "zip", "isinstance", "repr", "sorted", "list", "tuple", "int", "set", "dict", "str", "bool", "max", "min", "all", "any", "sum", "abs"]
def Blt (mg : Str → Option Value) : Prop := ∀ x ∈ bltNames, mg x = none
/-! ### operations, one rule for all data -/
section
variable {X : Cx} {cls : Nat → Addr} {a b : Expr} {ma mb : M} {p1 p2 q1 q2 : Bool} {pos : Pos}
theorem e_add (ha : DA X cls a p1 q1 ma) (hb : DA X cls b p2 q2 mb) (hp : (p1 || q2) = true := by rfl) : DE X cls (.BinOp a .Add b pos) (q1 && q2) (eOp2 addD ma mb) := de_bin x_add v_add ha hb hp
theorem e_sub (ha : DA X cls a p1 q1 ma) (hb : DA X cls b p2 q2 mb) (hp : (p1 || q2) = true := by rfl) : DE X cls (.BinOp a .Sub b pos) (q1 && q2) (eOp2 subD ma mb) := de_bin op_sub v_sub ha hb hp
theorem e_mul (ha : DA X cls a p1 q1 ma) (hb : DA X cls b p2 q2 mb) (hp : (p1 || q2) = true := by rfl) : DE X cls (.BinOp a .Mult b pos) (q1 && q2) (eOp2 mulD ma mb) := de_bin x_mul v_mul ha hb hp
theorem e_mod (ha : DA X cls a p1 q1 ma) (hb : DA X cls b p2 q2 mb) (hp : (p1 || q2) = true := by rfl) : DE X cls (.BinOp a .Mod b pos) (q1 && q2) (eOp2 modD ma mb) := de_bin op_mod v_mod ha hb hp
theorem e_fdiv (ha : DA X cls a p1 q1 ma) (hb : DA X cls b p2 q2 mb) (hp : (p1 || q2) = true := by rfl) : DE X cls (.BinOp a .FloorDiv b pos) (q1 && q2) (eOp2 fdivD ma mb) := de_bin op_fdiv v_fdiv ha hb hp
theorem e_pow (ha : DA X cls a p1 q1 ma) (hb : DA X cls b p2 q2 mb) (hp : (p1 || q2) = true := by rfl) : DE X cls (.BinOp a .Pow b pos) (q1 && q2) (eOp2 powD ma mb) := de_bin op_pow v_pow ha hb hp
end
end Ev
namespace Ev
open PySem PySem.Spec PyProof.Rows L2
abbrev ltI : D → D → Option D := cmpD fun i j => decide (i < j)
abbrev leI : D → D → Option D := cmpD fun i j => decide (i ≤ j)
abbrev gtI : D → D → Option D := cmpD fun i j => decide (j < i)
abbrev geI : D → D → Option D := cmpD fun i j => decide (j ≤ i)
section
variable {X : Cx} {cls : Nat → Addr} {a b c : Expr} {ma mb mc : M} {p1 p2 p3 q1 q2 q3 : Bool} {pos : Pos} {k : Nat}
theorem c_lt {G : Cg} : OpR X (compareOp .Lt) (rI0 fun i j => .bl (decide (i < j))) ∧ V2 G (rI0 fun i j => .bl (decide (i < j))) ltI := ⟨op_lt, v_cmp _⟩
theorem c_le {G : Cg} : OpR X (compareOp .LtE) (rI0 fun i j => .bl (decide (i ≤ j))) ∧ V2 G (rI0 fun i j => .bl (decide (i ≤ j))) leI := ⟨op_le, v_cmp _⟩
theorem c_gt {G : Cg} : OpR X (compareOp .Gt) (rI0 fun i j => .bl (decide (j < i))) ∧ V2 G (rI0 fun i j => .bl (decide (j < i))) gtI := ⟨op_gt, v_cmp _⟩
theorem c_ge {G : Cg} : OpR X (compareOp .GtE) (rI0 fun i j => .bl (decide (j ≤ i))) ∧ V2 G (rI0 fun i j => .bl (decide (j ≤ i))) geI := ⟨op_ge, v_cmp _⟩
theorem c_eq (hs : SmB X.base) (B : Bd X k) : OpR X (compareOp .Eq) (rS (cgOf X cls) (eqP false)) ∧ V2 (cgOf X cls) (rS (cgOf X cls) (eqP false)) (eqP false) := ⟨x_eqP hs (by have := B.u; omega), v_rS⟩
theorem c_ne (hs : SmB X.base) (B : Bd X k) : OpR X (compareOp .NotEq) (rS (cgOf X cls) (eqP true)) ∧ V2 (cgOf X cls) (rS (cgOf X cls) (eqP true)) (eqP true) := ⟨x_neP hs (by have := B.u; omega), v_rS⟩
theorem c_in (hs : SmB X.base) (B : Bd X k) : OpR X (compareOp .In) (rS (cgOf X cls) (inP false)) ∧ V2 (cgOf X cls) (rS (cgOf X cls) (inP false)) (inP false) := ⟨x_inP hs (by have := B.u; omega), v_rS⟩
theorem c_ni (hs : SmB X.base) (B : Bd X k) : OpR X (compareOp .NotIn) (rS (cgOf X cls) (inP true)) ∧ V2 (cgOf X cls) (rS (cgOf X cls) (inP true)) (inP true) := ⟨x_niP hs (by have := B.u; omega), v_rS⟩
theorem c_isN {G : Cg} : OpR X (compareOp .Is) (fun x y H Q => y = .non ∧ Q (.bl (decide (x = .non))) H) ∧ V2 G (fun x y H Q => y = .non ∧ Q (.bl (decide (x = .non))) H) isND := ⟨op_isN, v_isN⟩
theorem c_ntN {G : Cg} : OpR X (compareOp .IsNot) (fun x y H Q => y = .non ∧ Q (.bl (!decide (x = .non))) H) ∧ V2 G (fun x y H Q => y = .non ∧ Q (.bl (!decide (x = .non))) H) notND := ⟨op_notN, v_notN⟩
theorem c_isB {G : Cg} : OpR X (compareOp .Is) rIsB ∧ V2 G rIsB (isB false) := ⟨op_isBl, v_isB⟩
theorem c_ntB {G : Cg} : OpR X (compareOp .IsNot) rNotB ∧ V2 G rNotB (isB true) := ⟨op_notBl, v_ntB⟩
theorem cmpV {op : CmpOp} {r : R2} {o : D → D → Option D} (c : OpR X (compareOp op) r ∧ V2 (cgOf X cls) r o) (ha : DA X cls a p1 q1 ma) (hb : DA X cls b p2 q2 mb) (hp : (p1 || q2) = true := by rfl) (h1 : behindInMarks op b = false := by first | exact nobehind _ (by decide) (by decide) | rfl) :
    DE X cls (.Compare a [op] [b] pos) (q1 && q2) (eOp2 o ma mb) := de_cmp c.1 c.2 ha hb hp h1
theorem cmpT {op : CmpOp} {r : R2} {o : D → D → Option D} (c : OpR X (compareOp op) r ∧ V2 (cgOf X cls) r o) (ha : DA X cls a p1 q1 ma) (hb : DA X cls b p2 q2 mb) (hp : (p1 || q2) = true := by rfl) (h1 : behindInMarks op b = false := by first | exact nobehind _ (by decide) (by decide) | rfl) :
    DT X cls (.Compare a [op] [b] pos) (q1 && q2) (eOp2 o ma mb) := dt_cmp c.1 c.2 ha hb hp h1
theorem chnV {op op' : CmpOp} {r r' : R2} {o1 o2 : D → D → Option D} (h : OpR X (compareOp op) r ∧ V2 (cgOf X cls) r o1) (h' : OpR X (compareOp op') r' ∧ V2 (cgOf X cls) r' o2) (ha : DA X cls a p1 q1 ma) (hb : DA X cls b true q2 mb) (hc : DA X cls c p3 q3 mc)
    (hp : (p1 || q2) = true := by rfl) (hm : lastMarks [op, op'] [b, c] = false := by with_unfolding_all rfl) : DE X cls (.Compare a [op, op'] [b, c] pos) (q1 && (q2 && q3)) (eChain o1 o2 ma mb mc) := de_chain h.1 h'.1 h.2 h'.2 ha hb hc hp hm
theorem chnT {op op' : CmpOp} {r r' : R2} {o1 o2 : D → D → Option D} (h : OpR X (compareOp op) r ∧ V2 (cgOf X cls) r o1) (h' : OpR X (compareOp op') r' ∧ V2 (cgOf X cls) r' o2) (ha : DA X cls a p1 q1 ma) (hb : DA X cls b true q2 mb) (hc : DA X cls c p3 q3 mc)
    (hp : (p1 || q2) = true := by rfl) (hm : lastMarks [op, op'] [b, c] = false := by with_unfolding_all rfl) : DT X cls (.Compare a [op, op'] [b, c] pos) (q1 && (q2 && q3)) (eChain o1 o2 ma mb mc) := dt_chain h.1 h'.1 h.2 h'.2 ha hb hc hp hm
theorem e_ix (ha : DA X cls a p1 q1 ma) (hb : DA X cls b p2 q2 mb) (hp : (p1 || q2) = true := by rfl) (hs : PlainIx b := by exact fun _ _ => rfl) : DE X cls (.Subscript a b pos) (q1 && q2) (eOp2 idxD ma mb) := de_ix ix_seq v_ix ha hb hp hs
end
/-- a module's whole number, a tuple of such -/
theorem de_gint {X : Cx} {cls : Nat → Addr} {x : Str} {i : Int} {pos : Pos} (hg : Gl X x) (hm : ∃ t, X.mg x = some (.int i t)) (hd : (x == ("__debug__" : Str)) = false := by decide) : DE X cls (.Name x pos) true (eLit (.int i)) := by
  obtain ⟨t, hm⟩ := hm
  exact ⟨PE.imp (pe_glob (v := .int i) hg hm ⟨t, rfl⟩ hd) fun _ _ _ h => tE_pure h fun _ => ⟨rfl, rfl⟩⟩
end Ev
namespace Ev
open PySem PySem.Spec PyProof.Rows L2
theorem opN1 {o : D → Option D} {m : M} : eOpN (o1 o) (eCons m eNil) = eOp1 o m := by
  funext ρ
  unfold eOpN eCons eOp1 eNil
  cases m ρ with
  | none => rfl
  | some p => rfl
section
variable {X : Cx} {cls : Nat → Addr} {e : Expr} {m : M} {p q : Bool} {pos p' : Pos} {x : Str} {r : List V → Hp → VK → Prop} {o : D → Option D}
theorem b_bl1 {id : String} (hc : CallR X (.builtin id) r) (hv : VN (cgOf X cls) r (o1 o)) (hm : X.mg x = none) (hb : bootBuiltins x = some (.builtin id)) (ha : DA X cls e p q m) (hg : Gl X x := by rfl)
    (hn : x ≠ "__name__" := by decide) (hdb : (x == ("__debug__" : Str)) = false := by decide) (he : starEach [e] X.env = (false, eval e X.env) :: starEach [] X.env := by rfl) (hpl : (backTo pos (starEach [] X.env)).any (·.1) = false := by rfl) :
    DE X cls (.Call (.Name x p') [e] [] pos) q (eOp1 o m) := by
  have h := de_callB hc hv hg hm hb (das_cons ha das_nil (by cases p <;> rfl) he) hn hdb he hpl (p' := p')
  rw [opN1, Bool.and_true] at h
  exact h
theorem b_ty1 {T : String} (hc : CallR X (.type T) r) (hv : VN (cgOf X cls) r (o1 o)) (hm : X.mg x = none) (hb : bootBuiltins x = some (.type T)) (ha : DA X cls e p q m) (hg : Gl X x := by rfl)
    (hn : x ≠ "__name__" := by decide) (hdb : (x == ("__debug__" : Str)) = false := by decide) (he : starEach [e] X.env = (false, eval e X.env) :: starEach [] X.env := by rfl) (hpl : (backTo pos (starEach [] X.env)).any (·.1) = false := by rfl) :
    DE X cls (.Call (.Name x p') [e] [] pos) q (eOp1 o m) := by
  have h := de_callTy hc hv hg hm hb (das_cons ha das_nil (by cases p <;> rfl) he) hn hdb he hpl (p' := p')
  rw [opN1, Bool.and_true] at h
  exact h
end
/-! ### how many arguments -/
theorem lenC {m : M} {n : Ms} {ρ ρ' : Env} {ds : List D} {k : Nat} (hn : ∀ ρ ds ρ', n ρ = some (ds, ρ') → ds.length = k) (h : eCons m n ρ = some (ds, ρ')) : ds.length = k + 1 := by
  obtain ⟨d, ρ1, ds', rfl, _, en⟩ := eCons_some h
  rw [List.length_cons, hn _ _ _ en]
theorem len_p0 {ρ ρ' : Env} {ds : List D} (h : eNil ρ = some (ds, ρ')) : ds.length = 0 := by
  unfold eNil at h
  cases h
  rfl
theorem len_p1 {a : M} {ρ ρ' : Env} {ds : List D} (h : eCons a eNil ρ = some (ds, ρ')) : ds.length = 1 := lenC (fun _ _ _ h => len_p0 h) h
theorem len_p2 {a b : M} {ρ ρ' : Env} {ds : List D} (h : eCons a (eCons b eNil) ρ = some (ds, ρ')) : ds.length = 2 := lenC (fun _ _ _ h => len_p1 h) h
theorem len_p3 {a b c : M} {ρ ρ' : Env} {ds : List D} (h : eCons a (eCons b (eCons c eNil)) ρ = some (ds, ρ')) : ds.length = 3 := lenC (fun _ _ _ h => len_p2 h) h
theorem len_p4 {a b c d : M} {ρ ρ' : Env} {ds : List D} (h : eCons a (eCons b (eCons c (eCons d eNil))) ρ = some (ds, ρ')) : ds.length = 4 := lenC (fun _ _ _ h => len_p3 h) h
theorem len_p5 {a b c d e : M} {ρ ρ' : Env} {ds : List D} (h : eCons a (eCons b (eCons c (eCons d (eCons e eNil)))) ρ = some (ds, ρ')) : ds.length = 5 := lenC (fun _ _ _ h => len_p4 h) h
theorem len_p6 {a b c d e f : M} {ρ ρ' : Env} {ds : List D} (h : eCons a (eCons b (eCons c (eCons d (eCons e (eCons f eNil))))) ρ = some (ds, ρ')) : ds.length = 6 := lenC (fun _ _ _ h => len_p5 h) h
theorem ip_ok_add : IntIp (ipI fun i j => i + j) (fun a b => some (a + b)) := fun a b r H Q e q => by
  cases e
  exact ⟨a, b, rfl, rfl, q⟩
theorem ip_ok_sub : IntIp (ipI fun i j => i - j) (fun a b => some (a - b)) := fun a b r H Q e q => by
  cases e
  exact ⟨a, b, rfl, rfl, q⟩
theorem Bd.blk {X : Cx} {k : Nat} (B : Bd X k) {s : Shared} {H : Hp} {scope : Scope} {cenv : PySem.Env} {fp : List Addr} : Bd (X.blk s H scope cenv fp) k := ⟨B.room, B.gd, B.calm, B.nd, PassesOwn.never⟩
end Ev

/-! Ex1: exception objects as data: made, asked for their class, read. -/
namespace Ev
open PySem PySem.Spec PyProof.Rows L2

/-! ### isinstance -/
section
open PySem.W PySem.Calls
variable {prog : Program} {w : World} {A : Around} {E : Value → Shared → Prop} {s : Shared} {K : Frag} {y B : Addr} {oy : Obj} {od : Option Obj}
theorem find_data {C : Addr} {nm : Str} {at_ gt : Value} {o : Option Obj} (h1 : (clsIn K C).isSome = true) (h2 : findIn K (.ref C) nm = some (some at_)) (h3 : specialIn K at_ "__get__" = some (some gt)) (h4 : takesIn K at_ = some true) : findObj K C o nm = some (.bind gt at_) := by
  obtain ⟨c, hc⟩ := Option.isSome_iff_exists.mp h1
  unfold findObj
  simp only [hc, h2, h3, h4, Option.bind_some]
theorem exc_cls {R : Option Value → Shared → Prop} (T : ExcC K B) (KX : K.In s.heap) (J : InstAt s.heap y oy B od) (k : R (some (.ref B)) { s with toks := s.toks + 1 }) : wpAny (model prog w) A (getAttr? (.ref y) "__class__") R E s := by
  have ff : findObj K B od "__class__" = some (.bind (.builtin "getset_descriptor.__get__") (.builtin "object.__class__")) := find_data (by obtain ⟨c, hc, _⟩ := any_some T.hd; rw [hc]; rfl) T.ha T.hn T.ht
  obtain ⟨hq, gs, dr, tk, oq⟩ := s
  have lt := J.type (M := model prog w)
  have lg := looks_findIn (M := model prog w) KX T.hg
  have la := looks_findIn (M := model prog w) KX T.hk
  have lf := looks_find (M := model prog w) KX J ff
  have ls : Looks (model prog w) hq (isInstance (.ref y) (.type "BaseException")) true := lt.andThen (looks_subIn KX T.hs)
  have e0 : (false && onTheHeap (Value.builtin "BaseException.__getattribute__")) = false := rfl
  have e2 : (Value.builtin "BaseException.__getattribute__" == Value.builtin "object.__getattribute__") = false := by decide +kernel
  have e1 : (onTheHeap (Value.ref B) && Value.builtin "BaseException.__getattribute__" == Value.builtin "object.__getattribute__") = false := by rw [e2]; rfl
  unfold getAttr? getAttrBy? getAttrBy
  refine wpAny_bind (wpAny_mkText (wpAny_bind (wpAny_attempt (wpAny_holding (wpAny_bind (lt.at (wpAny_bind (lg.at ?_))))))))
  show wpAny _ _ (if (onTheHeap (Value.ref B) && Value.builtin "BaseException.__getattribute__" == Value.builtin "object.__getattribute__") = true then _ else _) _ _ _
  rw [e1, if_neg Bool.false_ne_true]
  unfold getAttrByItsOwn hookBefore
  refine wpAny_bind ?_
  rw [if_pos (show onTheHeap (Value.ref B) = true from rfl)]
  refine la.at (wpAny_bind (wpAny_attempt (wpAny_holding ?_)))
  unfold callGetattribute
  rw [e0, if_neg Bool.false_ne_true]
  unfold boundAndCalled
  rw [PySem.F.excAttr_ValueError.ga.bind (.ref y)]
  refine wpAny_bind (wpAny_pure ?_)
  show wpAny _ _ (call (.builtin "BaseException.__getattribute__") [.ref y, .str "__class__" tk]) _ _ _
  refine wpAny_call (codeAny_call_builtin PySem.F.excAttr_ValueError.ga.plain PySem.F.entry_bexc_ga ?_)
  refine @check_slot (model prog w) _ _ ⟨hq, gs, dr, tk + 1, oq⟩ "BaseException.__getattribute__" "BaseException" "__getattribute__" (.ref y) [.str "__class__" tk] [] _ (by decide +kernel) (by decide +kernel) ls (PySem.F.args_bexc_ga (.ref y) (.str "__class__" tk)) ?_
  unfold Builtin.«object.__getattribute__»
  refine wpAny_bind (wpAny_of_eq (a := ((Value.ref y : Value), [Value.str "__class__" tk])) (by first | rfl | (simp only [slotArgs]; rfl)) ?_)
  refine wpAny_bind (wpAny_pure (wpAny_bind (lt.at (wpAny_bind (lf.at ?_)))))
  show wpAny _ _ (holding [Value.builtin "object.__class__"] (call (.builtin "getset_descriptor.__get__") [.builtin "object.__class__", .ref y, .ref B]) >>= ret) _ _ _
  refine wpAny_bind (wpAny_holding (wpAny_call (class_get (s := ⟨hq, gs, dr, tk + 1, oq⟩) (ox := oy) (od := od) KX J T.hm ?_)))
  refine wpAny_pure ?_
  show wpAny _ _ (handedOut (.ref B)) _ _ _
  rw [handedOut_of (v := .ref B) rfl]
  first
    | exact wpAny_pure (wpAny_pure k)
    | exact wpAny_pure k
    | exact wpAny_pure (wpAny_bind (wpAny_pure (wpAny_pure k)))
theorem cls_obj (T : ExcC K B) : ∃ dd cd sl, K.lookup B = some ⟨.type "type", dd, .cls cd, sl⟩ ∨ ∃ c, K.lookup B = some ⟨c, dd, .cls cd, sl⟩ := by
  obtain ⟨cd, hc, _⟩ := any_some T.hd
  unfold clsIn at hc
  split at hc
  · rename_i c d cd' sl ho
    exact ⟨d, cd', sl, .inr ⟨c, ho⟩⟩
  · cases hc
theorem cls_obj' (T : ExcC K B) : ∃ c dd cd sl, K.lookup B = some ⟨c, dd, .cls cd, sl⟩ := by
  obtain ⟨dd, cd, sl, h | ⟨c, h⟩⟩ := cls_obj T
  · exact ⟨_, dd, cd, sl, h⟩
  · exact ⟨c, dd, cd, sl, h⟩
theorem kitx_excD (T : ExcC K B) : KitX K (.ref y) (.ref B) (fun h => InstAt h y oy B od) where
  ty := fun _ _ _ J => J.type
  it := fun _ _ KX _ => by
    obtain ⟨c, dd, cd, sl, ho⟩ := cls_obj' T
    intro A' Q' E' s' k q
    unfold isType loadHead
    exact wpAny_bind (wpAny_loadPart (k _ _ (KX _ _ ho)) (wpAny_pure q))
  ne := fun h tp dd its n sl KX htp => by
    refine Bool.eq_false_iff.mpr fun q => ?_
    obtain rfl : B = tp := Value.ref.inj (beq_iff_eq.mp q)
    obtain ⟨c, d2, cd, sl2, ho⟩ := cls_obj' T
    have z := (KX _ _ ho).symm.trans htp
    cases z
  ca := fun KX J k => exc_cls T KX J k
end

section
variable {X : Cx} {cls : Nat → Addr} {pins : List (Addr × Obj)} {σ : L2.St} {I H : Hp} {s : Shared} {c : Nat} {l : Option Int} {v : V}
/-- an exception object in the heap -/
theorem ExR.inst (h : ExR cls I c l v) (t : Same I H) (J : Inv X pins σ H s) : ∃ a oe od, v = .ref a ∧ PySem.W.InstAt s.heap a oe (cls c) od ∧ ∀ i, l = some i → ∃ ob, od = some ob ∧ ∃ u, PySem.W.lookIn "line" ob = some (some u) ∧ RelV (.int i) u := by
  obtain ⟨a, oe, vs, rfl, ha, hd, hc, q⟩ := h
  have g := exO_get (J.hok a _ (t _ _ ha))
  have nc : PySem.W.notCls oe = true := by
    unfold PySem.W.notCls
    rw [hd] <;> rfl
  cases l with
  | none =>
    exact ⟨a, oe, none, rfl, ⟨g, hc, nc, by rw [q]; exact True.intro⟩, fun i e => nomatch e⟩
  | some i =>
    obtain ⟨dx, e1, e2⟩ := q
    obtain ⟨mA, hns, rel⟩ := exd_at J.hok (t _ _ e2)
    obtain ⟨ob, ho, hl⟩ := lookIn_ns hns
    have r := rel "line"
    obtain ⟨u, hu, ru⟩ := RelO.some_of (v := .int i) (o := mA "line") (by
      have e : List.lookup (Str.ofString "line") ([("line", V.int i)] : List (Str × V)) = some (V.int i) := by simp [List.lookup]
      rw [e] at r
      exact r)
    refine ⟨a, oe, some ob, rfl, ⟨g, hc, nc, by rw [e1]; exact ho⟩, fun j e => ?_⟩
    cases e
    exact ⟨ob, rfl, u, by rw [hl, hu], ru⟩
end
/-- the classes of exceptions below n are as isinstance wants them; cv a class: which of them are below it -/
structure IsC (X : Cx) (cls : Nat → Addr) (n : Nat) (cv : Value) (sub : Nat → Bool) : Prop where
  ok : ∀ c, c < n → ExcC X.K (cls c) ∧ PySem.W.kitOne X.K (.ref (cls c)) cv = some (sub c)
def isxD (n : Nat) (sub : Nat → Bool) : D → Option D
  | .exc c _ => if c < n then some (.bl (sub c)) else none
  | _ => none
def rIsC (G : Cg) (n : Nat) (cv : V) (sub : Nat → Bool) : List V → Hp → VK → Prop := fun xs H Q => ∃ I d v r, xs = [v, cv] ∧ Same I H ∧ Sv G I H d v ∧ isxD n sub d = some r ∧ Res G I H r Q
section
variable {X : Cx} {cls : Nat → Addr} {e : Expr} {m : M} {p q : Bool} {x : Str} {np p1 pos : Pos} {n : Nat} {cv : V} {u : Value} {sub : Nat → Bool}
theorem call_isC (T : IsC X cls n u sub) (hu : ∀ w, RelV cv w → w = u) : CallR X (.builtin "isinstance") (rIsC (cgOf X cls) n cv sub) := by
  intro pins s σ H xs us Q J r h
  obtain ⟨I, d, v, r0, rfl, tt, sv, o, k⟩ := h
  unfold isxD at o
  split at o
  · rename_i c l
    split at o
    · rename_i lt
      cases o
      obtain ⟨u1, u2, rfl, r1, r2⟩ := vals2 r
      obtain rfl := hu _ r2
      simp only [Sv, Rp] at sv
      obtain ⟨a, oe, od, rfl, J1, _⟩ := sv.2.inst tt J
      cases r1
      exact PySem.W.kia_one (kitx_excD (T.ok c lt).1) J.kIn J1 (T.ok c lt).2 (fun z => nomatch z) fun tk => ⟨.bl _, H, J.tok tk, rfl, k.old tt (rp_bl _)⟩
    · cases o
  · cases o
theorem de_isC (T : IsC X cls n u sub) (hu : ∀ w, RelV cv w → w = u) (hn : PE X (.Name x np) (tC cv)) (hg : Gl X "isinstance") (hm : X.mg "isinstance" = none) (ha : DA X cls e p q m)
    (hs : starEach [e, .Name x np] X.env = (false, eval e X.env) :: starEach [.Name x np] X.env := by rfl) (hpl : (backTo pos (starEach [.Name x np] X.env)).any (·.1) = false := by rfl) :
    DE X cls (.Call (.Name "isinstance" p1) [e, .Name x np] [] pos) q (eOp1 (isxD n sub) m) := by
  refine ⟨PE.imp (pe_callB (call_isC (cls := cls) T hu) hg hm PyProof.Rows.Boot.«isinstance» (pa_cons ha.pe (pa_cons hn pa_nil) hs) (by decide) (by decide) hs hpl) fun σ H Q h => ?_⟩
  have h := un_of (p := p) (r := fun v H Q => rIsC (cgOf X cls) n cv sub [v, cv] H Q) (fun I H d v r Q tt sv o q => ⟨I, d, v, r, rfl, tt, sv, o, q⟩) h
  exact h
/-- of a class of the text -/
theorem de_isO {C : Addr} (T : IsC X cls n (.ref C) sub) (hgt : Gl X x) (hmt : X.mg x = some (.ref C)) (hg : Gl X "isinstance") (hm : X.mg "isinstance" = none) (ha : DA X cls e p q m) (hd : (x == ("__debug__" : Str)) = false := by decide)
    (hs : starEach [e, .Name x np] X.env = (false, eval e X.env) :: starEach [.Name x np] X.env := by rfl) (hpl : (backTo pos (starEach [.Name x np] X.env)).any (·.1) = false := by rfl) :
    DE X cls (.Call (.Name "isinstance" p1) [e, .Name x np] [] pos) q (eOp1 (isxD n sub) m) := de_isC (cv := .ref C) T (fun _ h => h) (pe_glob hgt hmt rfl hd) hg hm ha hs hpl
/-- of a built-in class -/
theorem de_isB {ty : String} (T : IsC X cls n (.type ty) sub) (hgt : Gl X x) (hmt : X.mg x = none) (hv : bootBuiltins x = some (.type ty)) (hg : Gl X "isinstance") (hm : X.mg "isinstance" = none) (ha : DA X cls e p q m) (hn : x ≠ "__name__" := by decide) (hd : (x == ("__debug__" : Str)) = false := by decide)
    (hs : starEach [e, .Name x np] X.env = (false, eval e X.env) :: starEach [.Name x np] X.env := by rfl) (hpl : (backTo pos (starEach [.Name x np] X.env)).any (·.1) = false := by rfl) :
    DE X cls (.Call (.Name "isinstance" p1) [e, .Name x np] [] pos) q (eOp1 (isxD n sub) m) := de_isC (cv := .ty ty) T (fun _ h => h) (pe_bltn (v := .ty ty) hgt hmt hv rfl hn hd) hg hm ha hs hpl
end

/-! ### e.line -/
def lineD (c : Nat) : D → Option D
  | .exc c' (some i) => if c' = c then some (.int i) else none
  | _ => none
theorem da_line {X : Cx} {cls : Nat → Addr} {e : Expr} {m : M} {pa q : Bool} {pos : Pos} {c : Nat} (T : XfC X.K (cls c)) (hno : PySem.W.findIn X.K (.ref (cls c)) "line" = some none) (ha : DA X cls e pa q m) (hb : attributeBase e "line" X.env (eval e X.env) = eval e X.env := by rfl) :
    DA X cls (.Attribute e "line" pos) true q (eOp1 (lineD c) m) := by
  have key : DE X cls (.Attribute e "line" pos) q (eOp1 (lineD c) m) := by
    refine ⟨⟨fun pins s σ H Q J h => ?_⟩⟩
    have h := un_of (p := pa) (r := fun v H Q => ∃ I d r, Same I H ∧ Sv (cgOf X cls) I H d v ∧ lineD c d = some r ∧ Res (cgOf X cls) I H r Q) (fun I H d v r Q tt sv o k => ⟨I, d, r, tt, sv, o, k⟩) h
    refine attr_of hb (thn (ha.pe.run pins s σ H _ J h) fun u s1 hh => ?_)
    obtain ⟨v, H1, J1, rv, I, d, r, tt, sv, o, k⟩ := hh
    unfold lineD at o
    split at o
    · rename_i c' i
      split at o
      · rename_i ec
        subst ec
        cases o
        simp only [Sv, Rp] at sv
        obtain ⟨a, oe, od, rfl, JI, q⟩ := sv.2.inst tt J1
        obtain ⟨ob, rfl, w, hw, rw'⟩ := q i rfl
        cases rv
        exact HandSPX.exc_get J1.kIn JI T.ga T.gg T.exC (PySem.W.findObj_own T.hdC hno rfl hw) (handed_of rw') ⟨.int i, H1, J1.tok _, rw', k.old tt (rp_int _)⟩
      · cases o
    · cases o
  refine ⟨?_, fun ρ d ρ' em => ?_⟩
  · refine PE.imp key.pe fun σ H Q ⟨I, F, ρ, d, ρ', ft, em, k⟩ => ⟨I, F, ρ, d, ρ', ft, em, fun v H' I' A F' g s n r => ?_⟩
    obtain ⟨d0, _, o⟩ := eOp1_some em
    unfold lineD at o
    split at o
    · split at o
      · cases o
        have r' := r
        simp only [Rp] at r'
        obtain ⟨rfl, rfl⟩ := r'
        exact k _ H' I' F' g s n r fun _ => r
      · cases o
    · cases o
  · obtain ⟨d0, _, o⟩ := eOp1_some em
    unfold lineD at o
    split at o
    · split at o
      · cases o; rfl
      · cases o
    · cases o
end Ev

/-! Ex2: exception objects made. -/
namespace Ev
open PySem PySem.Spec PyProof.Rows L2

abbrev bmVE : List Value := [.type "ValueError", .type "Exception", .type "BaseException", .type "object"]
/-- a plain class of exceptions, by its name -/
structure Xc (X : Cx) (cls : Nat → Addr) (x : Str) (c : Nat) : Prop where
  gl : Gl X x
  mg : X.mg x = some (.ref (cls c))
  kp : PySem.W.keepIn X.K (.ref (cls c)) = true
  ex : PySem.W.excIn X.K (cls c) bmVE "ValueError.__new__" = true
def eExc (c : Nat) (l : D → Option (Option Int)) (m : M) : M := fun ρ => match m ρ with
  | some (d, ρ') => match l d with
    | some i => some (.exc c i, ρ')
    | none => none
  | none => none
theorem eExc_some {c : Nat} {l : D → Option (Option Int)} {m : M} {ρ ρ' : Env} {r : D} (h : eExc c l m ρ = some (r, ρ')) : ∃ d i, m ρ = some (d, ρ') ∧ l d = some i ∧ r = .exc c i := by
  unfold eExc at h
  split at h
  · rename_i d ρ1 em
    split at h
    · rename_i i el
      cases h
      exact ⟨d, i, em, el, rfl⟩
    · cases h
  · cases h
section
variable {X : Cx} {cls : Nat → Addr} {e : Expr} {m : M} {q : Bool} {x : Str} {p pos : Pos} {c : Nat} {ta : TE}
theorem pe_exc {C : Addr} (qC : PySem.W.excIn X.K C bmVE "ValueError.__new__" = true) (gl : Gl X x) (mg : X.mg x = some (.ref C)) (kp : PySem.W.keepIn X.K (.ref C) = true) (he : PE X e ta) (hdb : (x == ("__debug__" : Str)) = false := by decide)
    (hs : starEach [e] X.env = (false, eval e X.env) :: starEach [] X.env := by rfl) :
    PE X (.Call (.Name x p) [e] [] pos) (fun σ H Q => ta σ H fun _ H1 => ∀ a t vs, H1 a = none → t.cls = .ref C → t.dict = none → t.data = .fields vs → Q (.ref a) (upd H1 a (exO a t))) := by
  refine ⟨fun pins s σ H Q J h => wpAny_Call_Name_kw (ld_glob J gl mg ?_ hdb)⟩
  refine PySem.W.callWith_K (h₀ := X.base) J.ok.mod.kin kp ?_ hs (by rfl)
  rw [hs]
  show wpAny _ _ (spliced ((false, eval e X.env) :: backTo pos (starEach [] X.env))) _ _ s
  refine Calls.spliced_cons (thn (he.run pins s σ H _ J h) fun u s1 ⟨v, H1, J1, r1, q1⟩ => ?_)
  refine Calls.spliced_nil ⟨J1.kIn, ?_⟩
  show wpAny _ _ (call (.ref C) [u]) _ _ _
  obtain ⟨bm, N, nm, qn, bs, hdct, sn, sub, ab, col, dd, k0, k1, k2, k3, k5, mN, hC, hN, hni, T⟩ := exc_obj J1.kIn qC
  refine wpAny_call_exc_subT PySem.F.excBase_ValueError T hC hN hni (fun h' a hm => ?_) (by show 1 ≤ sizeLine; rw [sizeLine_eq]; omega)
  have hn : H1 a = none := J1.hok.gone hm.new
  obtain ⟨t, ht, _, _⟩ := hm.there
  exact ⟨.ref a, _, J1.laidN hm.keeps hm.new hn (exO_ok ht), rfl, q1 a _ _ hn rfl rfl rfl⟩
/-- C(e), a plain class -/
theorem de_exc (T : Xc X cls x c) (he : DE X cls e q m) (hdb : (x == ("__debug__" : Str)) = false := by decide) (hs : starEach [e] X.env = (false, eval e X.env) :: starEach [] X.env := by rfl) : DE X cls (.Call (.Name x p) [e] [] pos) q (eExc c (fun _ => some none) m) := by
  refine ⟨PE.imp (pe_exc T.ex T.gl T.mg T.kp he.pe hdb hs) fun σ H Q ⟨I, F, ρ, r, ρ', ft, em, k⟩ => ?_⟩
  obtain ⟨d, i, e0, el, rfl⟩ := eExc_some em
  cases el
  refine ⟨I, F, ρ, d, ρ', ft, e0, fun v H1 I1 A F1 g s n r a t vs hn hc hd hv => ?_⟩
  have lv : ∀ b ∈ F1, ∃ o, H1 b = some o := n.live
  have g1 := (g.tail).allocF lv (p := a) (o := exO a t) hn
  have no : ∀ b ∈ F1, b ≠ a := fun b m z => by
    obtain ⟨o, ho⟩ := lv b m
    rw [z, hn] at ho
    cases ho
  have s2 : Same H1 (upd H1 a (exO a t)) := fun b o hb => by rw [upd_ne (fun z => by rw [z, hn] at hb; cases hb)]; exact hb
  have hI : I1 a = none := by
    cases z : I1 a with
    | none => rfl
    | some o => rw [g.top a o z] at hn; cases hn
  have s3 : Same I1 (upd I1 a (exO a t)) := fun b o hb => by rw [upd_ne (fun z => by rw [z, hI] at hb; cases hb)]; exact hb
  refine k (.ref a) _ _ [] F1 g1 (fun z => (s z).trans s2) (n.stay s3 fun b o _ hb => s2 b o hb) ?_
  simp only [Rp]
  exact ⟨trivial, a, t, vs, rfl, upd_same, hv, hc, hd⟩
end

/-! ### a class with an __init__ of its own that keeps the line -/
/-- Base.__init__(self, ..), Base a class of the text without an own __init__ -/
structure BaseI (X : Cx) (x : Str) (B : Addr) : Prop where
  gl : Gl X x
  mg : X.mg x = some (.ref B)
  ga : PySem.W.specialIn X.K (.ref B) "__getattribute__" = some (some (.builtin "type.__getattribute__"))
  ty : PySem.W.typeIn X.K (.ref B) = some (.type "type")
  rd : PySem.W.readsIn X.K B (.type "type") = true
  fi : PySem.W.findCls X.K (.ref B) (.type "type") "__init__" = some (.val (.builtin "ValueError.__init__"))
theorem pe_bini {X : Cx} {x : Str} {B : Addr} {e : Expr} {es : List Expr} {ta : TA} {p1 p2 pos : Pos} {pl : Sem Bool} (T : BaseI X x B) (ha : PA X (e :: es) ta) (hdb : (x == ("__debug__" : Str)) = false := by decide)
    (hc : eval (.Call (.Attribute (.Name x p1) "__init__" p2) (e :: es) [] pos) X.env = (do
      let bv ← eval (.Name x p1) X.env
      standAt p2.atName
      let (g, first) ← holding [bv] (getMethod bv "__init__" pl)
      callWith pos g first (backTo pos (starEach (e :: es) X.env)) (backToKw pos (keywordEach [] X.env))) := by rfl)
    (he : starEach (e :: es) X.env = (false, eval e X.env) :: starEach es X.env := by rfl) (hpl : (backTo pos (starEach es X.env)).any (·.1) = false := by rfl) :
    PE X (.Call (.Attribute (.Name x p1) "__init__" p2) (e :: es) [] pos) (tVeI X.K ta) := by
  refine ⟨fun pins s σ H Q J h => PySem.W.methodCall_KW (ld_glob J T.gl T.mg ?_ hdb) hc⟩
  obtain ⟨m, fr⟩ := J.fr
  refine PySem.W.method_of_cls fr J.ok.mod.kin T.ga (PySem.W.cls_val fr J.ok.mod.kin T.ty T.rd T.fi rfl ?_)
  show wpAny _ _ (callWith pos (Value.builtin "ValueError.__init__") [] (backTo pos (starEach (e :: es) X.env)) []) _ _ _
  refine PyProof.Rows.callWith_method1 (thn (ha.run pos pins _ σ H _ (J.tok _) h) fun us s1 hh => ?_) he hpl
  obtain ⟨vs, H1, J1, r1, a, C, ws, rfl, hl, TC, ea, q⟩ := hh
  cases r1 with
  | @cons _ u0 _ ur ra rw' =>
    obtain rfl : u0 = Value.ref a := ra
    have hlen : ur.length ≤ sizeLine := by
      rw [← Paired.length rw', sizeLine_eq]
      omega
    exact oinit_ok TC J1 ea hlen fun s' J2 => ⟨.non, H1, J2, rfl, q⟩
/-- what such an __init__ does: from the instance and the line -/
def spLn (C : Addr) : Sp := fun vs H Q _ => vs.length = 2 ∧ ∃ a i, vs = [.ref a, .int i] ∧ i.natAbs.log2 < 1920 ∧ H a = some (exo a C none) ∧ ∀ dx, H dx = none → dx ≠ a → Q .non (upd (upd H dx (exd dx [("line", .int i)])) a (exo a C (some dx)))
end Ev

/-! Ex3: an __init__ that keeps the line, walked; such an exception made; the facts that a written part shows. -/
namespace Ev
open PySem PySem.Spec PyProof.Rows L2

theorem line_fits {t1 t2 : Str} {i : Int} (hi : i.natAbs.log2 < 1920) (h1 : t1.length ≤ 100) (h2 : t2.length ≤ 100) :
    (Str.empty ++ t1).length ≤ sizeLine ∧ (Str.empty ++ t1 ++ (Str.ofString (toString i))).length ≤ sizeLine ∧ (Str.empty ++ t1 ++ (Str.ofString (toString i)) ++ t2).length ≤ sizeLine := by
  have e := int_text_length_le (k := 1920) (by decide) hi
  have e2 : (Str.ofString (toString i)).length = (toString i).length := PySem.ofString_length _
  have ap : ∀ a b : Str, (a ++ b).length = a.length + b.length := fun a b => by
    first
      | exact Str.length_append a b
      | exact Array.size_append
  have z : Str.empty.length = 0 := rfl
  have ze : sizeLine = sizeLine := rfl
  refine ⟨?_, ?_, ?_⟩ <;> (simp only [ap, z, e2]; rw [sizeLine_eq]; omega)
/-- the def itself -/
theorem fn_line {P : Program} {w : World} {K : PySem.W.Frag} {mg : Str → Option Value} {base : Heap} {d : DefX} {fd : FuncData} {k : Nat} {C : Addr} {t1 t2 : Str}
    (F : FunX K d fd) (S : FnScope ["self", "line"] ["self", "line"] d.scope) (T : OexC K C) (hno : PySem.W.findIn K (.ref C) "line" = some none) (l1 : t1.length ≤ 100) (l2 : t2.length ≤ 100)
    (hP : ∀ (cdv : Value) (A : Around) (outer : List PySem.Env) (s : Shared) (H : Hp) (E : XK), PSs (cxOf CX0 P w K mg base ["self", "line"] d.qual d.scope (d.ad K) cdv A outer s H E) d.body
      (tSeq (tDrop (tVeI K (tCons (tVar 0) (tCons (fun σ H Q => tJs [tC (.str t1), tFmt (tVar 1), tC (.str t2)] Str.empty σ H fun out H1 => Q (.str out) H1) tNil)))) (tSeq (tOst K "line" (tVar 0) (tVar 1)) tNext))) :
    FnG P w K mg base CX0 (k + 1) (d.ad K) fd ["self", "line"] (spLn C) := by
  obtain ⟨oc, od, kV, doc, pm, an, cdv, ct, osl, rfl, lk, hcd⟩ := F.ex
  refine fnG_of lk hcd S (fun vs H Q E h => h.1) fun A outer s H vs Q E hg room h => ⟨_, hP cdv A outer s H E, ?_⟩
  obtain ⟨_, a, i, rfl, hi, ha, q⟩ := h
  obtain ⟨f1, f2, f3⟩ := line_fits (t1 := t1) (t2 := t2) hi l1 l2
  refine ⟨.ref a, rfl, t1, rfl, f1, .int i, rfl, .inr ⟨i, rfl, hi, _, rfl, f2, t2, rfl, f3, a, C, _, rfl, ?_, T, ha, ?_⟩⟩
  · show (1 : Nat) ≤ 1000
    decide
  · exact ⟨.int i, rfl, .ref a, rfl, a, C, rfl, T, hno, .inl ⟨ha, fun dx hd hne => q dx hd hne⟩⟩

/-- a class that keeps its line -/
structure MkLn (X : Cx) (cls : Nat → Addr) (x : Str) (c : Nat) : Prop where
  gl : Gl X x
  mg : X.mg x = some (.ref (cls c))
  ox : OexC X.K (cls c)
  ok : ∃ (k : Nat) (f : Addr) (fd : FuncData), PySem.W.findIn X.K (.ref (cls c)) "__init__" = some (some (.ref f)) ∧ PySem.W.typeIn X.K (.ref f) = some (.type "function") ∧
    FnG X.prog X.w X.K X.mg X.base CX0 k f fd ["self", "line"] (spLn (cls c)) ∧ Room (k + 1) X.A ∧ Binds X.K fd ["self", "line"] []
def lnD : D → Option (Option Int)
  | .int i => if i.natAbs.log2 < 1920 then some (some i) else none
  | _ => none
section
variable {X : Cx} {cls : Nat → Addr} {e : Expr} {m : M} {q : Bool} {x : Str} {p pos : Pos} {c : Nat} {ta : TE}
theorem pe_mkLn (hgd : X.A.guards = some []) (M : MkLn X cls x c) (he : PE X e ta) (hdb : (x == ("__debug__" : Str)) = false := by decide) (hs : starEach [e] X.env = (false, eval e X.env) :: starEach [] X.env := by rfl) :
    PE X (.Call (.Name x p) [e] [] pos) (fun σ H Q => ta σ H fun v H1 => ∃ i : Int, v = .int i ∧ i.natAbs.log2 < 1920 ∧
      ∀ a dx t vs, H1 a = none → H1 dx = none → dx ≠ a → t.cls = .ref (cls c) → t.dict = some dx → t.data = .fields vs → Q (.ref a) (upd (upd H1 dx (exd dx [("line", .int i)])) a (exO a t))) := by
  obtain ⟨k, fI, fd, iC, tI, F1, hr, hb⟩ := M.ok
  refine ⟨fun pins s σ H Q J h => wpAny_Call_Name_kw (ld_glob J M.gl M.mg ?_ hdb)⟩
  obtain ⟨nm, qn, N, bs, bm, sn, sub, ab, col, dd, k0, k1, k2, k3, k5, hC, hbm⟩ := M.ox.cls
  refine PySem.W.callWith_K (h₀ := X.base) J.ok.mod.kin M.ox.kC ?_ hs (by rfl)
  rw [hs]
  show wpAny _ _ (spliced ((false, eval e X.env) :: backTo pos (starEach [] X.env))) _ _ s
  refine Calls.spliced_cons (thn (he.run pins s σ H _ J h) fun u s1 ⟨v, H1, J1, r1, i, ev, hi, q1⟩ => ?_)
  subst ev
  refine Calls.spliced_nil ⟨J1.kIn, ?_⟩
  show wpAny _ _ (call (.ref (cls c)) [u]) _ _ _
  obtain ⟨hp, gs, dr, tk, os⟩ := s1
  have sz : hp.objs.size ≤ hp.objs.size + 1 := Nat.le_succ _
  have hn : H1 (hp.objs.size + 1) = none := J1.hok.fresh sz
  have up : ∀ b o, hp.get? b = some o → ((hp.push (PySem.W.kdv_tup [u])).push (PySem.HandSPX.excO (cls c) hp.objs.size)).get? b = some o := fun b o eb => Heap.get?_push_of_some _ (Heap.get?_push_of_some _ eb)
  have there : ((hp.push (PySem.W.kdv_tup [u])).push (PySem.HandSPX.excO (cls c) hp.objs.size)).get? (hp.objs.size + 1) = some (PySem.HandSPX.excO (cls c) hp.objs.size) := by heap_get
  have J2 : Inv X pins σ (upd H1 (hp.objs.size + 1) (exo (hp.objs.size + 1) (cls c) none)) ⟨(hp.push (PySem.W.kdv_tup [u])).push (PySem.HandSPX.excO (cls c) hp.objs.size), gs, dr, tk, os⟩ :=
    J1.laid (t' := tk) (a := hp.objs.size + 1) (o := exo (hp.objs.size + 1) (cls c) none) (h' := (hp.push (PySem.W.kdv_tup [u])).push (PySem.HandSPX.excO (cls c) hp.objs.size)) up sz (exo_ok there)
  have r2 : Vals (V.ref (hp.objs.size + 1) :: [V.int i]) (Value.ref (hp.objs.size + 1) :: [u]) := .cons rfl (.cons r1 .nil)
  have hq : spLn (cls c) (V.ref (hp.objs.size + 1) :: [V.int i]) (upd H1 (hp.objs.size + 1) (exo (hp.objs.size + 1) (cls c) none)) (fun v H2 => v = .non ∧ ∃ dx, H1 dx = none ∧ dx ≠ hp.objs.size + 1 ∧
      H2 = upd (upd (upd H1 (hp.objs.size + 1) (exo (hp.objs.size + 1) (cls c) none)) dx (exd dx [("line", .int i)])) (hp.objs.size + 1) (exo (hp.objs.size + 1) (cls c) (some dx))) E0 := by
    refine ⟨rfl, _, i, rfl, hi, upd_same, fun dx hd hne => ⟨rfl, dx, ?_, hne, rfl⟩⟩
    rw [upd_ne hne] at hd
    exact hd
  have hus : [u].length ≤ sizeLine := by
    rw [sizeLine_eq]
    show 1 ≤ _
    omega
  have b2 := hb _ (Value.ref (hp.objs.size + 1) :: [u]) J2.kIn rfl
  rw [List.append_nil] at b2
  refine wpAny_call (PySem.HandSPX.call_own PySem.F.excBase_ValueError (fun Y => PySem.HandSPX.refsVE_contains Y bm hbm) (J1.kIn _ _ hC) (PySem.W.looks_findIn J1.kIn iC) (fun self => PySem.W.bind_fn J1.kIn self tI) hus
    (codeAny_mono (F1.run _ X.stack _ _ ⟨Value.ref (hp.objs.size + 1) :: [u], []⟩ (Value.ref (hp.objs.size + 1) :: [u]) _ _ E0 (by first | exact hgd | (simpa [Around.under, Code.isGuard] using hgd)) (hr.make (cls c) [u] []) (J2.env0.make (cls c) [u] []) b2 r2 hq) fun r s' hq' => ?_))
  cases r with
  | error er => exact pass0 pins σ _ _ er s' J2 hq'
  | ok fl =>
    cases fl with
    | ret u' =>
      obtain ⟨v', H', J3, rv, ev', dx, hdx, hne, eH⟩ := J2.after hq'
      subst ev'
      subst eH
      obtain ⟨t0, hoe⟩ := exo_at J3.hok (e := hp.objs.size + 1) (C := cls c) (d := some dx) upd_same
      have J4 := J3.write (t' := s'.toks) (x := hp.objs.size + 1) (e := hp.objs.size + 1) (o := exO (hp.objs.size + 1) ({ cls := .ref (cls c), dict := some dx, data := .fields #[.ref t0, .none, .none, .none, .bool false, .none] } : Obj)) (h' := s'.heap)
        (by rw [upd_same]; exact True.intro) (.inl rfl) (fun _ _ _ z => z) ⟨_, hoe⟩ (exO_ok hoe)
      refine ⟨rv, .ref (hp.objs.size + 1), _, J4, rfl, ?_⟩
      have eq : upd (upd (upd (upd H1 (hp.objs.size + 1) (exo (hp.objs.size + 1) (cls c) none)) dx (exd dx [("line", .int i)])) (hp.objs.size + 1) (exo (hp.objs.size + 1) (cls c) (some dx))) (hp.objs.size + 1)
          (exO (hp.objs.size + 1) ({ cls := .ref (cls c), dict := some dx, data := .fields #[.ref t0, .none, .none, .none, .bool false, .none] } : Obj)) =
          upd (upd H1 dx (exd dx [("line", .int i)])) (hp.objs.size + 1) (exO (hp.objs.size + 1) ({ cls := .ref (cls c), dict := some dx, data := .fields #[.ref t0, .none, .none, .none, .bool false, .none] } : Obj)) := by
        funext b
        by_cases hb : b = hp.objs.size + 1
        · rw [hb, upd_same, upd_same]
        · rw [upd_ne hb, upd_ne hb, upd_ne hb]
          by_cases hd : b = dx
          · rw [hd, upd_same, upd_same]
          · rw [upd_ne hd, upd_ne hd, upd_ne hb]
      rw [eq]
      exact q1 _ dx _ _ hn hdx hne rfl rfl rfl
    | next => exact False.elim hq'
    | brk => exact False.elim hq'
    | cont => exact False.elim hq'
/-- C(line) -/
theorem de_mkLn (hgd : X.A.guards = some []) (M : MkLn X cls x c) (he : DE X cls e q m) (hdb : (x == ("__debug__" : Str)) = false := by decide) (hs : starEach [e] X.env = (false, eval e X.env) :: starEach [] X.env := by rfl) :
    DE X cls (.Call (.Name x p) [e] [] pos) q (eExc c lnD m) := by
  refine ⟨PE.imp (pe_mkLn hgd M he.pe hdb hs) fun σ H Q ⟨I, F, ρ, r, ρ', ft, em, k⟩ => ?_⟩
  obtain ⟨d, o, e0, el, rfl⟩ := eExc_some em
  refine ⟨I, F, ρ, d, ρ', ft, e0, fun v H1 I1 A F1 g s n rr => ?_⟩
  unfold lnD at el
  split at el
  · rename_i i
    split at el
    · rename_i hi
      cases el
      simp only [Rp] at rr
      obtain ⟨rfl, rfl⟩ := rr
      refine ⟨i, rfl, hi, fun a dx t vs ha hd hne hc hdt hv => ?_⟩
      have lv : ∀ b ∈ F1, ∃ o, H1 b = some o := n.live
      have no : ∀ {z : Addr}, H1 z = none → ∀ b o, H1 b = some o → b ≠ z := fun {z} hz b o hb e => by rw [e, hz] at hb; cases hb
      have noI : ∀ {z : Addr}, H1 z = none → I1 z = none := fun {z} hz => by
        cases e : I1 z with
        | none => rfl
        | some o => rw [g.top z o e] at hz; cases hz
      have g1 := (g.tail).allocF lv (p := dx) (o := exd dx [("line", .int i)]) hd
      have s1 : Same H1 (upd H1 dx (exd dx [("line", .int i)])) := fun b o hb => by rw [upd_ne (no hd b o hb)]; exact hb
      have ha1 : upd H1 dx (exd dx [("line", .int i)]) a = none := by rw [upd_ne (Ne.symm hne)]; exact ha
      have g2 := g1.allocF (fun b m => by
        obtain ⟨o, ho⟩ := lv b m
        exact ⟨o, s1 b o ho⟩) (p := a) (o := exO a t) ha1
      have s2 : Same (upd H1 dx (exd dx [("line", .int i)])) (upd (upd H1 dx (exd dx [("line", .int i)])) a (exO a t)) := fun b o hb => by rw [upd_ne (fun z => by rw [z, ha1] at hb; cases hb)]; exact hb
      have t1 : Same I1 (upd I1 dx (exd dx [("line", .int i)])) := fun b o hb => by rw [upd_ne (fun z => by rw [z, noI hd] at hb; cases hb)]; exact hb
      have ia1 : upd I1 dx (exd dx [("line", .int i)]) a = none := by rw [upd_ne (Ne.symm hne)]; exact noI ha
      have t2 : Same (upd I1 dx (exd dx [("line", .int i)])) (upd (upd I1 dx (exd dx [("line", .int i)])) a (exO a t)) := fun b o hb => by rw [upd_ne (fun z => by rw [z, ia1] at hb; cases hb)]; exact hb
      refine k (.ref a) _ _ [] F1 g2 (fun z => ((s z).trans s1).trans s2) (n.stay (t1.trans t2) fun b o _ hb => s2 b o (s1 b o hb)) ?_
      simp only [Rp]
      refine ⟨trivial, a, t, vs, rfl, upd_same, hv, hc, dx, hdt, ?_⟩
      rw [upd_ne hne, upd_same]
    · cases el
  · cases el
end

/-! ### facts -/
def oexcB (K : PySem.W.Frag) (C : Addr) : Bool := match K.lookup C with
  | some ⟨.type "type", _, .cls cd, sl⟩ => (match cd.mro, sl.toList with
    | .ref C' :: bm, [_, _, _, _, some (.builtin n), _] => C' == C && n == "ValueError.__new__" && !cd.hasDel && cd.hasDict && PySem.HandSPX.refsVE bm
    | _, _ => false)
  | _ => false
def oexB (K : PySem.W.Frag) (C : Addr) : Bool := oexcB K C && decide (PySem.W.findIn K (.ref C) "__setattr__" = some (some (.builtin "object.__setattr__"))) && decide (PySem.W.subIn K (.ref C) (.type "BaseException") = some true) &&
  decide (PySem.W.typeIn K (.ref C) = some (.type "type")) && PySem.W.keepIn K (.ref C)
theorem oexB_ok {K : PySem.W.Frag} {C : Addr} (h : oexB K C = true) : OexC K C := by
  unfold oexB at h
  simp only [Bool.and_eq_true, decide_eq_true_eq] at h
  obtain ⟨⟨⟨⟨h0, h1⟩, h2⟩, h3⟩, h4⟩ := h
  refine ⟨?_, h1, h2, h3, h4⟩
  unfold oexcB at h0
  split at h0
  · rename_i dd cd sl ho
    split at h0
    · rename_i C' bm k0 k1 k2 k3 n k5 hm hs
      simp only [Bool.and_eq_true, beq_iff_eq, Bool.not_eq_true'] at h0
      obtain ⟨⟨⟨⟨rfl, rfl⟩, hdel⟩, hdc⟩, hv⟩ := h0
      obtain ⟨nm, bs, mro, ns, qn, hd, sn, sub, ab, col, del⟩ := cd
      dsimp only at hm hdel hdc
      subst hm hdel hdc
      have hsl : sl = #[k0, k1, k2, k3, some (.builtin "ValueError.__new__"), k5] := by
        apply Array.toList_inj.mp
        rw [hs]
      subst hsl
      exact ⟨nm, qn, ns, bs, bm, sn, sub, ab, col, dd, k0, k1, k2, k3, k5, ho, hv⟩
    · cases h0
  · cases h0
def exccB (K : PySem.W.Frag) (C : Addr) : Bool := decide (PySem.W.findIn K (.ref C) "__getattribute__" = some (some (.builtin "BaseException.__getattribute__"))) && decide (PySem.W.findIn K (.ref C) "__getattr__" = some none) &&
  decide (PySem.W.subIn K (.ref C) (.type "BaseException") = some true) && PySem.W.hasDictIn K C && decide (PySem.W.findIn K (.ref C) "__class__" = some (some (.builtin "object.__class__"))) &&
  decide (PySem.W.specialIn K (.builtin "object.__class__") "__get__" = some (some (.builtin "getset_descriptor.__get__"))) && decide (PySem.W.takesIn K (.builtin "object.__class__") = some true) && decide (PySem.W.mroIn K C (.type "object") = some true)
theorem exccB_ok {K : PySem.W.Frag} {C : Addr} (h : exccB K C = true) : ExcC K C := by
  unfold exccB at h
  simp only [Bool.and_eq_true, decide_eq_true_eq] at h
  obtain ⟨⟨⟨⟨⟨⟨⟨h1, h2⟩, h3⟩, h4⟩, h5⟩, h6⟩, h7⟩, h8⟩ := h
  exact ⟨h1, h2, h3, h4, h5, h6, h7, h8⟩

/-! ### by the written part alone -/
structure XcK (K : PySem.W.Frag) (mg : Str → Option Value) (cls : Nat → Addr) (x : Str) (c : Nat) : Prop where
  mg : mg x = some (.ref (cls c))
  kp : PySem.W.keepIn K (.ref (cls c)) = true
  ex : PySem.W.excIn K (cls c) bmVE "ValueError.__new__" = true
theorem xcOf {X : Cx} {cls : Nat → Addr} {x : Str} {c : Nat} (h : XcK X.K X.mg cls x c) (gl : X.env.kindOf x = some .globalImplicit) : Xc X cls x c := ⟨gl, h.mg, h.kp, h.ex⟩
structure IsK (K : PySem.W.Frag) (cls : Nat → Addr) (n : Nat) (cv : Value) (sub : Nat → Bool) : Prop where
  ok : ∀ c, c < n → ExcC K (cls c) ∧ PySem.W.kitOne K (.ref (cls c)) cv = some (sub c)
theorem isOf {X : Cx} {cls : Nat → Addr} {n : Nat} {cv : Value} {sub : Nat → Bool} (h : IsK X.K cls n cv sub) : IsC X cls n cv sub := ⟨h.ok⟩
def isKB (K : PySem.W.Frag) (cls : Nat → Addr) (n : Nat) (cv : Value) (sub : Nat → Bool) : Bool := (List.range n).all fun c => exccB K (cls c) && decide (PySem.W.kitOne K (.ref (cls c)) cv = some (sub c))
theorem isKB_ok {K : PySem.W.Frag} {cls : Nat → Addr} {n : Nat} {cv : Value} {sub : Nat → Bool} (h : isKB K cls n cv sub = true) : IsK K cls n cv sub := ⟨fun c lt => by
  have z := List.all_eq_true.mp h c (List.mem_range.mpr lt)
  rw [Bool.and_eq_true, decide_eq_true_eq] at z
  exact ⟨exccB_ok z.1, z.2⟩⟩
structure MkLnK (P : Program) (w : World) (K : PySem.W.Frag) (mg : Str → Option Value) (base : Heap) (cls : Nat → Addr) (k : Nat) (x : Str) (c : Nat) : Prop where
  gm : mg x = some (.ref (cls c))
  ox : OexC K (cls c)
  ok : ∃ (f : Addr) (fd : FuncData), PySem.W.findIn K (.ref (cls c)) "__init__" = some (some (.ref f)) ∧ PySem.W.typeIn K (.ref f) = some (.type "function") ∧
    FnG P w K mg base CX0 k f fd ["self", "line"] (spLn (cls c)) ∧ Binds K fd ["self", "line"] []
theorem mkLnOf {X : Cx} {cls : Nat → Addr} {x : Str} {c k j : Nat} (h : MkLnK X.prog X.w X.K X.mg X.base cls k x c) (B : Bd X j) (gl : X.env.kindOf x = some .globalImplicit) (hk : k + 1 ≤ j) : MkLn X cls x c := by
  obtain ⟨f, fd, h1, h2, h3, h4⟩ := h.ok
  exact ⟨gl, h.gm, h.ox, k, f, fd, h1, h2, h3, B.room.mono hk, h4⟩
end Ev

namespace T
open PySem PySem.Spec PyProof.Rows L2 Ev
def top (i : Nat) : Stmt := PySem.Challenge.pw_seencursors_k40_errors.main.body.getD i (.Pass ⟨0, 0, 0, 0⟩)
section
variable {P : Program} {w : World} {K : PySem.W.Frag} {mg : Str → Option Value} {base : Heap} {cls : Nat → Addr} {fd : FuncData}
def excN : List Str := ["CursorError", "ParseError", "InvalidWidth", "InvalidHash", "InvalidNumber", "InvalidShape", "InvalidMove", "InvalidRule", "InvalidCall", "UnknownShape", "UnknownCursor", "InvalidRoad", "UnknownChange", "Mismatch", "InvalidRun", "NothingToUndo", "Moving", "InvalidPlace", "UnknownLabel", "Over", "Endless", "InvalidName", "DuplicateName", "UnknownName", "InvalidLine", "InvalidTrace", "InvalidPairs", "InvalidMarks", "InvalidStory"]
def excNm (i : Nat) : Str := excN.getD i ""
def subT (j c : Nat) : Bool := j == c || j == 0
abbrev s__law_pen : Stmt := (top 31)
def d__law_pen : DefX := ⟨fun K => He.fAd K ("_law_pen", none), "_law_pen", "_law_pen", defArgs s__law_pen, defBody s__law_pen, defScope s__law_pen⟩
def m__law_pen : Mst := (sSeq (sRet (eLst (eCons (eOp1 lstD (eFrz (eSl (eVar 0) oNo (oSm (eLit (.int 60)))))) (eCons (eLit (.int 0)) (eCons (eLit (.int 0)) eNil)))))
  sNil)
def F__law_pen : FSem := fSem 1 0 m__law_pen
theorem sc__law_pen : FnScope ["script"] ["script"] d__law_pen.scope := ⟨rfl, rfl, rfl, by decide +kernel, rfl, by decide +kernel, by decide +kernel⟩
theorem ev__law_pen (hs : SmB base) (bi : Blt mg) (F : FunX K d__law_pen fd) : FnG P w K mg base CX0 1 (d__law_pen.ad K) fd ["script"] (spF ⟨P, w, K, cls⟩ 1 0 F__law_pen) :=
  fn_x F sc__law_pen (by decide) fun cdv A outer s H E B =>
  (dss_cons (ds_ret (de_lst (des_cons (b_ty1 call_list_of v_list (bi _ (by decide)) PyProof.Rows.Boot.«list» (da_of (de_slice (da_var (nmk rfl rfl rfl)) do_no (do_sm de_int)))) (des_cons de_int (des_cons de_int des_nil)))))
  dss_nil)
abbrev s__law_next : Stmt := (top 32)
def d__law_next : DefX := ⟨fun K => He.fAd K ("_law_next", none), "_law_next", "_law_next", defArgs s__law_next, defBody s__law_next, defScope s__law_next⟩
def m__law_next : Mst := (sSeq (sAsg (eOp2 idxD (eBor 0) (eFrz (eLit (.int 1)))) (gNm 1))
  (sSeq (sSetIx (eOp2 addD (eVar 1) (eFrz (eLit (.int 1)))) 0 pNm (eFrz (eLit (.int 1))) setLD)
  (sSeq (sAsg (eOp2 addD (eFrz (eOp2 mulD (eVar 1) (eFrz (eLit (.int 1051))))) (eFrz (eLit (.int 53)))) (gNm 2))
  (sSeq (sIf (eOp2 (eqP true) (eFrz (eOp2 idxD (eBor 0) (eFrz (eLit (.int 0))))) (eFrz (eLst eNil))) (sSeq (sAsg (eOp2 idxD (eFrz (eOp2 idxD (eBor 0) (eFrz (eLit (.int 0))))) (eFrz (eOp2 modD (eFrz (eOp1 intD (eVar 1))) (eFrz (eOp1 lenD (eFrz (eOp2 idxD (eBor 0) (eFrz (eLit (.int 0)))))))))) (gNm 2))
  sNil) sNil)
  (sSeq (sIf (eAnd (eOp2 ltI (eVar 1) (eFrz (eOp1 lenD (eFrz (eOp2 idxD (eBor 0) (eFrz (eLit (.int 0)))))))) (eOp2 geI (eVar 2) (eFrz (eOp2 powD (eFrz (eLit (.int 10))) (eFrz (eLit (.int 18))))))) (sSeq (sRet (eMov 2))
  sNil) sNil)
  (sSeq (sAsg (eOp2 modD (eFrz (eOp1 intD (eFrz (eOp2 addD (eFrz (eOp2 addD (eFrz (eOp2 modD (eFrz (eOp1 intD (eVar 2))) (eFrz (eLit (.int 2147483587))))) (eFrz (eOp2 mulD (eVar 1) (eFrz (eLit (.int 30103))))))) (eFrz (eLit (.int 79))))))) (eFrz (eLit (.int 2147483587)))) (gNm 3))
  (sSeq (sAsg (eOp2 modD (eFrz (eOp1 intD (eFrz (eOp2 addD (eFrz (eOp2 addD (eFrz (eOp2 mulD (eVar 3) (eVar 3))) (eFrz (eOp2 mulD (eVar 1) (eFrz (eLit (.int 70039))))))) (eFrz (eLit (.int 61))))))) (eFrz (eLit (.int 2147483563)))) (gNm 4))
  (sSeq (sAsg (eOp2 modD (eFrz (eOp1 intD (eFrz (eOp2 addD (eFrz (eOp2 addD (eFrz (eOp2 mulD (eVar 4) (eVar 4))) (eVar 3))) (eFrz (eOp2 mulD (eFrz (eOp2 mulD (eVar 1) (eVar 1))) (eFrz (eLit (.int 37))))))))) (eFrz (eLit (.int 2147483549)))) (gNm 5))
  (sSeq (sRet (eOp2 addD (eFrz (eOp2 mulD (eFrz (eOp2 addD (eFrz (eOp2 mulD (eVar 5) (eFrz (eLit (.int 2147483587))))) (eVar 4))) (eFrz (eLit (.int 2147483563))))) (eVar 3)))
  sNil)))))))))
def F__law_next : FSem := fSem 6 1 m__law_next
theorem sc__law_next : FnScope ["pen", "index", "cell_here", "some", "more", "high"] ["pen"] d__law_next.scope := ⟨rfl, rfl, rfl, by decide +kernel, rfl, by decide +kernel, by decide +kernel⟩
theorem ev__law_next (hs : SmB base) (bi : Blt mg) (F : FunX K d__law_next fd) : FnG P w K mg base CX0 1 (d__law_next.ad K) fd ["pen"] (spF ⟨P, w, K, cls⟩ 1 1 F__law_next) :=
  fn_x F sc__law_next (by decide) fun cdv A outer s H E B =>
  (dss_cons (ds_set (nwk B.nd rfl rfl rfl) (by decide) (e_ix (da_bor (nmk rfl rfl rfl)) (da_of de_int)))
  (dss_cons (ds_setIx set_list s_lst (e_add (da_var (nmk rfl rfl rfl)) (da_of de_int)) (dp_nm (nmk rfl rfl rfl)) (da_of de_int))
  (dss_cons (ds_set (nwk B.nd rfl rfl rfl) (by decide) (e_add (da_of (e_mul (da_var (nmk rfl rfl rfl)) (da_of de_int))) (da_of de_int)))
  (dss_cons (ds_if (cmpT (c_ne hs B) (da_of (e_ix (da_bor (nmk rfl rfl rfl)) (da_of de_int))) (da_of (de_lst des_nil))) (dss_cons (ds_set (nwk B.nd rfl rfl rfl) (by decide) (e_ix (da_of (e_ix (da_bor (nmk rfl rfl rfl)) (da_of de_int))) (da_of (e_mod (da_of (b_ty1 call_int1 v_int (bi _ (by decide)) PyProof.Rows.Boot.«int» (da_var (nmk rfl rfl rfl)))) (da_of (b_bl1 x_len v_len (bi _ (by decide)) PyProof.Rows.Boot.«len» (da_of (e_ix (da_bor (nmk rfl rfl rfl)) (da_of de_int)))))))))
  dss_nil) dss_nil)
  (dss_cons (ds_if (DW.dt (dw_and (cmpT c_lt (da_var (nmk rfl rfl rfl)) (da_of (b_bl1 x_len v_len (bi _ (by decide)) PyProof.Rows.Boot.«len» (da_of (e_ix (da_bor (nmk rfl rfl rfl)) (da_of de_int)))))) (dw_and1 (cmpT c_ge (da_var (nmk rfl rfl rfl)) (da_of (e_pow (da_of de_int) (da_of de_int))))))) (dss_cons (ds_ret (de_mov (nmk rfl rfl rfl)))
  dss_nil) dss_nil)
  (dss_cons (ds_set (nwk B.nd rfl rfl rfl) (by decide) (e_mod (da_of (b_ty1 call_int1 v_int (bi _ (by decide)) PyProof.Rows.Boot.«int» (da_of (e_add (da_of (e_add (da_of (e_mod (da_of (b_ty1 call_int1 v_int (bi _ (by decide)) PyProof.Rows.Boot.«int» (da_var (nmk rfl rfl rfl)))) (da_of de_int))) (da_of (e_mul (da_var (nmk rfl rfl rfl)) (da_of de_int))))) (da_of de_int))))) (da_of de_int)))
  (dss_cons (ds_set (nwk B.nd rfl rfl rfl) (by decide) (e_mod (da_of (b_ty1 call_int1 v_int (bi _ (by decide)) PyProof.Rows.Boot.«int» (da_of (e_add (da_of (e_add (da_of (e_mul (da_var (nmk rfl rfl rfl)) (da_var (nmk rfl rfl rfl)))) (da_of (e_mul (da_var (nmk rfl rfl rfl)) (da_of de_int))))) (da_of de_int))))) (da_of de_int)))
  (dss_cons (ds_set (nwk B.nd rfl rfl rfl) (by decide) (e_mod (da_of (b_ty1 call_int1 v_int (bi _ (by decide)) PyProof.Rows.Boot.«int» (da_of (e_add (da_of (e_add (da_of (e_mul (da_var (nmk rfl rfl rfl)) (da_var (nmk rfl rfl rfl)))) (da_var (nmk rfl rfl rfl)))) (da_of (e_mul (da_of (e_mul (da_var (nmk rfl rfl rfl)) (da_var (nmk rfl rfl rfl)))) (da_of de_int))))))) (da_of de_int)))
  (dss_cons (ds_ret (e_add (da_of (e_mul (da_of (e_add (da_of (e_mul (da_var (nmk rfl rfl rfl)) (da_of de_int))) (da_var (nmk rfl rfl rfl)))) (da_of de_int))) (da_var (nmk rfl rfl rfl))))
  dss_nil)))))))))
abbrev s__law_draw : Stmt := (top 33)
def d__law_draw : DefX := ⟨fun K => He.fAd K ("_law_draw", none), "_law_draw", "_law_draw", defArgs s__law_draw, defBody s__law_draw, defScope s__law_draw⟩
def m__law_draw : Mst := (sSeq (sIf (eOp2 ltI (eFrz (eOp2 idxD (eBor 0) (eFrz (eLit (.int 2))))) (eVar 1)) (sSeq (sSetIx (eCallL F__law_next 0 eNil) 0 pNm (eFrz (eLit (.int 2))) setLD)
  sNil) sNil)
  (sSeq (sAsg (eOp2 modD (eFrz (eOp1 intD (eFrz (eOp2 idxD (eBor 0) (eFrz (eLit (.int 2))))))) (eVar 1)) (gNm 2))
  (sSeq (sSetIx (eOp2 fdivD (eFrz (eOp2 idxD (eBor 0) (eFrz (eLit (.int 2))))) (eVar 1)) 0 pNm (eFrz (eLit (.int 2))) setLD)
  (sSeq (sRet (eMov 2))
  sNil))))
def F__law_draw : FSem := fSem 3 1 m__law_draw
theorem sc__law_draw : FnScope ["pen", "under", "digit"] ["pen", "under"] d__law_draw.scope := ⟨rfl, rfl, rfl, by decide +kernel, rfl, by decide +kernel, by decide +kernel⟩
theorem ev__law_draw (hs : SmB base) (bi : Blt mg) (c__law_next : ClK P w K mg base cls 1 "_law_next" 1 1 F__law_next) (F : FunX K d__law_draw fd) : FnG P w K mg base CX0 2 (d__law_draw.ad K) fd ["pen", "under"] (spF ⟨P, w, K, cls⟩ 2 1 F__law_draw) :=
  fn_x F sc__law_draw (by decide) fun cdv A outer s H E B =>
  (dss_cons (ds_if (cmpT c_lt (da_of (e_ix (da_bor (nmk rfl rfl rfl)) (da_of de_int))) (da_var (nmk rfl rfl rfl))) (dss_cons (ds_setIx set_list s_lst (de_callL B.gd (clOf c__law_next B rfl (by decide)) (nmk rfl rfl rfl) des_nil (fun _ _ _ h => congrArg Nat.succ (len_p0 h))) (dp_nm (nmk rfl rfl rfl)) (da_of de_int))
  dss_nil) dss_nil)
  (dss_cons (ds_set (nwk B.nd rfl rfl rfl) (by decide) (e_mod (da_of (b_ty1 call_int1 v_int (bi _ (by decide)) PyProof.Rows.Boot.«int» (da_of (e_ix (da_bor (nmk rfl rfl rfl)) (da_of de_int))))) (da_var (nmk rfl rfl rfl))))
  (dss_cons (ds_setIx set_list s_lst (e_fdiv (da_of (e_ix (da_bor (nmk rfl rfl rfl)) (da_of de_int))) (da_var (nmk rfl rfl rfl))) (dp_nm (nmk rfl rfl rfl)) (da_of de_int))
  (dss_cons (ds_ret (de_mov (nmk rfl rfl rfl)))
  dss_nil))))
abbrev s__law_made : Stmt := (top 34)
def d__law_made : DefX := ⟨fun K => He.fAd K ("_law_made", none), "_law_made", "_law_made", defArgs s__law_made, defBody s__law_made, defScope s__law_made⟩
def m__law_made : Mst := (sSeq (sAsg (eLst (eCons (eExc 22 (fun _ => some none) (eVar 0)) (eCons (eExc 20 (fun _ => some none) (eVar 0)) (eCons (eExc 8 (fun _ => some none) (eVar 0)) (eCons (eExc 3 (fun _ => some none) (eVar 0)) (eCons (eExc 24 (fun _ => some none) (eVar 0)) eNil)))))) (gNm 1))
  (sSeq (sAsg (eOp2 addD (eBor 1) (eFrz (eLst (eCons (eExc 27 (fun _ => some none) (eVar 0)) (eCons (eExc 6 (fun _ => some none) (eVar 0)) (eCons (eExc 21 (fun _ => some none) (eVar 0)) (eCons (eExc 4 (fun _ => some none) (eVar 0)) eNil))))))) (gNm 1))
  (sSeq (sExpr (eMutN 1 (eCons (eExc 26 (fun _ => some none) (eVar 0)) eNil) appD))
  (sSeq (sAsg (eOp2 addD (eBor 1) (eFrz (eLst (eCons (eExc 17 (fun _ => some none) (eVar 0)) (eCons (eExc 11 (fun _ => some none) (eVar 0)) (eCons (eExc 7 (fun _ => some none) (eVar 0)) (eCons (eExc 14 (fun _ => some none) (eVar 0)) (eCons (eExc 5 (fun _ => some none) (eVar 0)) eNil)))))))) (gNm 1))
  (sSeq (sAsg (eOp2 addD (eBor 1) (eFrz (eLst (eCons (eExc 28 (fun _ => some none) (eVar 0)) (eCons (eExc 25 (fun _ => some none) (eVar 0)) (eCons (eExc 2 (fun _ => some none) (eVar 0)) (eCons (eExc 13 (fun _ => some none) (eVar 0)) (eCons (eExc 16 (fun _ => some none) (eVar 0)) eNil)))))))) (gNm 1))
  (sSeq (sAsg (eOp2 addD (eBor 1) (eFrz (eLst (eCons (eExc 15 (fun _ => some none) (eVar 0)) (eCons (eExc 19 (fun _ => some none) (eVar 0)) (eCons (eExc 12 (fun _ => some none) (eVar 0)) (eCons (eExc 10 (fun _ => some none) (eVar 0)) (eCons (eExc 18 (fun _ => some none) (eVar 0)) eNil)))))))) (gNm 1))
  (sSeq (sRet (eOp2 addD (eBor 1) (eFrz (eLst (eCons (eExc 23 (fun _ => some none) (eVar 0)) (eCons (eExc 9 (fun _ => some none) (eVar 0)) eNil))))))
  sNil)))))))
def F__law_made : FSem := fSem 2 0 m__law_made
theorem sc__law_made : FnScope ["word", "found"] ["word"] d__law_made.scope := ⟨rfl, rfl, rfl, by decide +kernel, rfl, by decide +kernel, by decide +kernel⟩
theorem ev__law_made (hs : SmB base) (bi : Blt mg) (hx : ∀ j < 29, j ≠ 1 → XcK K mg cls (excNm j) j) (F : FunX K d__law_made fd) : FnG P w K mg base CX0 1 (d__law_made.ad K) fd ["word"] (spF ⟨P, w, K, cls⟩ 1 0 F__law_made) :=
  fn_x F sc__law_made (by decide) fun cdv A outer s H E B =>
  (dss_cons (ds_set (nwk B.nd rfl rfl rfl) (by decide) (de_lst (des_cons (de_exc (xcOf (x := "DuplicateName") (hx 22 (by decide) (by decide)) rfl) (de_var (nmk rfl rfl rfl))) (des_cons (de_exc (xcOf (x := "Endless") (hx 20 (by decide) (by decide)) rfl) (de_var (nmk rfl rfl rfl))) (des_cons (de_exc (xcOf (x := "InvalidCall") (hx 8 (by decide) (by decide)) rfl) (de_var (nmk rfl rfl rfl))) (des_cons (de_exc (xcOf (x := "InvalidHash") (hx 3 (by decide) (by decide)) rfl) (de_var (nmk rfl rfl rfl))) (des_cons (de_exc (xcOf (x := "InvalidLine") (hx 24 (by decide) (by decide)) rfl) (de_var (nmk rfl rfl rfl))) des_nil)))))))
  (dss_cons (ds_set (nwk B.nd rfl rfl rfl) (by decide) (e_add (da_bor (nmk rfl rfl rfl)) (da_of (de_lst (des_cons (de_exc (xcOf (x := "InvalidMarks") (hx 27 (by decide) (by decide)) rfl) (de_var (nmk rfl rfl rfl))) (des_cons (de_exc (xcOf (x := "InvalidMove") (hx 6 (by decide) (by decide)) rfl) (de_var (nmk rfl rfl rfl))) (des_cons (de_exc (xcOf (x := "InvalidName") (hx 21 (by decide) (by decide)) rfl) (de_var (nmk rfl rfl rfl))) (des_cons (de_exc (xcOf (x := "InvalidNumber") (hx 4 (by decide) (by decide)) rfl) (de_var (nmk rfl rfl rfl))) des_nil))))))))
  (dss_cons (ds_expr (de_mutN PySem.F.slot_list_append PySem.F.type_list_append mt_append m_app (nmk rfl rfl rfl) (des_cons (de_exc (xcOf (x := "InvalidPairs") (hx 26 (by decide) (by decide)) rfl) (de_var (nmk rfl rfl rfl))) des_nil)))
  (dss_cons (ds_set (nwk B.nd rfl rfl rfl) (by decide) (e_add (da_bor (nmk rfl rfl rfl)) (da_of (de_lst (des_cons (de_exc (xcOf (x := "InvalidPlace") (hx 17 (by decide) (by decide)) rfl) (de_var (nmk rfl rfl rfl))) (des_cons (de_exc (xcOf (x := "InvalidRoad") (hx 11 (by decide) (by decide)) rfl) (de_var (nmk rfl rfl rfl))) (des_cons (de_exc (xcOf (x := "InvalidRule") (hx 7 (by decide) (by decide)) rfl) (de_var (nmk rfl rfl rfl))) (des_cons (de_exc (xcOf (x := "InvalidRun") (hx 14 (by decide) (by decide)) rfl) (de_var (nmk rfl rfl rfl))) (des_cons (de_exc (xcOf (x := "InvalidShape") (hx 5 (by decide) (by decide)) rfl) (de_var (nmk rfl rfl rfl))) des_nil)))))))))
  (dss_cons (ds_set (nwk B.nd rfl rfl rfl) (by decide) (e_add (da_bor (nmk rfl rfl rfl)) (da_of (de_lst (des_cons (de_exc (xcOf (x := "InvalidStory") (hx 28 (by decide) (by decide)) rfl) (de_var (nmk rfl rfl rfl))) (des_cons (de_exc (xcOf (x := "InvalidTrace") (hx 25 (by decide) (by decide)) rfl) (de_var (nmk rfl rfl rfl))) (des_cons (de_exc (xcOf (x := "InvalidWidth") (hx 2 (by decide) (by decide)) rfl) (de_var (nmk rfl rfl rfl))) (des_cons (de_exc (xcOf (x := "Mismatch") (hx 13 (by decide) (by decide)) rfl) (de_var (nmk rfl rfl rfl))) (des_cons (de_exc (xcOf (x := "Moving") (hx 16 (by decide) (by decide)) rfl) (de_var (nmk rfl rfl rfl))) des_nil)))))))))
  (dss_cons (ds_set (nwk B.nd rfl rfl rfl) (by decide) (e_add (da_bor (nmk rfl rfl rfl)) (da_of (de_lst (des_cons (de_exc (xcOf (x := "NothingToUndo") (hx 15 (by decide) (by decide)) rfl) (de_var (nmk rfl rfl rfl))) (des_cons (de_exc (xcOf (x := "Over") (hx 19 (by decide) (by decide)) rfl) (de_var (nmk rfl rfl rfl))) (des_cons (de_exc (xcOf (x := "UnknownChange") (hx 12 (by decide) (by decide)) rfl) (de_var (nmk rfl rfl rfl))) (des_cons (de_exc (xcOf (x := "UnknownCursor") (hx 10 (by decide) (by decide)) rfl) (de_var (nmk rfl rfl rfl))) (des_cons (de_exc (xcOf (x := "UnknownLabel") (hx 18 (by decide) (by decide)) rfl) (de_var (nmk rfl rfl rfl))) des_nil)))))))))
  (dss_cons (ds_ret (e_add (da_bor (nmk rfl rfl rfl)) (da_of (de_lst (des_cons (de_exc (xcOf (x := "UnknownName") (hx 23 (by decide) (by decide)) rfl) (de_var (nmk rfl rfl rfl))) (des_cons (de_exc (xcOf (x := "UnknownShape") (hx 9 (by decide) (by decide)) rfl) (de_var (nmk rfl rfl rfl))) des_nil))))))
  dss_nil)))))))
abbrev s__law_kinds : Stmt := (top 35)
def d__law_kinds : DefX := ⟨fun K => He.fAd K ("_law_kinds", none), "_law_kinds", "_law_kinds", defArgs s__law_kinds, defBody s__law_kinds, defScope s__law_kinds⟩
def m__law_kinds : Mst := (sSeq (sAsg (eLst (eCons (eOp1 (isxD 29 (subT 22)) (eVar 0)) (eCons (eOp1 (isxD 29 (subT 20)) (eVar 0)) (eCons (eOp1 (isxD 29 (subT 8)) (eVar 0)) eNil)))) (gNm 1))
  (sSeq (sAsg (eOp2 addD (eVar 1) (eFrz (eLst (eCons (eOp1 (isxD 29 (subT 3)) (eVar 0)) (eCons (eOp1 (isxD 29 (subT 24)) (eVar 0)) eNil))))) (gNm 1))
  (sSeq (sAsg (eOp2 addD (eVar 1) (eFrz (eLst (eCons (eOp1 (isxD 29 (subT 27)) (eVar 0)) (eCons (eOp1 (isxD 29 (subT 6)) (eVar 0)) eNil))))) (gNm 1))
  (sSeq (sAsg (eOp2 addD (eVar 1) (eFrz (eLst (eCons (eOp1 (isxD 29 (subT 21)) (eVar 0)) (eCons (eOp1 (isxD 29 (subT 4)) (eVar 0)) eNil))))) (gNm 1))
  (sSeq (sAsg (eOp2 addD (eVar 1) (eFrz (eLst (eCons (eOp1 (isxD 29 (subT 26)) (eVar 0)) (eCons (eOp1 (isxD 29 (subT 17)) (eVar 0)) eNil))))) (gNm 1))
  (sSeq (sAsg (eOp2 addD (eVar 1) (eFrz (eLst (eCons (eOp1 (isxD 29 (subT 11)) (eVar 0)) (eCons (eOp1 (isxD 29 (subT 7)) (eVar 0)) eNil))))) (gNm 1))
  (sSeq (sAsg (eOp2 addD (eVar 1) (eFrz (eLst (eCons (eOp1 (isxD 29 (subT 14)) (eVar 0)) (eCons (eOp1 (isxD 29 (subT 5)) (eVar 0)) eNil))))) (gNm 1))
  (sSeq (sAsg (eOp2 addD (eVar 1) (eFrz (eLst (eCons (eOp1 (isxD 29 (subT 28)) (eVar 0)) (eCons (eOp1 (isxD 29 (subT 25)) (eVar 0)) eNil))))) (gNm 1))
  (sSeq (sAsg (eOp2 addD (eVar 1) (eFrz (eLst (eCons (eOp1 (isxD 29 (subT 2)) (eVar 0)) (eCons (eOp1 (isxD 29 (subT 13)) (eVar 0)) (eCons (eOp1 (isxD 29 (subT 16)) (eVar 0)) eNil)))))) (gNm 1))
  (sSeq (sAsg (eOp2 addD (eVar 1) (eFrz (eLst (eCons (eOp1 (isxD 29 (subT 15)) (eVar 0)) (eCons (eOp1 (isxD 29 (subT 19)) (eVar 0)) eNil))))) (gNm 1))
  (sSeq (sAsg (eOp2 addD (eVar 1) (eFrz (eLst (eCons (eOp1 (isxD 29 (subT 12)) (eVar 0)) (eCons (eOp1 (isxD 29 (subT 10)) (eVar 0)) eNil))))) (gNm 1))
  (sSeq (sAsg (eOp2 addD (eVar 1) (eFrz (eLst (eCons (eOp1 (isxD 29 (subT 18)) (eVar 0)) (eCons (eOp1 (isxD 29 (subT 23)) (eVar 0)) eNil))))) (gNm 1))
  (sSeq (sRet (eOp2 addD (eVar 1) (eFrz (eLst (eCons (eOp1 (isxD 29 (subT 9)) (eVar 0)) (eCons (eOp1 (isxD 29 (subT 1)) (eVar 0)) eNil))))))
  sNil)))))))))))))
def F__law_kinds : FSem := fSem 2 0 m__law_kinds
theorem sc__law_kinds : FnScope ["caught", "found"] ["caught"] d__law_kinds.scope := ⟨rfl, rfl, rfl, by decide +kernel, rfl, by decide +kernel, by decide +kernel⟩
theorem ev__law_kinds (hs : SmB base) (bi : Blt mg) (hk : ∀ j < 29, IsK K cls 29 (.ref (cls j)) (subT j) ∧ mg (excNm j) = some (.ref (cls j))) (F : FunX K d__law_kinds fd) : FnG P w K mg base CX0 1 (d__law_kinds.ad K) fd ["caught"] (spF ⟨P, w, K, cls⟩ 1 0 F__law_kinds) :=
  fn_x F sc__law_kinds (by decide) fun cdv A outer s H E B =>
  (dss_cons (ds_set (nwk B.nd rfl rfl rfl) (by decide) (de_lst (des_cons (de_isO (isOf (hk 22 (by decide)).1) rfl (hk 22 (by decide)).2 rfl (bi _ (by decide)) (da_var (nmk rfl rfl rfl))) (des_cons (de_isO (isOf (hk 20 (by decide)).1) rfl (hk 20 (by decide)).2 rfl (bi _ (by decide)) (da_var (nmk rfl rfl rfl))) (des_cons (de_isO (isOf (hk 8 (by decide)).1) rfl (hk 8 (by decide)).2 rfl (bi _ (by decide)) (da_var (nmk rfl rfl rfl))) des_nil)))))
  (dss_cons (ds_set (nwk B.nd rfl rfl rfl) (by decide) (e_add (da_var (nmk rfl rfl rfl)) (da_of (de_lst (des_cons (de_isO (isOf (hk 3 (by decide)).1) rfl (hk 3 (by decide)).2 rfl (bi _ (by decide)) (da_var (nmk rfl rfl rfl))) (des_cons (de_isO (isOf (hk 24 (by decide)).1) rfl (hk 24 (by decide)).2 rfl (bi _ (by decide)) (da_var (nmk rfl rfl rfl))) des_nil))))))
  (dss_cons (ds_set (nwk B.nd rfl rfl rfl) (by decide) (e_add (da_var (nmk rfl rfl rfl)) (da_of (de_lst (des_cons (de_isO (isOf (hk 27 (by decide)).1) rfl (hk 27 (by decide)).2 rfl (bi _ (by decide)) (da_var (nmk rfl rfl rfl))) (des_cons (de_isO (isOf (hk 6 (by decide)).1) rfl (hk 6 (by decide)).2 rfl (bi _ (by decide)) (da_var (nmk rfl rfl rfl))) des_nil))))))
  (dss_cons (ds_set (nwk B.nd rfl rfl rfl) (by decide) (e_add (da_var (nmk rfl rfl rfl)) (da_of (de_lst (des_cons (de_isO (isOf (hk 21 (by decide)).1) rfl (hk 21 (by decide)).2 rfl (bi _ (by decide)) (da_var (nmk rfl rfl rfl))) (des_cons (de_isO (isOf (hk 4 (by decide)).1) rfl (hk 4 (by decide)).2 rfl (bi _ (by decide)) (da_var (nmk rfl rfl rfl))) des_nil))))))
  (dss_cons (ds_set (nwk B.nd rfl rfl rfl) (by decide) (e_add (da_var (nmk rfl rfl rfl)) (da_of (de_lst (des_cons (de_isO (isOf (hk 26 (by decide)).1) rfl (hk 26 (by decide)).2 rfl (bi _ (by decide)) (da_var (nmk rfl rfl rfl))) (des_cons (de_isO (isOf (hk 17 (by decide)).1) rfl (hk 17 (by decide)).2 rfl (bi _ (by decide)) (da_var (nmk rfl rfl rfl))) des_nil))))))
  (dss_cons (ds_set (nwk B.nd rfl rfl rfl) (by decide) (e_add (da_var (nmk rfl rfl rfl)) (da_of (de_lst (des_cons (de_isO (isOf (hk 11 (by decide)).1) rfl (hk 11 (by decide)).2 rfl (bi _ (by decide)) (da_var (nmk rfl rfl rfl))) (des_cons (de_isO (isOf (hk 7 (by decide)).1) rfl (hk 7 (by decide)).2 rfl (bi _ (by decide)) (da_var (nmk rfl rfl rfl))) des_nil))))))
  (dss_cons (ds_set (nwk B.nd rfl rfl rfl) (by decide) (e_add (da_var (nmk rfl rfl rfl)) (da_of (de_lst (des_cons (de_isO (isOf (hk 14 (by decide)).1) rfl (hk 14 (by decide)).2 rfl (bi _ (by decide)) (da_var (nmk rfl rfl rfl))) (des_cons (de_isO (isOf (hk 5 (by decide)).1) rfl (hk 5 (by decide)).2 rfl (bi _ (by decide)) (da_var (nmk rfl rfl rfl))) des_nil))))))
  (dss_cons (ds_set (nwk B.nd rfl rfl rfl) (by decide) (e_add (da_var (nmk rfl rfl rfl)) (da_of (de_lst (des_cons (de_isO (isOf (hk 28 (by decide)).1) rfl (hk 28 (by decide)).2 rfl (bi _ (by decide)) (da_var (nmk rfl rfl rfl))) (des_cons (de_isO (isOf (hk 25 (by decide)).1) rfl (hk 25 (by decide)).2 rfl (bi _ (by decide)) (da_var (nmk rfl rfl rfl))) des_nil))))))
  (dss_cons (ds_set (nwk B.nd rfl rfl rfl) (by decide) (e_add (da_var (nmk rfl rfl rfl)) (da_of (de_lst (des_cons (de_isO (isOf (hk 2 (by decide)).1) rfl (hk 2 (by decide)).2 rfl (bi _ (by decide)) (da_var (nmk rfl rfl rfl))) (des_cons (de_isO (isOf (hk 13 (by decide)).1) rfl (hk 13 (by decide)).2 rfl (bi _ (by decide)) (da_var (nmk rfl rfl rfl))) (des_cons (de_isO (isOf (hk 16 (by decide)).1) rfl (hk 16 (by decide)).2 rfl (bi _ (by decide)) (da_var (nmk rfl rfl rfl))) des_nil)))))))
  (dss_cons (ds_set (nwk B.nd rfl rfl rfl) (by decide) (e_add (da_var (nmk rfl rfl rfl)) (da_of (de_lst (des_cons (de_isO (isOf (hk 15 (by decide)).1) rfl (hk 15 (by decide)).2 rfl (bi _ (by decide)) (da_var (nmk rfl rfl rfl))) (des_cons (de_isO (isOf (hk 19 (by decide)).1) rfl (hk 19 (by decide)).2 rfl (bi _ (by decide)) (da_var (nmk rfl rfl rfl))) des_nil))))))
  (dss_cons (ds_set (nwk B.nd rfl rfl rfl) (by decide) (e_add (da_var (nmk rfl rfl rfl)) (da_of (de_lst (des_cons (de_isO (isOf (hk 12 (by decide)).1) rfl (hk 12 (by decide)).2 rfl (bi _ (by decide)) (da_var (nmk rfl rfl rfl))) (des_cons (de_isO (isOf (hk 10 (by decide)).1) rfl (hk 10 (by decide)).2 rfl (bi _ (by decide)) (da_var (nmk rfl rfl rfl))) des_nil))))))
  (dss_cons (ds_set (nwk B.nd rfl rfl rfl) (by decide) (e_add (da_var (nmk rfl rfl rfl)) (da_of (de_lst (des_cons (de_isO (isOf (hk 18 (by decide)).1) rfl (hk 18 (by decide)).2 rfl (bi _ (by decide)) (da_var (nmk rfl rfl rfl))) (des_cons (de_isO (isOf (hk 23 (by decide)).1) rfl (hk 23 (by decide)).2 rfl (bi _ (by decide)) (da_var (nmk rfl rfl rfl))) des_nil))))))
  (dss_cons (ds_ret (e_add (da_var (nmk rfl rfl rfl)) (da_of (de_lst (des_cons (de_isO (isOf (hk 9 (by decide)).1) rfl (hk 9 (by decide)).2 rfl (bi _ (by decide)) (da_var (nmk rfl rfl rfl))) (des_cons (de_isO (isOf (hk 1 (by decide)).1) rfl (hk 1 (by decide)).2 rfl (bi _ (by decide)) (da_var (nmk rfl rfl rfl))) des_nil))))))
  dss_nil)))))))))))))
abbrev s_law : Stmt := (top 36)
def d_law : DefX := ⟨fun K => He.fAd K ("law", none), "law", "law", defArgs s_law, defBody s_law, defScope s_law⟩
def m_law : Mst := (sSeq (sAsg (eCall F__law_pen (eCons (eVar 0) eNil)) (gNm 1))
  (sSeq (sAsg (eCall F__law_made (eCons (eFrz (eOp2 idxD (eFrz (eLst (eCons (eLit (.str "")) (eCons (eLit (.str "a")) (eCons (eLit (.str "no such key")) (eCons (eLit (.str "[2]")) eNil)))))) (eFrz (eCallL F__law_draw 1 (eCons (eLit (.int 4)) eNil))))) eNil)) (gNm 2))
  (sSeq (sFor (eRng1 (eCons (eFrz (eLit (.int 27))) eNil)) (gNm 3) (sSeq (sIf (eOp2 (eqP true) (eFrz (eCall F__law_kinds (eCons (eFrz (eOp2 idxD (eVar 2) (eVar 3))) eNil))) (eFrz (eLc 8 [7] (eRng1 (eCons (eFrz (eLit (.int 28))) eNil)) (gNm 7) cYes (eOp2 (eqP false) (eVar 7) (eVar 3))))) (sSeq (sRet (eLit (.bl false)))
  sNil) sNil)
  sNil))
  (sSeq (sAsg (eCallL F__law_draw 1 (eCons (eLit (.int 100000)) eNil)) (gNm 4))
  (sSeq (sAsg (eExc 1 lnD (eVar 4)) (gNm 5))
  (sSeq (sIf (eOr (eOp2 (eqP true) (eFrz (eCall F__law_kinds (eCons (eVar 5) eNil))) (eFrz (eLc 8 [7] (eRng1 (eCons (eFrz (eLit (.int 28))) eNil)) (gNm 7) cYes (eOp2 (eqP false) (eVar 7) (eFrz (eLit (.int 27))))))) (eOp2 (eqP true) (eOp1 (lineD 1) (eVar 5)) (eVar 4))) (sSeq (sRet (eLit (.bl false)))
  sNil) sNil)
  (sSeq (sFor (eItems (eFrz (eOp2 addD (eVar 2) (eFrz (eLst (eCons (eVar 5) (eCons (eExc 0 (fun _ => some none) (eLit (.str "a"))) eNil))))))) (gNm 6) (sSeq (sIf (eOr (eNot (eOp1 (isxD 29 (subT 0)) (eVar 6))) (eNot (eOp1 (isxD 29 (fun _ => true)) (eVar 6)))) (sSeq (sRet (eLit (.bl false)))
  sNil) sNil)
  sNil))
  (sSeq (sRet (eOp2 (inP true) (eFrz (eLit (.bl true))) (eFrz (eCall F__law_kinds (eCons (eFrz (eExc 0 (fun _ => some none) (eLit (.str "a")))) eNil)))))
  sNil))))))))
def F_law : FSem := fSem 8 0 m_law
theorem sc_law : FnScope ["script", "pen", "made", "k", "line", "last", "one", "j"] ["script"] d_law.scope := ⟨rfl, rfl, rfl, by decide +kernel, rfl, by decide +kernel, by decide +kernel⟩
theorem ev_law (hs : SmB base) (bi : Blt mg) (c__law_kinds : ClK P w K mg base cls 1 "_law_kinds" 1 0 F__law_kinds) (c__law_draw : ClK P w K mg base cls 2 "_law_draw" 2 1 F__law_draw) (c__law_made : ClK P w K mg base cls 1 "_law_made" 1 0 F__law_made) (c__law_pen : ClK P w K mg base cls 1 "_law_pen" 1 0 F__law_pen) (hx : ∀ j < 29, j ≠ 1 → XcK K mg cls (excNm j) j) (hk : ∀ j < 29, IsK K cls 29 (.ref (cls j)) (subT j) ∧ mg (excNm j) = some (.ref (cls j))) (hve : IsK K cls 29 (.type "ValueError") (fun _ => true) ∧ mg "ValueError" = none) (hxf : XfC K (cls 1) ∧ PySem.W.findIn K (.ref (cls 1)) "line" = some none) (hpe : MkLnK P w K mg base cls 1 "ParseError" 1) (F : FunX K d_law fd) : FnG P w K mg base CX0 3 (d_law.ad K) fd ["script"] (spF ⟨P, w, K, cls⟩ 1 0 F_law) :=
  fn_x F sc_law (by decide) fun cdv A outer s H E B =>
  (dss_cons (ds_set (nwk B.nd rfl rfl rfl) (by decide) (de_callP B.gd (clOf c__law_pen B rfl (by decide)) (das_cons (da_var (nmk rfl rfl rfl)) das_nil) (fun _ _ _ h => len_p1 h)))
  (dss_cons (ds_set (nwk B.nd rfl rfl rfl) (by decide) (de_callP B.gd (clOf c__law_made B rfl (by decide)) (das_cons (da_of (e_ix (da_of (de_lst (des_cons de_str (des_cons de_str (des_cons de_str (des_cons de_str des_nil)))))) (da_of (de_callL B.gd (clOf c__law_draw B rfl (by decide)) (nmk rfl rfl rfl) (des_cons de_int des_nil) (fun _ _ _ h => congrArg Nat.succ (len_p1 h)))))) das_nil) (fun _ _ _ h => len_p1 h)))
  (dss_cons (ds_for B.own B.calm (di_rng1 rfl (bi _ (by decide)) (das_cons (da_of de_int) das_nil)) (dg_name (nwk B.nd rfl rfl rfl) (by decide)) (dss_cons (ds_if (cmpT (c_ne hs B) (da_of (de_callP B.gd (clOf c__law_kinds B rfl (by decide)) (das_cons (da_of (e_ix (da_var (nmk rfl rfl rfl)) (da_var (nmk rfl rfl rfl)))) das_nil) (fun _ _ _ h => len_p1 h))) (da_of (de_lc (own := [("j", 7)]) (N := 8) B.calm B.nd (di_rng1 rfl (bi _ (by decide)) (das_cons (da_of de_int) das_nil)) (blkOk_by rfl) rfl (kl_nm 7) (fun _ _ _ _ _ => (dg_name (nwk B.blk.nd rfl rfl rfl) (by decide))) (fun _ _ _ _ _ => dts_nil) (fun _ _ _ _ _ => (cmpV (c_eq hs B.blk) (da_var (nmk rfl rfl rfl)) (da_var (nmk rfl rfl rfl))))))) (dss_cons (ds_ret de_bl)
  dss_nil) dss_nil)
  dss_nil))
  (dss_cons (ds_set (nwk B.nd rfl rfl rfl) (by decide) (de_callL B.gd (clOf c__law_draw B rfl (by decide)) (nmk rfl rfl rfl) (des_cons de_int des_nil) (fun _ _ _ h => congrArg Nat.succ (len_p1 h))))
  (dss_cons (ds_set (nwk B.nd rfl rfl rfl) (by decide) (de_mkLn B.gd (mkLnOf hpe B rfl (by decide)) (de_var (nmk rfl rfl rfl))))
  (dss_cons (ds_if (DW.dt (dw_or (cmpT (c_ne hs B) (da_of (de_callP B.gd (clOf c__law_kinds B rfl (by decide)) (das_cons (da_var (nmk rfl rfl rfl)) das_nil) (fun _ _ _ h => len_p1 h))) (da_of (de_lc (own := [("j", 7)]) (N := 8) B.calm B.nd (di_rng1 rfl (bi _ (by decide)) (das_cons (da_of de_int) das_nil)) (blkOk_by rfl) rfl (kl_nm 7) (fun _ _ _ _ _ => (dg_name (nwk B.blk.nd rfl rfl rfl) (by decide))) (fun _ _ _ _ _ => dts_nil) (fun _ _ _ _ _ => (cmpV (c_eq hs B.blk) (da_var (nmk rfl rfl rfl)) (da_of de_int)))))) (dw_or1 (cmpT (c_ne hs B) (da_line hxf.1 hxf.2 (da_var (nmk rfl rfl rfl))) (da_var (nmk rfl rfl rfl)))))) (dss_cons (ds_ret de_bl)
  dss_nil) dss_nil)
  (dss_cons (ds_for B.own B.calm (di_val (da_of (e_add (da_var (nmk rfl rfl rfl)) (da_of (de_lst (des_cons (de_var (nmk rfl rfl rfl)) (des_cons (de_exc (xcOf (x := "CursorError") (hx 0 (by decide) (by decide)) rfl) de_str) des_nil))))))) (dg_name (nwk B.nd rfl rfl rfl) (by decide)) (dss_cons (ds_if (DW.dt (dw_or (dt_not (dt_val (de_isO (isOf (hk 0 (by decide)).1) rfl (hk 0 (by decide)).2 rfl (bi _ (by decide)) (da_var (nmk rfl rfl rfl))))) (dw_or1 (dt_not (dt_val (de_isB (isOf hve.1) rfl hve.2 PyProof.Rows.Boot.«ValueError» rfl (bi _ (by decide)) (da_var (nmk rfl rfl rfl)))))))) (dss_cons (ds_ret de_bl)
  dss_nil) dss_nil)
  dss_nil))
  (dss_cons (ds_ret (cmpV (c_ni hs B) (da_of de_bl) (da_of (de_callP B.gd (clOf c__law_kinds B rfl (by decide)) (das_cons (da_of (de_exc (xcOf (x := "CursorError") (hx 0 (by decide) (by decide)) rfl) de_str)) das_nil) (fun _ _ _ h => len_p1 h)))))
  dss_nil))))))))
end
end T

namespace T
open PySem PySem.Spec PyProof.Rows L2 Ev
abbrev s_init : Stmt := inClass (top 2) 0
def d_init : DefX := ⟨fun K => He.fAd K ("ParseError", some "__init__"), "__init__", "ParseError.__init__", defArgs s_init, defBody s_init, defScope s_init⟩
def clsK (K : PySem.W.Frag) (c : Nat) : Addr := He.ga K (excNm c)
def fnNs : List Str := ["_law_pen", "_law_next", "_law_draw", "_law_made", "_law_kinds", "law"]
def fs : List Fct := [
  fun K => fnNs.all fun x => (He.Fa.glo x).ok K && PySem.W.keepIn K (.ref (He.ga K x)),
  fun K => (List.range 29).all fun j => (He.Fa.glo (excNm j)).ok K,
  fun K => (List.range 29).all fun j => j == 1 || (PySem.W.keepIn K (.ref (clsK K j)) && PySem.W.excIn K (clsK K j) bmVE "ValueError.__new__"),
  fun K => (("ValueError" : Str) :: bltNames).all fun x => (He.Fa.free x).ok K,
  fun K => (List.range 29).all fun c => exccB K (clsK K c),
  fun K => (List.range 29).all fun j => (List.range 29).all fun c => decide (PySem.W.kitOne K (.ref (clsK K c)) (.ref (clsK K j)) = some (subT j c)),
  fun K => (List.range 29).all fun c => decide (PySem.W.kitOne K (.ref (clsK K c)) (.type "ValueError") = some true),
  fun K => oexB K (clsK K 1) && decide (PySem.W.findIn K (.ref (clsK K 1)) "line" = some none) && xfB K (clsK K 1),
  fun K => decide (PySem.W.specialIn K (.ref (clsK K 0)) "__getattribute__" = some (some (.builtin "type.__getattribute__"))) && decide (PySem.W.typeIn K (.ref (clsK K 0)) = some (.type "type")) && PySem.W.readsIn K (clsK K 0) (.type "type") &&
    (match PySem.W.findCls K (.ref (clsK K 0)) (.type "type") "__init__" with
      | some (.val v) => decide (v = .builtin "ValueError.__init__")
      | _ => false),
  fun K => decide (PySem.W.findIn K (.ref (clsK K 1)) "__init__" = some (some (.ref (d_init.ad K)))) && decide (PySem.W.typeIn K (.ref (d_init.ad K)) = some (.type "function")),
  fun K => match K.lookup sysModules with
    | some o => decide (o.cls = .type "dict")
    | none => false]
def fn : List DefX := [d_init, d__law_pen, d__law_next, d__law_draw, d__law_made, d__law_kinds, d_law]
theorem sc_init : FnScope ["self", "line"] ["self", "line"] d_init.scope := ⟨rfl, rfl, rfl, by decide +kernel, rfl, by decide +kernel, by decide +kernel⟩
section
variable {P : Program} {w : World} {K : PySem.W.Frag} {mg : Str → Option Value} {base h : Heap} {fd : FuncData}
theorem glo_of (X : K.In h) (G : h.Ns mainGlobals mg) (c : Says fs fn K) {x : Str} (hx : x ∈ fnNs) : mg x = some (.ref (He.ga K x)) ∧ PySem.W.keepIn K (.ref (He.ga K x)) = true := by
  have z := List.all_eq_true.mp (c.fact 0) x hx
  rw [Bool.and_eq_true] at z
  exact ⟨He.glo_ok X G z.1, z.2⟩
theorem exc_of (X : K.In h) (G : h.Ns mainGlobals mg) (c : Says fs fn K) {j : Nat} (hj : j < 29) : mg (excNm j) = some (.ref (clsK K j)) :=
  He.glo_ok X G (List.all_eq_true.mp (c.fact 1) j (List.mem_range.mpr hj))
theorem hx_of (X : K.In h) (G : h.Ns mainGlobals mg) (c : Says fs fn K) : ∀ j < 29, j ≠ 1 → XcK K mg (clsK K) (excNm j) j := fun j hj hne => by
  have z := List.all_eq_true.mp (c.fact 2) j (List.mem_range.mpr hj)
  rw [Bool.or_eq_true, beq_iff_eq, Bool.and_eq_true] at z
  rcases z with z | z
  · exact absurd z hne
  · exact ⟨exc_of X G c hj, z.1, z.2⟩
theorem free_of (X : K.In h) (G : h.Ns mainGlobals mg) (c : Says fs fn K) {x : Str} (hx : x ∈ (("ValueError" : Str) :: bltNames)) : mg x = none :=
  He.free_ok X G (List.all_eq_true.mp (c.fact 3) x hx)
theorem hk_of (X : K.In h) (G : h.Ns mainGlobals mg) (c : Says fs fn K) : ∀ j < 29, IsK K (clsK K) 29 (.ref (clsK K j)) (subT j) ∧ mg (excNm j) = some (.ref (clsK K j)) := fun j hj => by
  refine ⟨⟨fun i hi => ⟨exccB_ok (List.all_eq_true.mp (c.fact 4) i (List.mem_range.mpr hi)), ?_⟩⟩, exc_of X G c hj⟩
  exact of_decide_eq_true (List.all_eq_true.mp (List.all_eq_true.mp (c.fact 5) j (List.mem_range.mpr hj)) i (List.mem_range.mpr hi))
theorem hve_of (X : K.In h) (G : h.Ns mainGlobals mg) (c : Says fs fn K) : IsK K (clsK K) 29 (.type "ValueError") (fun _ => true) ∧ mg "ValueError" = none :=
  ⟨⟨fun i hi => ⟨exccB_ok (List.all_eq_true.mp (c.fact 4) i (List.mem_range.mpr hi)), of_decide_eq_true (List.all_eq_true.mp (c.fact 6) i (List.mem_range.mpr hi))⟩⟩, free_of X G c List.mem_cons_self⟩
theorem pe_of (c : Says fs fn K) : OexC K (clsK K 1) ∧ PySem.W.findIn K (.ref (clsK K 1)) "line" = some none ∧ XfC K (clsK K 1) := by
  have z : (oexB K (clsK K 1) && decide (PySem.W.findIn K (.ref (clsK K 1)) "line" = some none) && xfB K (clsK K 1)) = true := c.fact 7
  rw [Bool.and_eq_true, Bool.and_eq_true] at z
  exact ⟨oexB_ok z.1.1, of_decide_eq_true z.1.2, xfB_ok z.2⟩
theorem ev_init (X : K.In h) (G : h.Ns mainGlobals mg) (c : Says fs fn K) (F : FunX K d_init fd) : FnG P w K mg base CX0 1 (d_init.ad K) fd ["self", "line"] (spLn (clsK K 1)) := by
  obtain ⟨T, hno, _⟩ := pe_of c
  have z : (decide (PySem.W.specialIn K (.ref (clsK K 0)) "__getattribute__" = some (some (.builtin "type.__getattribute__"))) && decide (PySem.W.typeIn K (.ref (clsK K 0)) = some (.type "type")) && PySem.W.readsIn K (clsK K 0) (.type "type") &&
    (match PySem.W.findCls K (.ref (clsK K 0)) (.type "type") "__init__" with
      | some (.val v) => decide (v = .builtin "ValueError.__init__")
      | _ => false)) = true := c.fact 8
  rw [Bool.and_eq_true, Bool.and_eq_true, Bool.and_eq_true, decide_eq_true_eq, decide_eq_true_eq] at z
  obtain ⟨⟨⟨z1, z2⟩, z3⟩, z4⟩ := z
  have z5 : PySem.W.findCls K (.ref (clsK K 0)) (.type "type") "__init__" = some (.val (.builtin "ValueError.__init__")) := by
    cases q : PySem.W.findCls K (.ref (clsK K 0)) (.type "type") "__init__" with
    | none => rw [q] at z4; cases z4
    | some f =>
      rw [q] at z4
      cases f with
      | val v =>
        have e : v = .builtin "ValueError.__init__" := of_decide_eq_true z4
        rw [e]
      | get _ _ _ _ => cases z4
  refine fn_line (t1 := "line ") (t2 := " is wrong") F sc_init T hno (by decide) (by decide) fun cdv A outer s H E => ?_
  have m0 : mg "CursorError" = some (.ref (clsK K 0)) := exc_of X G c (j := 0) (by decide)
  exact pss_cons (ps_expr (pe_bini (B := clsK K 0) ⟨rfl, m0, z1, z2, z3, z5⟩ (pa_cons (Nm.pe (nmk rfl rfl rfl)) (pa_cons (pe_joined (.cons pe_str (.cons (pe_fmt (Nm.pe (nmk rfl rfl rfl))) (.cons pe_str .nil)))) pa_nil)))) (pss_cons (ps_ost (Nm.pe (nmk rfl rfl rfl)) (Nm.pe (nmk rfl rfl rfl))) pss_nil)
theorem bindsA {d : DefX} {ps : List Str} (F : FunX K d fd)
    (h : ∀ (kV doc pm : Value) (an : Option Addr) (cdv ct : Value) (us : List Value), us.length = ps.length → bindArgs (PySem.W.fnOf d.name d.qual d.params d.body d.scope .none kV doc pm an cdv ct) ⟨us, []⟩ = pure (ps.zip us)) (s : Shared) (us : List Value) (hl : us.length = ps.length) : BindsTo s fd ⟨us, []⟩ (ps.zip us) := by
  obtain ⟨oc, od, kV, doc, pm, an, cdv, ct, osl, rfl, _⟩ := F.ex
  exact .of_eq (h kV doc pm an cdv ct us hl)
theorem facts (X : K.In h) (G : h.Ns mainGlobals mg) (c : Says fs fn K) : ∃ fd : FuncData, (∀ (s : Shared) (u : Value), BindsTo s fd ⟨[u], []⟩ [("script", u)]) ∧
    ∀ B : Heap, K.In B → B.Ns mainGlobals mg → FnG P w K mg B CX0 3 (He.ga K "law") fd ["script"] (spF ⟨P, w, K, clsK K⟩ 1 0 F_law) := by
  obtain ⟨f0, F0⟩ := c.df 0 (d := d_init) rfl
  obtain ⟨f1, F1⟩ := c.df 1 (d := d__law_pen) rfl
  obtain ⟨f2, F2⟩ := c.df 2 (d := d__law_next) rfl
  obtain ⟨f3, F3⟩ := c.df 3 (d := d__law_draw) rfl
  obtain ⟨f4, F4⟩ := c.df 4 (d := d__law_made) rfl
  obtain ⟨f5, F5⟩ := c.df 5 (d := d__law_kinds) rfl
  obtain ⟨f6, F6⟩ := c.df 6 (d := d_law) rfl
  have bi : Blt mg := fun x hx => free_of X G c (List.mem_cons_of_mem _ hx)
  have one : ∀ {d : DefX} {fd : FuncData} {x : Str}, FunX K d fd → (∀ (kV doc pm : Value) (an : Option Addr) (cdv ct : Value) (us : List Value), us.length = 1 → bindArgs (PySem.W.fnOf d.name d.qual d.params d.body d.scope .none kV doc pm an cdv ct) ⟨us, []⟩ = pure ([x].zip us)) → Binds K fd [x] [] := fun F h => F.binds h
  refine ⟨f6, fun s u => bindsA (ps := ["script"]) F6 (fun _ _ _ _ _ _ us hl => match us, hl with | [_], _ => rfl) s [u] rfl, fun B KB GB => ?_⟩
  have hs : SmB B := by
    have z : (match K.lookup sysModules with
      | some o => decide (o.cls = .type "dict")
      | none => false) = true := c.fact 10
    cases q : K.lookup sysModules with
    | none => rw [q] at z; cases z
    | some o =>
      rw [q] at z
      exact ⟨o, KB _ _ q, of_decide_eq_true z⟩
  have z9 : (decide (PySem.W.findIn K (.ref (clsK K 1)) "__init__" = some (some (.ref (d_init.ad K)))) && decide (PySem.W.typeIn K (.ref (d_init.ad K)) = some (.type "function"))) = true := c.fact 9
  rw [Bool.and_eq_true, decide_eq_true_eq, decide_eq_true_eq] at z9
  obtain ⟨T, hno, xf⟩ := pe_of c
  have hpe : MkLnK P w K mg B (clsK K) 1 "ParseError" 1 := ⟨exc_of X G c (j := 1) (by decide), T, _, f0, z9.1, z9.2, ev_init X G c F0, F0.binds (fun _ _ _ _ _ _ us hl => match us, hl with | [_, _], _ => rfl)⟩
  have g1 := glo_of X G c (x := "_law_pen") (by decide)
  have g2 := glo_of X G c (x := "_law_next") (by decide)
  have g3 := glo_of X G c (x := "_law_draw") (by decide)
  have g4 := glo_of X G c (x := "_law_made") (by decide)
  have g5 := glo_of X G c (x := "_law_kinds") (by decide)
  have c1 : ClK P w K mg B (clsK K) 1 "_law_pen" 1 0 F__law_pen := clkOf (ev__law_pen hs bi F1) g1.1 g1.2 (F1.binds (fun _ _ _ _ _ _ us hl => match us, hl with | [_], _ => rfl))
  have c2 : ClK P w K mg B (clsK K) 1 "_law_next" 1 1 F__law_next := clkOf (ev__law_next hs bi F2) g2.1 g2.2 (F2.binds (fun _ _ _ _ _ _ us hl => match us, hl with | [_], _ => rfl))
  have c3 : ClK P w K mg B (clsK K) 2 "_law_draw" 2 1 F__law_draw := clkOf (ev__law_draw hs bi c2 F3) g3.1 g3.2 (F3.binds (fun _ _ _ _ _ _ us hl => match us, hl with | [_, _], _ => rfl))
  have c4 : ClK P w K mg B (clsK K) 1 "_law_made" 1 0 F__law_made := clkOf (ev__law_made hs bi (hx_of X G c) F4) g4.1 g4.2 (F4.binds (fun _ _ _ _ _ _ us hl => match us, hl with | [_], _ => rfl))
  have c5 : ClK P w K mg B (clsK K) 1 "_law_kinds" 1 0 F__law_kinds := clkOf (ev__law_kinds hs bi (hk_of X G c) F5) g5.1 g5.2 (F5.binds (fun _ _ _ _ _ _ us hl => match us, hl with | [_], _ => rfl))
  have r := ev_law (P := P) (w := w) (cls := clsK K) (base := B) (K := K) (mg := mg) (fd := f6) (hs := hs) (bi := bi) (c__law_pen := c1) (c__law_draw := c3) (c__law_made := c4) (c__law_kinds := c5) (hx := hx_of X G c) (hk := hk_of X G c) (hve := hve_of X G c) (hxf := ⟨xf, hno⟩) (hpe := hpe) (F := F6)
  exact r
end
end T

namespace T
open PySem PySem.Spec PyProof.Rows L2 Ev
theorem frzL_ints (ns : List Int) : frzL (ns.map D.int) = ns.map D.int := by
  induction ns with
  | nil => rfl
  | cons a l ih => simp only [List.map_cons, frzL, frz, ih]
theorem pdL_ints (ns : List Int) : pdL (ns.map D.int) = some (ns.map PyData.int) := by
  induction ns with
  | nil => rfl
  | cons a l ih => simp only [List.map_cons, pdL, pd, ih]
theorem at3_0 {a b c : D} : atI [a, b, c] 0 = some a := rfl
theorem at3_1 {a b c : D} : atI [a, b, c] 1 = some b := rfl
theorem at3_2 {a b c : D} : atI [a, b, c] 2 = some c := rfl
theorem ix3_1 : ixN 3 1 = some 1 := rfl
theorem ix3_2 : ixN 3 2 = some 2 := rfl
theorem at_mod (ns : List Int) (i : Int) (h : ns ≠ []) : ∃ n, atI (ns.map D.int) (i % (ns.length : Int)) = some (.int n) := by
  have hp : 0 < (ns.length : Int) := by
    have := List.length_pos_iff.mpr h
    omega
  have h1 := Int.emod_nonneg i (Int.ne_of_gt hp)
  have h2 := Int.emod_lt_of_pos i hp
  unfold atI ixN
  rw [List.length_map, if_pos h1, if_pos h2, Option.bind_some, List.getElem?_map]
  have h3 : (i % (ns.length : Int)).toNat < ns.length := by omega
  rw [List.getElem?_eq_getElem h3]
  exact ⟨_, rfl⟩
theorem ints_lay : ∀ ns : List Int, PyData.canLayAll0 (ns.map PyData.int) = true
  | [] => rfl
  | a :: l => by simp [PyData.canLayAll0, PyData.canLay0, ints_lay l]
theorem ints_dep : ∀ ns : List Int, PyData.depthAll (ns.map PyData.int) ≤ 1
  | [] => by simp [PyData.depthAll]
  | a :: l => by
    have := ints_dep l
    simp [PyData.depthAll, PyData.depth]
    omega
theorem ints_ok (ns : List Int) : SeqAt.shaped (.list (ns.map PyData.int)) = true := by
  have := ints_dep ns
  simp [SeqAt.shaped, PyData.canLay0, ints_lay, PyData.depth]
  omega
theorem ne_nil2 (ns : List Int) : eqP true (.lst false (ns.map D.int)) (.lst false []) = some (.bl !ns.isEmpty) := by
  unfold eqP
  simp only [pd, pdL_ints, Option.map_some, pdL]
  have h2 : SeqAt.shaped (PyData.list []) = true := by decide +kernel
  rw [if_pos ⟨ints_ok ns, h2⟩]
  cases ns <;> rfl
theorem ne_nil0 : eqP true (.lst false []) (.lst false []) = some (.bl false) := ne_nil2 []
theorem pow18 : powD (.int 10) (.int 18) = some (.int 1000000000000000000) := by rfl
theorem nonneg3 (a b c : Int) : 0 ≤ (a % 2147483549 * 2147483587 + b % 2147483563) * 2147483563 + c % 2147483587 := by omega
theorem next_ok (ns : List Int) (o : Bool) (i v : Int) (hi : 0 ≤ i) (hi2 : i < 2^40) : ∃ r, 0 ≤ r ∧ F__law_next [.lst true [.lst o (ns.map .int), .int i, .int v]] = some (.int r, [.lst true [.lst false (ns.map .int), .int (i+1), .int v]]) := by
  by_cases hn : ns = []
  · subst hn
    have h0 : ¬ i < 0 := by omega
    have h2 : ∀ x : Int, -18446744073709551616 < x % 2147483587 ∧ x % 2147483587 < 18446744073709551616 := fun x => by omega
    have h3 : ∀ x : Int, -18446744073709551616 < x % 2147483563 ∧ x % 2147483563 < 18446744073709551616 := fun x => by omega
    have h4 : -18446744073709551616 < i ∧ i < 18446744073709551616 := by omega
    simp [F__law_next, fSem, m__law_next, sSeq, sAsg, eOp2, eOp1, eBor, eFrz, eLit, gNm, idxD, frz, shz, frzL, frzL_ints, eVar, eMov, sSetIx, pNm, setLD, addD, mulD, modD, Ev.intD, Ev.lenD, sIf, eAnd, eLst, eNil, sRet, sNil, at3_0, at3_1, at3_2, ix3_1, ne_nil0, cmpD, h0, h2, h3, h4]
    exact nonneg3 _ _ _
  · obtain ⟨n, hn2⟩ := at_mod ns i hn
    have he : ns.isEmpty = false := by
      cases ns with
      | nil => exact absurd rfl hn
      | cons a l => rfl
    have h2 : ∀ x : Int, -18446744073709551616 < x % 2147483587 ∧ x % 2147483587 < 18446744073709551616 := fun x => by omega
    have h3 : ∀ x : Int, -18446744073709551616 < x % 2147483563 ∧ x % 2147483563 < 18446744073709551616 := fun x => by omega
    have h4 : -18446744073709551616 < i ∧ i < 18446744073709551616 := by omega
    have hl : 0 < ns.length := List.length_pos_iff.mpr hn
    by_cases hc : i < (ns.length : Int) ∧ 1000000000000000000 ≤ n
    · simp [F__law_next, fSem, m__law_next, sSeq, sAsg, eOp2, eOp1, eBor, eFrz, eLit, gNm, idxD, frz, shz, frzL, frzL_ints, eVar, eMov, sSetIx, pNm, setLD, addD, mulD, modD, Ev.intD, Ev.lenD, sIf, eAnd, eLst, eNil, sRet, sNil, at3_0, at3_1, at3_2, ix3_1, ne_nil2, hn2, he, cmpD, hl, hc.1, hc.2, pow18]
      omega
    · by_cases hc1 : i < (ns.length : Int)
      · have hc2 : ¬ 1000000000000000000 ≤ n := fun z => hc ⟨hc1, z⟩
        simp [F__law_next, fSem, m__law_next, sSeq, sAsg, eOp2, eOp1, eBor, eFrz, eLit, gNm, idxD, frz, shz, frzL, frzL_ints, eVar, eMov, sSetIx, pNm, setLD, addD, mulD, modD, Ev.intD, Ev.lenD, sIf, eAnd, eLst, eNil, sRet, sNil, at3_0, at3_1, at3_2, ix3_1, ne_nil2, hn2, he, cmpD, hl, hc1, hc2, pow18, h2, h3, h4]
        exact nonneg3 _ _ _
      · simp [F__law_next, fSem, m__law_next, sSeq, sAsg, eOp2, eOp1, eBor, eFrz, eLit, gNm, idxD, frz, shz, frzL, frzL_ints, eVar, eMov, sSetIx, pNm, setLD, addD, mulD, modD, Ev.intD, Ev.lenD, sIf, eAnd, eLst, eNil, sRet, sNil, at3_0, at3_1, at3_2, ix3_1, ne_nil2, hn2, he, cmpD, hl, hc1, pow18, h2, h3, h4]
        exact nonneg3 _ _ _
theorem pen_ok (ns : List Int) : F__law_pen [.scr ns] = some (.lst true [.lst true ((cutX ns none (some 60)).map .int), .int 0, .int 0], []) := by
  simp [F__law_pen, fSem, m__law_pen, sSeq, sRet, eLst, eCons, eOp1, lstD, eFrz, eSl, eVar, oNo, oSm, eLit, eNil, slD, frz, frzL_ints, sizeLine_eq]
theorem draw_ok (ns : List Int) (o : Bool) (i v u : Int) (hi : 0 ≤ i) (hi2 : i < 2^40) (hv : 0 ≤ v) (hu : 0 < u) (hu2 : u < 1073741824) : ∃ d o' i' v', 0 ≤ d ∧ d < u ∧ i ≤ i' ∧ i' ≤ i + 1 ∧ 0 ≤ v' ∧
    F__law_draw [.lst true [.lst o (ns.map .int), .int i, .int v], .int u] = some (.int d, [.lst true [.lst o' (ns.map .int), .int i', .int v']]) := by
  obtain ⟨r, hr, e⟩ := next_ok ns false i v hi hi2
  have z1 : ∀ x : Int, 0 ≤ x % u ∧ x % u < u := fun x => ⟨Int.emod_nonneg _ (by omega), Int.emod_lt_of_pos _ hu⟩
  have z2 : ∀ x : Int, 0 ≤ x → 0 ≤ x / u := fun x hx => Int.ediv_nonneg hx (by omega)
  by_cases hc : v < u
  · refine ⟨r % u, false, i + 1, r / u, (z1 r).1, (z1 r).2, by omega, by omega, z2 r hr, ?_⟩
    simp [F__law_draw, fSem, m__law_draw, sSeq, sAsg, eOp2, eOp1, eBor, eFrz, eLit, gNm, idxD, frz, shz, frzL, frzL_ints, eVar, eMov, sSetIx, pNm, setLD, modD, fdivD, Ev.intD, sIf, eNil, sRet, sNil, at3_0, at3_1, at3_2, ix3_1, ix3_2, cmpD, eCallL, hc, e, hu, hu2]
  · refine ⟨v % u, false, i, v / u, (z1 v).1, (z1 v).2, by omega, by omega, z2 v hv, ?_⟩
    simp [F__law_draw, fSem, m__law_draw, sSeq, sAsg, eOp2, eOp1, eBor, eFrz, eLit, gNm, idxD, frz, shz, frzL, frzL_ints, eVar, eMov, sSetIx, pNm, setLD, modD, fdivD, Ev.intD, sIf, eNil, sRet, sNil, at3_0, at3_1, at3_2, ix3_1, ix3_2, cmpD, eCallL, hc, hu, hu2]

theorem subT_eq (j c : Nat) : subT j c = (j == c || j == 0) := rfl
def madeL : List D := [22, 20, 8, 3, 24, 27, 6, 21, 4, 26, 17, 11, 7, 14, 5, 28, 25, 2, 13, 16, 15, 19, 12, 10, 18, 23, 9].map fun c => D.exc c none
theorem made_ok (x : Str) : F__law_made [.str x] = some (.lst true madeL, []) := by
  simp [F__law_made, fSem, m__law_made, sSeq, sAsg, sExpr, eOp2, eOp1, eFrz, eVar, eMov, eBor, eLst, eCons, eNil, gNm, sRet, sNil, addD, eExc, frz, shz, frzL, sizeLine_eq, madeL, eMutN, isL, appD]
def kindsL (c : Nat) : List D := [22, 20, 8, 3, 24, 27, 6, 21, 4, 26, 17, 11, 7, 14, 5, 28, 25, 2, 13, 16, 15, 19, 12, 10, 18, 23, 9, 1].map fun j => D.bl (subT j c)
theorem kinds_ok (c : Nat) (l : Option Int) (hc : c < 29) : F__law_kinds [.exc c l] = some (.lst true (kindsL c), []) := by
  have : c ∈ List.range 29 := List.mem_range.mpr hc
  simp [F__law_kinds, fSem, m__law_kinds, sSeq, sAsg, eOp2, eOp1, eFrz, eVar, eMov, eLst, eCons, eNil, gNm, sRet, sNil, addD, isxD, frz, frzL, hc, sizeLine_eq, kindsL]
end T

namespace T
open PySem PySem.Spec PyProof.Rows L2 Ev
def pA : Mst := sAsg (eCall F__law_pen (eCons (eVar 0) eNil)) (gNm 1)
def pB : Mst := sAsg (eCall F__law_made (eCons (eFrz (eOp2 idxD (eFrz (eLst (eCons (eLit (.str "")) (eCons (eLit (.str "a")) (eCons (eLit (.str "no such key")) (eCons (eLit (.str "[2]")) eNil)))))) (eFrz (eCallL F__law_draw 1 (eCons (eLit (.int 4)) eNil))))) eNil)) (gNm 2)
def pC : Mst := sFor (eRng1 (eCons (eFrz (eLit (.int 27))) eNil)) (gNm 3) (sSeq (sIf (eOp2 (eqP true) (eFrz (eCall F__law_kinds (eCons (eFrz (eOp2 idxD (eVar 2) (eVar 3))) eNil))) (eFrz (eLc 8 [7] (eRng1 (eCons (eFrz (eLit (.int 28))) eNil)) (gNm 7) cYes (eOp2 (eqP false) (eVar 7) (eVar 3))))) (sSeq (sRet (eLit (.bl false)))
  sNil) sNil)
  sNil)
def pD : Mst := sAsg (eCallL F__law_draw 1 (eCons (eLit (.int 100000)) eNil)) (gNm 4)
def pE : Mst := sAsg (eExc 1 lnD (eVar 4)) (gNm 5)
def pF1 : M := eOp2 (eqP true) (eFrz (eCall F__law_kinds (eCons (eVar 5) eNil))) (eFrz (eLc 8 [7] (eRng1 (eCons (eFrz (eLit (.int 28))) eNil)) (gNm 7) cYes (eOp2 (eqP false) (eVar 7) (eFrz (eLit (.int 27))))))
def pF2 : M := eOp2 (eqP true) (eOp1 (lineD 1) (eVar 5)) (eVar 4)
def pF : Mst := sIf (eOr pF1 pF2) (sSeq (sRet (eLit (.bl false))) sNil) sNil
def pG : Mst := sFor (eItems (eFrz (eOp2 addD (eVar 2) (eFrz (eLst (eCons (eVar 5) (eCons (eExc 0 (fun _ => some none) (eLit (.str "a"))) eNil))))))) (gNm 6) (sSeq (sIf (eOr (eNot (eOp1 (isxD 29 (subT 0)) (eVar 6))) (eNot (eOp1 (isxD 29 (fun _ => true)) (eVar 6)))) (sSeq (sRet (eLit (.bl false)))
  sNil) sNil)
  sNil)
def pH : Mst := sRet (eOp2 (inP true) (eFrz (eLit (.bl true))) (eFrz (eCall F__law_kinds (eCons (eFrz (eExc 0 (fun _ => some none) (eLit (.str "a")))) eNil))))
theorem m_law_eq : m_law = sSeq pA (sSeq pB (sSeq pC (sSeq pD (sSeq pE (sSeq pF (sSeq pG (sSeq pH sNil))))))) := rfl
theorem c_ok (a b : Option D) : pC [a, b, some (.lst true madeL), none, none, none, none, none] = some (.nx, [a, b, some (.lst false madeL), some (.int 26), none, none, none, none]) := by
  kernel_rfl
theorem f1_ok (a b : Option D) (d : Int) : pF1 [a, b, some (.lst false madeL), some (.int 26), some (.int d), some (.exc 1 (some d)), none, none] = some (.bl false, [a, b, some (.lst false madeL), some (.int 26), some (.int d), some (.exc 1 (some d)), none, none]) := by
  kernel_rfl
theorem f2_ok (a b : Option D) (d : Int) : pF2 [a, b, some (.lst false madeL), some (.int 26), some (.int d), some (.exc 1 (some d)), none, none] = some (.bl false, [a, b, some (.lst false madeL), some (.int 26), some (.int d), some (.exc 1 (some d)), none, none]) := by
  have e : eqP true (.int d) (.int d) = some (.bl false) := by
    simp [eqP, pd, SeqAt.shaped, PyData.canLay0, PyData.depth, PyData.eqv]
  simp [pF2, eOp2, eOp1, eVar, lineD, frz, e]
theorem f_ok (a b : Option D) (d : Int) : pF [a, b, some (.lst false madeL), some (.int 26), some (.int d), some (.exc 1 (some d)), none, none] = some (.nx, [a, b, some (.lst false madeL), some (.int 26), some (.int d), some (.exc 1 (some d)), none, none]) := by
  simp [pF, sIf, eOr, f1_ok, f2_ok, sNil]
theorem g_ok (a b : Option D) (d : Int) : pG [a, b, some (.lst false madeL), some (.int 26), some (.int d), some (.exc 1 (some d)), none, none] = some (.nx, [a, b, some (.lst false madeL), some (.int 26), some (.int d), some (.exc 1 (some d)), some (.exc 0 none), none]) := by
  kernel_rfl
theorem h_ok (a b c e f g i j : Option D) : pH [a, b, c, e, f, g, i, j] = some (.rt (.bl true), [a, b, c, e, f, g, i, j]) := by
  kernel_rfl
theorem e_ok (a b : Option D) (d : Int) (h0 : 0 ≤ d) (h1 : d < 100000) : pE [a, b, some (.lst false madeL), some (.int 26), some (.int d), none, none, none] = some (.nx, [a, b, some (.lst false madeL), some (.int 26), some (.int d), some (.exc 1 (some d)), none, none]) := by
  have hl : d.natAbs.log2 < 1920 := by
    by_cases z : d.natAbs = 0
    · rw [z]; decide
    · refine (Nat.log2_lt z).mpr (Nat.lt_of_lt_of_le (m := 2 ^ 17) (by omega) (Nat.pow_le_pow_right (by decide) (by decide)))
  simp [pE, sAsg, eExc, eVar, lnD, frz, hl, gNm]
theorem F_law_true (ns : List Int) : F_law [.scr ns] = some (.bl true, []) := by
  obtain ⟨d, o', i', v', h1, h2, h3, h4, h5, e1⟩ := draw_ok (cutX ns none (some 60)) true 0 0 4 (by omega) (by omega) (by omega) (by omega) (by omega)
  obtain ⟨d2, o2, i2, v2, k1, k2, k3, k4, k5, e2⟩ := draw_ok (cutX ns none (some 60)) o' i' v' 100000 (by omega) (by omega) (by omega) (by omega) (by omega)
  have a_ok : pA [some (.scr ns), none, none, none, none, none, none, none] = some (.nx, [some (.scr ns), some (.lst true [.lst true ((cutX ns none (some 60)).map .int), .int 0, .int 0]), none, none, none, none, none, none]) := by
    simp [pA, sAsg, eCall, eCons, eVar, eNil, frz, pen_ok, gNm]
  have hd : ∃ x, atI [D.str "", D.str "a", D.str "no such key", D.str "[2]"] d = some (.str x) := by
    have : d = 0 ∨ d = 1 ∨ d = 2 ∨ d = 3 := by omega
    rcases this with rfl | rfl | rfl | rfl
    · exact ⟨_, rfl⟩
    · exact ⟨_, rfl⟩
    · exact ⟨_, rfl⟩
    · exact ⟨_, rfl⟩
  obtain ⟨x, hx⟩ := hd
  have b_ok : pB [some (.scr ns), some (.lst true [.lst true ((cutX ns none (some 60)).map .int), .int 0, .int 0]), none, none, none, none, none, none] =
      some (.nx, [some (.scr ns), some (.lst true [.lst o' ((cutX ns none (some 60)).map .int), .int i', .int v']), some (.lst true madeL), none, none, none, none, none]) := by
    simp [pB, sAsg, eCall, eCallL, eCons, eFrz, eOp2, eLst, eLit, eNil, frz, frzL, e1, idxD, hx, made_ok, gNm, sizeLine_eq]
  have d_ok : pD [some (.scr ns), some (.lst true [.lst o' ((cutX ns none (some 60)).map .int), .int i', .int v']), some (.lst false madeL), some (.int 26), none, none, none, none] =
      some (.nx, [some (.scr ns), some (.lst true [.lst o2 ((cutX ns none (some 60)).map .int), .int i2, .int v2]), some (.lst false madeL), some (.int 26), some (.int d2), none, none, none]) := by
    simp [pD, sAsg, eCallL, eCons, eLit, eNil, e2, gNm]
  simp [F_law, fSem, m_law_eq, sSeq, a_ok, b_ok, c_ok, d_ok, e_ok _ _ d2 k1 k2, f_ok, g_ok, h_ok]
end T

namespace T
open PySem PySem.Spec PyProof.Rows L2 Ev
abbrev R : PySem.W.OpenRow := PySem.W.OpenLaw.row PySem.Challenge.rw_seencursors_k40_errors
abbrev hk : PySem.W.Hook := hookX 5 fs fn
def ob (s : PySem.W.SharedT) : AlX := seenG 5 fs fn (HandSHeadRun.getT s)
theorem ob_eq (s : PySem.W.SharedT) : ob s = hk.obs s.abs := seenG_eq (HandSHeadRun.getT_eq s)
def loose : List Str := (["_law_pen", "_law_next", "_law_draw", "_law_made", "_law_kinds"] : List Str) ++ excN
theorem run (w : World) : HandSHeadRun.RunEq R (PySem.W.view R.prog [36]) hk ob 7000 loose w := by
  intro os
  kernel_rfl
end T

open PySem PySem.W PySem.Calls PyProof.Rows
theorem PySem.Challenge.cw_seencursors_k40_errors_holds : PySem.Challenge.rw_seencursors_k40_errors.Holds := by
  w_on; o_law
  refine HandSHeadRun.head_any (r := OpenLaw.row PySem.Challenge.rw_seencursors_k40_errors) (q := view (OpenLaw.row PySem.Challenge.rw_seencursors_k40_errors).prog [36]) (H := T.hk) (ob := T.ob) (M := 7000) (loose := T.loose) (d := HandSHeadRun.topDef (OpenLaw.row PySem.Challenge.rw_seencursors_k40_errors).prog 36) (kwd := []) T.ob_eq
    (by kernel_rfl) (fun s => by kernel_rfl) T.run (by kernel_rfl) (by kernel_rfl) (by kernel_rfl) (by rfl) (by first | assumption | decide +kernel) (by decide +kernel) ⟨rfl, rfl, rfl, rfl, rfl, by decide +kernel⟩ ?hw ?hc
  case hw => w_witness2
  case hc =>
    refine Ev.walk_x (l := PySem.Challenge.rw_seencursors_k40_errors) (n := 63) (k := 3) (x := "script") (F := fun _ => T.F_law) rfl (by decide) (by kernel_rfl) ⟨rfl, by decide, by decide⟩ ?_ (fun K ns _ => T.F_law_true ns)
    intro w mg fa h Y G hmg0
    obtain ⟨K, KX, c⟩ := Y
    have e : (HandSHeadRun.topDef (OpenLaw.row PySem.Challenge.rw_seencursors_k40_errors).prog 36).name = ("law" : PySem.Str) := by kernel_rfl
    rw [e] at hmg0
    obtain ⟨fd, hb, hF⟩ := T.facts (P := (PySem.Challenge.rw_seencursors_k40_errors).prog) (w := w) KX G c
    have z := (T.glo_of KX G c (x := "law") (by decide)).1
    rw [z] at hmg0
    cases hmg0
    exact ⟨K, fd, T.clsK K, KX, hb, hF⟩

