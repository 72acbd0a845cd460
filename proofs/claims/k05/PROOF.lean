import PyProof.Rows.All
import Wide.All
import OpenK.AllK
import Wide.FinOn
import HandS.ForMost
import HandS.ForExc
import HandS.Deep
import HandS.SortOrd
import HandS.Wide
import HandS.Rev
import KE.KeyNested
import KE.KDictKeyed
import KE.SortData
import HandS.TupAny
import HandS.TupLe
import HandS.IsInst
import KE.KTab
import HandS.TupSets
import HandS.Walk
import HandS.Flow
import HandS.Words
import HandS.Codes
import HandS.Text
import HandS.Defaults
import HandS.Head0
import HandS.Head1
import HandS.Head2
import HandS.HeadEnd
import HandS.HeadHook1
import HandS.HeadHook2
import HandS.HeadHook3
import HandS.HeadHook4
import PySem.Challenge.RW_doneroom_k05_what_programs_have
set_option Elab.async false
set_option linter.all false
set_option maxRecDepth 100000
set_option maxHeartbeats 0
namespace Eng
open PySem PySem.Spec PyProof.Rows L2

/-! ### data -/
inductive D where
  | non | bl (b : Bool) | int (i : Int) | str (x : Str)
  | tup (xs : List D) | lst (o : Bool) (xs : List D) | dct (o : Bool) (kvs : List (D × D))

mutual
def D.frz : D → D
  | .tup xs => .tup (frzL xs)
  | .lst _ xs => .lst false (frzL xs)
  | .dct _ kvs => .dct false (frzE kvs)
  | d => d
def frzL : List D → List D
  | [] => []
  | d :: r => d.frz :: frzL r
def frzE : List (D × D) → List (D × D)
  | [] => []
  | (k, d) :: r => (k, d.frz) :: frzE r
end
mutual
/-- no frozen list or dict within -/
def D.clean : D → Bool
  | .tup xs => cleanL xs
  | .lst o xs => o && cleanL xs
  | .dct o kvs => o && cleanE kvs
  | _ => true
def cleanL : List D → Bool
  | [] => true
  | d :: r => d.clean && cleanL r
def cleanE : List (D × D) → Bool
  | [] => true
  | (_, d) :: r => d.clean && cleanE r
end
mutual
/-- no list or dict within at all -/
def D.imm : D → Bool
  | .tup xs => immL xs
  | .lst _ _ => false
  | .dct _ _ => false
  | _ => true
def immL : List D → Bool
  | [] => true
  | d :: r => d.imm && immL r
end
mutual
def D.nk : D → Option NestedKey
  | .non => some .none
  | .bl b => some (.num (if b then 1 else 0))
  | .int i => some (.num i)
  | .str x => some (.text x)
  | .tup xs => (nkL xs).map .tup
  | _ => none
def nkL : List D → Option (List NestedKey)
  | [] => some []
  | d :: r => match d.nk, nkL r with
    | some k, some ks => some (k :: ks)
    | _, _ => none
end
mutual
def D.py : D → PyData
  | .non => .none
  | .bl b => .bool b
  | .int i => .int i
  | .str x => .str x
  | .tup xs => .tuple (pyL xs)
  | .lst _ xs => .list (pyL xs)
  | .dct _ kvs => .dict (pyE kvs)
def pyL : List D → List PyData
  | [] => []
  | d :: r => d.py :: pyL r
def pyE : List (D × D) → List (PyData × PyData)
  | [] => []
  | (k, d) :: r => (k.py, d.py) :: pyE r
end
theorem frzL_map : ∀ xs : List D, frzL xs = xs.map D.frz
  | [] => rfl
  | x :: r => by rw [frzL, frzL_map r]; rfl
theorem frzE_map : ∀ xs : List (D × D), frzE xs = xs.map fun p => (p.1, p.2.frz)
  | [] => rfl
  | (k, x) :: r => by rw [frzE, frzE_map r]; rfl
theorem pyL_map : ∀ xs : List D, pyL xs = xs.map D.py
  | [] => rfl
  | x :: r => by rw [pyL, pyL_map r]; rfl
theorem cleanL_all : ∀ xs : List D, cleanL xs = xs.all D.clean
  | [] => rfl
  | x :: r => by rw [cleanL, cleanL_all r]; rfl
theorem immL_all : ∀ xs : List D, immL xs = xs.all D.imm
  | [] => rfl
  | x :: r => by rw [immL, immL_all r]; rfl
mutual
theorem imm_clean : ∀ d : D, d.imm = true → d.clean = true
  | .non, _ => rfl
  | .bl _, _ => rfl
  | .int _, _ => rfl
  | .str _, _ => rfl
  | .tup xs, h => immL_clean xs h
  | .lst _ _, h => by cases h
  | .dct _ _, h => by cases h
theorem immL_clean : ∀ xs : List D, immL xs = true → cleanL xs = true
  | [], _ => rfl
  | d :: r, h => by
    simp only [immL, Bool.and_eq_true] at h
    simp only [cleanL, Bool.and_eq_true]
    exact ⟨imm_clean d h.1, immL_clean r h.2⟩
end
mutual
theorem imm_frz : ∀ d : D, d.imm = true → d.frz = d
  | .non, _ => rfl
  | .bl _, _ => rfl
  | .int _, _ => rfl
  | .str _, _ => rfl
  | .tup xs, h => by rw [D.frz, immL_frz xs h]
  | .lst _ _, h => by cases h
  | .dct _ _, h => by cases h
theorem immL_frz : ∀ xs : List D, immL xs = true → frzL xs = xs
  | [], _ => rfl
  | d :: r, h => by
    simp only [immL, Bool.and_eq_true] at h
    rw [frzL, imm_frz d h.1, immL_frz r h.2]
end
mutual
theorem frz_frz : ∀ d : D, d.frz.frz = d.frz
  | .non => rfl
  | .bl _ => rfl
  | .int _ => rfl
  | .str _ => rfl
  | .tup xs => by simp only [D.frz, frzL_frz xs]
  | .lst _ xs => by simp only [D.frz, frzL_frz xs]
  | .dct _ kvs => by simp only [D.frz, frzE_frz kvs]
theorem frzL_frz : ∀ xs : List D, frzL (frzL xs) = frzL xs
  | [] => rfl
  | d :: r => by simp only [frzL, frz_frz d, frzL_frz r]
theorem frzE_frz : ∀ xs : List (D × D), frzE (frzE xs) = frzE xs
  | [] => rfl
  | (k, d) :: r => by simp only [frzE, frz_frz d, frzE_frz r]
end
mutual
theorem py_frz : ∀ d : D, d.frz.py = d.py
  | .non => rfl
  | .bl _ => rfl
  | .int _ => rfl
  | .str _ => rfl
  | .tup xs => by simp only [D.frz, D.py, pyL_frz xs]
  | .lst _ xs => by simp only [D.frz, D.py, pyL_frz xs]
  | .dct _ kvs => by simp only [D.frz, D.py, pyE_frz kvs]
theorem pyL_frz : ∀ xs : List D, pyL (frzL xs) = pyL xs
  | [] => rfl
  | d :: r => by simp only [frzL, pyL, py_frz d, pyL_frz r]
theorem pyE_frz : ∀ xs : List (D × D), pyE (frzE xs) = pyE xs
  | [] => rfl
  | (k, d) :: r => by simp only [frzE, pyE, py_frz d, pyE_frz r]
end

/-! ### dicts by their very object -/
def rawO (a : Addr) (o : Obj) : HO := .ext fun h => h.get? a = some o
/-- a dict that may be read: tracked, or of the written part -/
def DcW (K : PySem.W.Frag) (H : Hp) (a : Addr) (o : Obj) : Prop := H a = some (rawO a o)
structure DcOk (a : Addr) (o : Obj) (es : Array DictEntry) : Prop where
  ex : o.ExactDict
  dt : ∃ ep, o.data = .dict es ep
  ns : (a == sysModules) = false
  sz : es.size ≤ sizeLine

/-! ### what a value denotes -/
/-- a list of the written part -/
def KLs (K : PySem.W.Frag) (a : Addr) (xs : List V) : Prop := ∃ (o : Obj) (its : Array Value) (n : Nat), K.lookup a = some o ∧ o.cls = .type "list" ∧ o.dict = none ∧ o.data = .seq its n ∧ its.size ≤ sizeLine ∧ Vals xs its.toList
/-- a list that is frozen: tracked, or of the written part -/
def LsF (K : PySem.W.Frag) (H : Hp) (Fz : Addr → Prop) (a : Addr) (xs : List V) : Prop := (Rd H a (.lst xs) ∧ Fz a) ∨ KLs K a xs
theorem LsF.sq {K : PySem.W.Frag} {H : Hp} {Fz : Addr → Prop} {a : Addr} {xs : List V} (h : LsF K H Fz a xs) : SqL K H a xs := h.imp (fun z => z.1) id
theorem LsF.mono {K : PySem.W.Frag} {H H' : Hp} {Fz Fz' : Addr → Prop} {a : Addr} {xs : List V} (h : LsF K H Fz a xs) (hc : ∀ b o, H b = some o → Fz b → H' b = some o ∧ Fz' b) : LsF K H' Fz' a xs := by
  rcases h with ⟨h, f⟩ | h
  · rcases h with h | ⟨o, h⟩
    · exact .inl ⟨.inl (hc _ _ h f).1, (hc _ _ h f).2⟩
    · exact .inl ⟨.inr ⟨o, (hc _ _ h f).1⟩, (hc _ _ h f).2⟩
  · exact .inr h
mutual
inductive Dn (K : PySem.W.Frag) (w : World) (H : Hp) (Fz : Addr → Prop) : V → D → List Addr → Prop
  | non : Dn K w H Fz .non .non []
  | bl (b : Bool) : Dn K w H Fz (.bl b) (.bl b) []
  | int (i : Int) : Dn K w H Fz (.int i) (.int i) []
  | str (x : Str) : Dn K w H Fz (.str x) (.str x) []
  | tup {a : Addr} {vs : List V} {ds : List D} {S : List Addr} : SqT K H a vs → DnL K w H Fz vs ds S → Dn K w H Fz (.ref a) (.tup ds) S
  | lstF {a : Addr} {vs : List V} {ds : List D} : LsF K H Fz a vs → DnL K w H Fz vs ds [] → Dn K w H Fz (.ref a) (.lst false ds) []
  | lstO {a : Addr} {vs : List V} {ds : List D} {S : List Addr} : H a = some (.lst vs) → DnL K w H Fz vs ds S → Dn K w H Fz (.ref a) (.lst true ds) (a :: S)
  | dctF {a : Addr} {o : Obj} {es : Array DictEntry} {kvs : List (D × D)} : H a = some (rawO a o) → Fz a → DcOk a o es → DnE K w H Fz es.toList kvs [] → (kvs.map fun p => p.1.nk).Nodup → Dn K w H Fz (.ref a) (.dct false kvs) []
  | dctK {a : Addr} {o : Obj} {es : Array DictEntry} {kvs : List (D × D)} : K.lookup a = some o → DcOk a o es → DnE K w H Fz es.toList kvs [] → (kvs.map fun p => p.1.nk).Nodup → Dn K w H Fz (.ref a) (.dct false kvs) []
  | dctO {a : Addr} {o : Obj} {es : Array DictEntry} {kvs : List (D × D)} {S : List Addr} : H a = some (rawO a o) → DcOk a o es → DnE K w H Fz es.toList kvs S → (kvs.map fun p => p.1.nk).Nodup → Dn K w H Fz (.ref a) (.dct true kvs) (a :: S)
inductive DnL (K : PySem.W.Frag) (w : World) (H : Hp) (Fz : Addr → Prop) : List V → List D → List Addr → Prop
  | nil : DnL K w H Fz [] [] []
  | cons {v : V} {vs : List V} {d : D} {ds : List D} {S S' : List Addr} : Dn K w H Fz v d S → DnL K w H Fz vs ds S' → DnL K w H Fz (v :: vs) (d :: ds) (S ++ S')
/-- a dict's entries: keys by value (none, truths, numbers, texts, tuples of such), their hashes, values -/
inductive DnE (K : PySem.W.Frag) (w : World) (H : Hp) (Fz : Addr → Prop) : List DictEntry → List (D × D) → List Addr → Prop
  | nil : DnE K w H Fz [] [] []
  | cons {e : DictEntry} {es : List DictEntry} {k v : V} {kd d : D} {n : NestedKey} {kvs : List (D × D)} {S S' : List Addr} : RelV k e.key → RelV v e.val → Dn K w H Fz k kd [] → kd.nk = some n → n.depth ≤ 8 → e.hash = n.hash w →
      Dn K w H Fz v d S → DnE K w H Fz es kvs S' → DnE K w H Fz (e :: es) ((kd, d) :: kvs) (S ++ S')
end

section
variable {K : PySem.W.Frag} {w : World} {H H' : Hp} {Fz Fz' : Addr → Prop}
/-- what is carried over -/
structure Carry (H H' : Hp) (Fz Fz' : Addr → Prop) (S : List Addr) : Prop where
  tup : ∀ b xs, Rd H b (.tup xs) → Rd H' b (.tup xs)
  fz : ∀ b o, H b = some o → Fz b → H' b = some o ∧ Fz' b
  own : ∀ b o, H b = some o → b ∈ S → H' b = some o
theorem Carry.sub {S S' : List Addr} (c : Carry H H' Fz Fz' S) (h : ∀ a ∈ S', a ∈ S) : Carry H H' Fz Fz' S' := ⟨c.tup, c.fz, fun b o e hb => c.own b o e (h b hb)⟩
theorem Carry.sqT {S : List Addr} (c : Carry H H' Fz Fz' S) {a : Addr} {vs : List V} (h : SqT K H a vs) : SqT K H' a vs := h.imp (c.tup a vs) id
mutual
theorem Dn.carry : ∀ {v : V} {d : D} {S : List Addr}, Dn K w H Fz v d S → Carry H H' Fz Fz' S → Dn K w H' Fz' v d S
  | _, _, _, .non, _ => .non
  | _, _, _, .bl b, _ => .bl b
  | _, _, _, .int i, _ => .int i
  | _, _, _, .str x, _ => .str x
  | _, _, _, .tup h r, c => .tup (c.sqT h) (DnL.carry r c)
  | _, _, _, .lstF h r, c => .lstF (h.mono c.fz) (DnL.carry r c)
  | _, _, _, .lstO h r, c => .lstO (c.own _ _ h List.mem_cons_self) (DnL.carry r (c.sub fun a ha => List.mem_cons_of_mem _ ha))
  | _, _, _, .dctF h f k r n, c => .dctF (c.fz _ _ h f).1 (c.fz _ _ h f).2 k (DnE.carry r c) n
  | _, _, _, .dctK h k r n, c => .dctK h k (DnE.carry r c) n
  | _, _, _, .dctO h k r n, c => .dctO (c.own _ _ h List.mem_cons_self) k (DnE.carry r (c.sub fun a ha => List.mem_cons_of_mem _ ha)) n
theorem DnL.carry : ∀ {vs : List V} {ds : List D} {S : List Addr}, DnL K w H Fz vs ds S → Carry H H' Fz Fz' S → DnL K w H' Fz' vs ds S
  | _, _, _, .nil, _ => .nil
  | _, _, _, .cons h r, c => .cons (Dn.carry h (c.sub fun a ha => List.mem_append_left _ ha)) (DnL.carry r (c.sub fun a ha => List.mem_append_right _ ha))
theorem DnE.carry : ∀ {es : List DictEntry} {kvs : List (D × D)} {S : List Addr}, DnE K w H Fz es kvs S → Carry H H' Fz Fz' S → DnE K w H' Fz' es kvs S
  | _, _, _, .nil, _ => .nil
  | _, _, _, .cons h1 h2 h3 h4 h5 h6 h7 r, c => .cons h1 h2 (Dn.carry h3 (c.sub fun a ha => by cases ha)) h4 h5 h6 (Dn.carry h7 (c.sub fun a ha => List.mem_append_left _ ha)) (DnE.carry r (c.sub fun a ha => List.mem_append_right _ ha))
end
mutual
/-- all frozen -/
theorem Dn.frz : ∀ {v : V} {d : D} {S : List Addr}, Dn K w H Fz v d S → (∀ a, Fz a → Fz' a) → (∀ a ∈ S, Fz' a) → Dn K w H Fz' v d.frz []
  | _, _, _, .non, _, _ => .non
  | _, _, _, .bl b, _, _ => .bl b
  | _, _, _, .int i, _, _ => .int i
  | _, _, _, .str x, _, _ => .str x
  | _, _, _, .tup h r, f, s => by rw [D.frz]; exact .tup h (DnL.frz r f s)
  | _, _, _, .lstF h r, f, s => by rw [D.frz]; exact .lstF (h.mono fun b o e g => ⟨e, f b g⟩) (DnL.frz r f s)
  | _, _, _, .lstO h r, f, s => by rw [D.frz]; exact .lstF (.inl ⟨.inl h, s _ List.mem_cons_self⟩) (DnL.frz r f fun a ha => s a (List.mem_cons_of_mem _ ha))
  | _, _, _, .dctF h g k r n, f, s => by rw [D.frz]; exact .dctF h (f _ g) k (DnE.frz r f s) (by rw [frzE_map, List.map_map]; exact n)
  | _, _, _, .dctK h k r n, f, s => by rw [D.frz]; exact .dctK h k (DnE.frz r f s) (by rw [frzE_map, List.map_map]; exact n)
  | _, _, _, .dctO h k r n, f, s => by rw [D.frz]; exact .dctF h (s _ List.mem_cons_self) k (DnE.frz r f fun a ha => s a (List.mem_cons_of_mem _ ha)) (by rw [frzE_map, List.map_map]; exact n)
theorem DnL.frz : ∀ {vs : List V} {ds : List D} {S : List Addr}, DnL K w H Fz vs ds S → (∀ a, Fz a → Fz' a) → (∀ a ∈ S, Fz' a) → DnL K w H Fz' vs (frzL ds) []
  | _, _, _, .nil, _, _ => .nil
  | _, _, _, .cons h r, f, s => by
    rw [frzL]
    exact DnL.cons (S := []) (S' := []) (Dn.frz h f fun a ha => s a (List.mem_append_left _ ha)) (DnL.frz r f fun a ha => s a (List.mem_append_right _ ha))
theorem DnE.frz : ∀ {es : List DictEntry} {kvs : List (D × D)} {S : List Addr}, DnE K w H Fz es kvs S → (∀ a, Fz a → Fz' a) → (∀ a ∈ S, Fz' a) → DnE K w H Fz' es (frzE kvs) []
  | _, _, _, .nil, _, _ => .nil
  | _, _, _, .cons h1 h2 h3 h4 h5 h6 h7 r, f, s => by
    rw [frzE]
    refine DnE.cons (S := []) (S' := []) h1 h2 (h3.keyFz f) h4 h5 h6 (Dn.frz h7 f fun a ha => s a (List.mem_append_left _ ha)) (DnE.frz r f fun a ha => s a (List.mem_append_right _ ha))
theorem Dn.keyFz : ∀ {v : V} {d : D} {S : List Addr}, Dn K w H Fz v d S → (∀ a, Fz a → Fz' a) → Dn K w H Fz' v d S
  | _, _, _, .non, _ => .non
  | _, _, _, .bl b, _ => .bl b
  | _, _, _, .int i, _ => .int i
  | _, _, _, .str x, _ => .str x
  | _, _, _, .tup h r, f => .tup h (DnL.keyFz r f)
  | _, _, _, .lstF h r, f => .lstF (h.mono fun b o e g => ⟨e, f b g⟩) (DnL.keyFz r f)
  | _, _, _, .lstO h r, f => .lstO h (DnL.keyFz r f)
  | _, _, _, .dctF h g k r n, f => .dctF h (f _ g) k (DnE.keyFz r f) n
  | _, _, _, .dctK h k r n, f => .dctK h k (DnE.keyFz r f) n
  | _, _, _, .dctO h k r n, f => .dctO h k (DnE.keyFz r f) n
theorem DnL.keyFz : ∀ {vs : List V} {ds : List D} {S : List Addr}, DnL K w H Fz vs ds S → (∀ a, Fz a → Fz' a) → DnL K w H Fz' vs ds S
  | _, _, _, .nil, _ => .nil
  | _, _, _, .cons h r, f => .cons (Dn.keyFz h f) (DnL.keyFz r f)
theorem DnE.keyFz : ∀ {es : List DictEntry} {kvs : List (D × D)} {S : List Addr}, DnE K w H Fz es kvs S → (∀ a, Fz a → Fz' a) → DnE K w H Fz' es kvs S
  | _, _, _, .nil, _ => .nil
  | _, _, _, .cons h1 h2 h3 h4 h5 h6 h7 r, f => .cons h1 h2 (Dn.keyFz h3 f) h4 h5 h6 (Dn.keyFz h7 f) (DnE.keyFz r f)
end
mutual
/-- of what is clean nothing is frozen -/
theorem Dn.clean : ∀ {v : V} {d : D} {S : List Addr}, Dn K w H Fz v d S → d.clean = true → Dn K w H Fz' v d S
  | _, _, _, .non, _ => .non
  | _, _, _, .bl b, _ => .bl b
  | _, _, _, .int i, _ => .int i
  | _, _, _, .str x, _ => .str x
  | _, _, _, .tup h r, c => .tup h (DnL.clean r c)
  | _, _, _, .lstF h r, c => by simp [D.clean] at c
  | _, _, _, .lstO h r, c => .lstO h (DnL.clean r (by simpa [D.clean] using c))
  | _, _, _, .dctF h g k r n, c => by simp [D.clean] at c
  | _, _, _, .dctK h k r n, c => by simp [D.clean] at c
  | _, _, _, .dctO h k r n, c => .dctO h k (DnE.clean r (by simpa [D.clean] using c)) n
theorem DnL.clean : ∀ {vs : List V} {ds : List D} {S : List Addr}, DnL K w H Fz vs ds S → cleanL ds = true → DnL K w H Fz' vs ds S
  | _, _, _, .nil, _ => .nil
  | _, _, _, .cons h r, c => by
    simp only [cleanL, Bool.and_eq_true] at c
    exact .cons (Dn.clean h c.1) (DnL.clean r c.2)
theorem DnE.clean : ∀ {es : List DictEntry} {kvs : List (D × D)} {S : List Addr}, DnE K w H Fz es kvs S → cleanE kvs = true → DnE K w H Fz' es kvs S
  | _, _, _, .nil, _ => .nil
  | _, _, _, .cons h1 h2 h3 h4 h5 h6 h7 r, c => by
    simp only [cleanE, Bool.and_eq_true] at c
    exact .cons h1 h2 (Dn.key h3 h4) h4 h5 h6 (Dn.clean h7 c.1) (DnE.clean r c.2)
theorem Dn.key : ∀ {v : V} {d : D} {S : List Addr} {n : NestedKey}, Dn K w H Fz v d S → d.nk = some n → Dn K w H Fz' v d S
  | _, _, _, _, .non, _ => .non
  | _, _, _, _, .bl b, _ => .bl b
  | _, _, _, _, .int i, _ => .int i
  | _, _, _, _, .str x, _ => .str x
  | _, _, _, _, .tup (ds := ds) h r, e => by
    simp only [D.nk, Option.map_eq_some_iff] at e
    obtain ⟨ks, e, _⟩ := e
    exact .tup h (DnL.key r e)
  | _, _, _, _, .lstF h r, e => by simp [D.nk] at e
  | _, _, _, _, .lstO h r, e => by simp [D.nk] at e
  | _, _, _, _, .dctF h g k r n, e => by simp [D.nk] at e
  | _, _, _, _, .dctK h k r n, e => by simp [D.nk] at e
  | _, _, _, _, .dctO h k r n, e => by simp [D.nk] at e
theorem DnL.key : ∀ {vs : List V} {ds : List D} {S : List Addr} {ns : List NestedKey}, DnL K w H Fz vs ds S → nkL ds = some ns → DnL K w H Fz' vs ds S
  | _, _, _, _, .nil, _ => .nil
  | _, _, _, _, .cons h r, e => by
    simp only [nkL] at e
    split at e
    · rename_i k ks e1 e2
      exact .cons (Dn.key h e1) (DnL.key r e2)
    · cases e
end
mutual
theorem Dn.there : ∀ {v : V} {d : D} {S : List Addr}, Dn K w H Fz v d S → ∀ a ∈ S, (∃ vs, H a = some (.lst vs)) ∨ ∃ o, H a = some (rawO a o)
  | _, _, _, .non => fun a h => by cases h
  | _, _, _, .bl b => fun a h => by cases h
  | _, _, _, .int i => fun a h => by cases h
  | _, _, _, .str x => fun a h => by cases h
  | _, _, _, .tup h r => DnL.there r
  | _, _, _, .lstF h r => DnL.there r
  | _, _, _, .lstO h r => fun a ha => by
    rcases List.mem_cons.mp ha with e | ha
    · subst e; exact .inl ⟨_, h⟩
    · exact DnL.there r a ha
  | _, _, _, .dctF h g k r n => fun a ha => by cases ha
  | _, _, _, .dctK h k r n => fun a ha => by cases ha
  | _, _, _, .dctO h k r n => fun a ha => by
    rcases List.mem_cons.mp ha with e | ha
    · subst e; exact .inr ⟨_, h⟩
    · exact DnE.there r a ha
theorem DnL.there : ∀ {vs : List V} {ds : List D} {S : List Addr}, DnL K w H Fz vs ds S → ∀ a ∈ S, (∃ vs, H a = some (.lst vs)) ∨ ∃ o, H a = some (rawO a o)
  | _, _, _, .nil => fun a h => by cases h
  | _, _, _, .cons h r => fun a ha => (List.mem_append.mp ha).elim (Dn.there h a) (DnL.there r a)
theorem DnE.there : ∀ {es : List DictEntry} {kvs : List (D × D)} {S : List Addr}, DnE K w H Fz es kvs S → ∀ a ∈ S, (∃ vs, H a = some (.lst vs)) ∨ ∃ o, H a = some (rawO a o)
  | _, _, _, .nil => fun a h => by cases h
  | _, _, _, .cons h1 h2 h3 h4 h5 h6 h7 r => fun a ha => (List.mem_append.mp ha).elim (Dn.there h7 a) (DnE.there r a)
end
theorem DnL.length : ∀ {vs : List V} {ds : List D} {S : List Addr}, DnL K w H Fz vs ds S → vs.length = ds.length
  | _, _, _, .nil => rfl
  | _, _, _, .cons _ r => by rw [List.length_cons, List.length_cons, r.length]
theorem DnL.get : ∀ {vs : List V} {ds : List D} {S : List Addr} {i : Nat} {d : D}, DnL K w H Fz vs ds S → ds[i]? = some d → ∃ v S', vs[i]? = some v ∧ Dn K w H Fz v d S' ∧ ∀ a ∈ S', a ∈ S
  | _, _, _, _, _, .nil, e => by simp at e
  | _, _, _, 0, _, .cons h r, e => by
    simp at e; subst e
    exact ⟨_, _, rfl, h, fun a ha => List.mem_append_left _ ha⟩
  | _, _, _, i + 1, _, .cons h r, e => by
    obtain ⟨v, S', e1, h1, h2⟩ := DnL.get (i := i) r (by simpa using e)
    exact ⟨v, S', by simpa using e1, h1, fun a ha => List.mem_append_right _ (h2 a ha)⟩
theorem DnL.get' {vs : List V} {ds : List D} {S : List Addr} {i : Nat} {v : V} (h : DnL K w H Fz vs ds S) (e : vs[i]? = some v) : ∃ d S', ds[i]? = some d ∧ Dn K w H Fz v d S' ∧ ∀ a ∈ S', a ∈ S := by
  have hl := h.length
  have hi : i < ds.length := by
    have := (List.getElem?_eq_some_iff.mp e).1
    omega
  obtain ⟨v', S', e1, h1, h2⟩ := h.get (List.getElem?_eq_getElem hi)
  rw [e] at e1; cases e1
  exact ⟨_, S', List.getElem?_eq_getElem hi, h1, h2⟩
theorem DnL.append : ∀ {vs vs' : List V} {ds ds' : List D} {S S' : List Addr}, DnL K w H Fz vs ds S → DnL K w H Fz vs' ds' S' → DnL K w H Fz (vs ++ vs') (ds ++ ds') (S ++ S')
  | _, _, _, _, _, _, .nil, h => h
  | _, _, _, _, _, _, .cons h r, h' => by
    rw [List.cons_append, List.cons_append, List.append_assoc]
    exact .cons h (DnL.append r h')
theorem DnL.one {v : V} {d : D} {S : List Addr} (h : Dn K w H Fz v d S) : DnL K w H Fz [v] [d] S := by
  have := DnL.cons h (DnL.nil (K := K) (w := w) (H := H) (Fz := Fz))
  rwa [List.append_nil] at this
/-- items frozen, by place -/
theorem DnL.all0 : ∀ {vs : List V} {ds : List D}, vs.length = ds.length → (∀ (i : Nat) (v : V) (d : D), vs[i]? = some v → ds[i]? = some d → Dn K w H Fz v d []) → DnL K w H Fz vs ds []
  | [], [], _, _ => .nil
  | [], _ :: _, h, _ => by simp at h
  | _ :: _, [], h, _ => by simp at h
  | v :: vs, d :: ds, h, f => DnL.cons (S := []) (S' := []) (f 0 v d rfl rfl) (DnL.all0 (by simpa using h) fun i v' d' h1 h2 => f (i + 1) v' d' (by simpa using h1) (by simpa using h2))
/-- the data is one -/
theorem SqT.rd {a : Addr} {vs : List V} (h : H a = some (.tup vs)) : SqT K H a vs := .inl (.inl h)
end
end Eng
namespace Eng
open PySem PySem.Spec PyProof.Rows L2

/-! ### the intermediate text -/
inductive Bop where | add | sub | mul | fdiv | mod | pow
  deriving DecidableEq
inductive Cop where | eq | ne | lt | le | gt | ge | isin | notin | is | isnot
  deriving DecidableEq
inductive Ty where | str | int | bool | tuple | list
  deriving DecidableEq
inductive Blt where | len | int | str | list | tuple | sorted | sortedSet | lenSet | dict | min | max | sum
  deriving DecidableEq
inductive Mth where | join | split | upper | replace | get | index | count | values
  deriving DecidableEq
inductive Tgt where | nm (i : Nat) | tp (is : List Nat)
mutual
inductive Ex where
  | var (i : Nat) | mov (i : Nat) | con (d : D) | glo (x : Str)
  | bin (o : Bop) (a b : Ex) | cmp (o : Cop) (a b : Ex) | cmp2 (o p : Cop) (a b c : Ex)
  | neg (a : Ex) | not (a : Ex) | and (es : Exs) | or (es : Exs) | ife (c a b : Ex)
  | sub (a b : Ex) | slc (a : Ex) (lo hi : Ox)
  | tup (es : Exs) | lst (es : Exs) | dct (es : Exs)
  | call (f : Str) (es : Exs) | callIO (f : Str) (es : Exs) (io : List (Nat × Nat))
  | blt (b : Blt) (es : Exs) | mth (m : Mth) (a : Ex) (es : Exs) | isi (a : Ex) (t : Ty)
  | comp (elt : Ex) (tg : Tgt) (it : Itr) (cond : Ox)
  | pop (i : Nat) | popAt (i : Nat) (k : Ex)
  | stuck
inductive Exs where
  | nil | cons (e : Ex) (es : Exs)
inductive Ox where
  | none | some (e : Ex)
inductive Itr where
  | of (e : Ex) | range (es : Exs) | enum (e : Ex) | zip (a b : Ex) | rev (e : Ex) | revRange (es : Exs)
end
mutual
inductive St where
  | set (i : Nat) (e : Ex) | unp (is : List Nat) (e : Ex) | drop (e : Ex)
  | put (i : Nat) (k e : Ex) | augPut (i : Nat) (k : Ex) (o : Bop) (e : Ex) | app (i : Nat) (e : Ex) | ext (i : Nat) (e : Ex)
  | ret (e : Ex) | retN | ife (c : Ex) (a b : Sts) | whl (c : Ex) (b : Sts) | loop (t : Tgt) (it : Itr) (b : Sts)
  | brk | cnt | pass
  | putAt (i : Nat) (p : Exs) (k e : Ex) | appAt (i : Nat) (p : Exs) (e : Ex)
  | each (i j : Nat) (d : D) | stuck
inductive Sts where
  | nil | cons (s : St) (r : Sts)
end
def Exs.ofList : List Ex → Exs
  | [] => .nil
  | e :: r => .cons e (.ofList r)
def Sts.ofList : List St → Sts
  | [] => .nil
  | e :: r => .cons e (.ofList r)

/-! ### its effects, its names -/
mutual
/-- nothing of the environment is changed -/
def Ex.pure : Ex → Bool
  | .var _ => true | .mov _ => false | .con _ => true | .glo _ => true
  | .bin _ a b => a.pure && b.pure | .cmp _ a b => a.pure && b.pure | .cmp2 _ _ a b c => a.pure && b.pure && c.pure
  | .neg a => a.pure | .not a => a.pure | .and es => es.pure | .or es => es.pure | .ife c a b => c.pure && a.pure && b.pure
  | .sub a b => a.pure && b.pure | .slc a lo hi => a.pure && lo.pure && hi.pure
  | .tup es => es.pure | .lst es => es.pure | .dct es => es.pure
  | .call _ es => es.pure | .callIO _ _ _ => false
  | .blt _ es => es.pure | .mth _ a es => a.pure && es.pure | .isi a _ => a.pure
  | .comp e _ it c => e.pure && it.pure && c.pure
  | .pop _ => false | .popAt _ _ => false
  | .stuck => true
def Exs.pure : Exs → Bool
  | .nil => true
  | .cons e es => e.pure && es.pure
def Ox.pure : Ox → Bool
  | .none => true
  | .some e => e.pure
def Itr.pure : Itr → Bool
  | .of e => e.pure | .range es => es.pure | .enum e => e.pure | .zip a b => a.pure && b.pure | .rev e => e.pure | .revRange es => es.pure
end
def Tgt.slots : Tgt → List Nat
  | .nm i => [i]
  | .tp is => is
mutual
def Ex.vars : Ex → List Nat
  | .var i => [i] | .mov i => [i] | .con _ => [] | .glo _ => []
  | .bin _ a b => a.vars ++ b.vars | .cmp _ a b => a.vars ++ b.vars | .cmp2 _ _ a b c => a.vars ++ (b.vars ++ c.vars)
  | .neg a => a.vars | .not a => a.vars | .and es => es.vars | .or es => es.vars | .ife c a b => c.vars ++ (a.vars ++ b.vars)
  | .sub a b => a.vars ++ b.vars | .slc a lo hi => a.vars ++ (lo.vars ++ hi.vars)
  | .tup es => es.vars | .lst es => es.vars | .dct es => es.vars
  | .call _ es => es.vars | .callIO _ es io => es.vars ++ io.map (·.2)
  | .blt _ es => es.vars | .mth _ a es => a.vars ++ es.vars | .isi a _ => a.vars
  | .comp e tg it c => it.vars ++ (e.vars ++ (c.vars ++ tg.slots))
  | .pop i => [i] | .popAt i k => i :: k.vars
  | .stuck => []
def Exs.vars : Exs → List Nat
  | .nil => []
  | .cons e es => e.vars ++ es.vars
def Ox.vars : Ox → List Nat
  | .none => []
  | .some e => e.vars
def Itr.vars : Itr → List Nat
  | .of e => e.vars | .range es => es.vars | .enum e => e.vars | .zip a b => a.vars ++ b.vars | .rev e => e.vars | .revRange es => es.vars
end

/-! ### operations on data -/
def fits (n : Nat) : Bool := decide (n ≤ sizeLine)
def dItems : D → Option (List D)
  | .tup xs => some xs
  | .lst _ xs => some xs
  | _ => none
def rep {α : Type} (n : Nat) (xs : List α) : List α := (List.replicate n xs).flatten
def repS (x : Str) (n : Nat) : Str := ⟨(rep n x.cps.toList).toArray⟩
def dBin : Bop → D → D → Option D
  | .add, .int i, .int j => some (.int (i + j))
  | .add, .str x, .str y => if fits (x.length + y.length) then some (.str (x ++ y)) else none
  | .add, .lst _ xs, .lst _ ys => if fits (xs.length + ys.length) then some (.lst true (xs ++ ys)) else none
  | .add, .tup xs, .tup ys => if fits (xs.length + ys.length) then some (.tup (xs ++ ys)) else none
  | .sub, .int i, .int j => some (.int (i - j))
  | .mul, .str x, .int n => if 0 ≤ n ∧ n ≤ 100000 ∧ x.length * n.toNat ≤ 16000000 then some (.str (repS x n.toNat)) else none
  | .mul, .int i, .int j => if i.natAbs.log2 + j.natAbs.log2 < 1000000 then some (.int (i * j)) else none
  | .fdiv, .int i, .int j => if 0 < j ∧ j.natAbs.log2 < 9000 then some (.int (i / j)) else none
  | .mod, .int i, .int j => if 0 < j then some (.int (i % j)) else none
  | .pow, .int i, .int j => if 0 ≤ j ∧ j ≤ 1000000 ∧ i.natAbs < 2 ^ 64 then some (.int (i ^ j.toNat)) else none
  | _, _, _ => none
def shp (d : D) : Bool := SeqAt.shaped d.py
def dEq (a b : D) : Option Bool := if shp a && shp b then some (PyData.eqv a.py b.py) else none
def dHas (kvs : List (D × D)) (n : NestedKey) : Bool := kvs.any fun p => decide (p.1.nk = some n)
def dFind (kvs : List (D × D)) (n : NestedKey) : Option D := (kvs.find? fun p => decide (p.1.nk = some n)).map (·.2)
/-- a dict's entries, one key stored -/
def dSet (k v : D) : List (D × D) → List (D × D)
  | [] => [(k, v)]
  | p :: r => if decide (p.1.nk = k.nk) = true then (p.1, v) :: r else p :: dSet k v r
def dKey (d : D) : Option NestedKey := match d.nk with
  | some n => if n.depth ≤ 8 then some n else none
  | none => none
def dIn (x : D) : D → Option Bool
  | .lst _ xs => if shp x && shp (.lst false xs) then some (xs.any fun z => PyData.eqv z.py x.py) else none
  | .tup xs => if shp x && shp (.tup xs) then some (xs.any fun z => PyData.eqv z.py x.py) else none
  | .dct _ kvs => (dKey x).map (dHas kvs)
  | .str s => match x with
    | .str c => some (!(Builtin.Str.occurrences s c 0 s.length 1).isEmpty)
    | _ => none
  | _ => none
def dIs : D → D → Option Bool
  | .non, .non => some true
  | x, .non => some false
  | .bl a, .bl b => some (a == b)
  | _, _ => none
def dLt : D → D → Option Bool
  | .int i, .int j => some (decide (i < j))
  | .str x, .str y => some (decide (x.cps.toList < y.cps.toList))
  | _, _ => none
def dLe : D → D → Option Bool
  | .int i, .int j => some (decide (i ≤ j))
  | .str x, .str y => some (!decide (y.cps.toList < x.cps.toList))
  | _, _ => none
def dGt : D → D → Option Bool
  | .int i, .int j => some (decide (j < i))
  | _, _ => none
def dGe : D → D → Option Bool
  | .int i, .int j => some (decide (j ≤ i))
  | _, _ => none
def dCmp (o : Cop) (a b : D) : Option Bool := match o with
  | .eq => dEq a b
  | .ne => (dEq a b).map (!·)
  | .lt => dLt a b
  | .le => dLe a b
  | .gt => dGt a b
  | .ge => dGe a b
  | .isin => dIn a b
  | .notin => (dIn a b).map (!·)
  | .is => dIs a b
  | .isnot => (dIs a b).map (!·)
def dSub : D → D → Option D
  | .lst _ xs, .int i => atI xs i
  | .tup xs, .int i => atI xs i
  | .str z, .int i => if fits z.length then (atI z.cps.toList i).map fun c => .str ⟨#[c]⟩ else none
  | .dct _ kvs, k => (dKey k).bind (dFind kvs)
  | _, _ => none
def cutL {α : Type} (xs : List α) (lo hi : Option Int) : List α := (xs.drop (HT.sIx xs.length 0 lo)).take (HT.sIx xs.length xs.length hi - HT.sIx xs.length 0 lo)
def dCut (lo hi : Option Int) : D → Option D
  | .lst _ xs => some (.lst true (cutL xs lo hi))
  | .tup xs => some (.tup (cutL xs lo hi))
  | .str z => if fits z.length then some (.str (cutS z lo hi)) else none
  | _ => none
def dTruth : D → Option Bool
  | .non => some false
  | .bl b => some b
  | .int i => some (i != 0)
  | .str x => if fits x.length then some ((x.length : Int) != 0) else none
  | .lst _ xs => some (!xs.isEmpty)
  | .tup xs => some (!xs.isEmpty)
  | .dct _ _ => none
def dIsi (t : Ty) : D → Bool
  | .non => false
  | .bl _ => match t with | .bool => true | .int => true | _ => false
  | .int _ => match t with | .int => true | _ => false
  | .str _ => match t with | .str => true | _ => false
  | .lst _ _ => match t with | .list => true | _ => false
  | .tup _ => match t with | .tuple => true | _ => false
  | .dct _ _ => false
mutual
def ltD : D → D → Option Bool
  | .int i, .int j => some (decide (i < j))
  | .str x, .str y => some (decide (x.cps.toList < y.cps.toList))
  | .tup xs, .tup ys => ltL xs ys
  | .lst _ xs, .lst _ ys => ltL xs ys
  | _, _ => none
def ltL : List D → List D → Option Bool
  | [], [] => some false
  | [], _ :: _ => some true
  | _ :: _, [] => some false
  | x :: xs, y :: ys => if PyData.eqv x.py y.py then ltL xs ys else ltD x y
end
def ints? : List D → Option (List Int)
  | [] => some []
  | .int i :: r => (ints? r).map (i :: ·)
  | _ :: _ => none
def strs? : List D → Option (List Str)
  | [] => some []
  | .str i :: r => (strs? r).map (i :: ·)
  | _ :: _ => none
def un (f : D → Option D) : List D → Option D
  | [x] => f x
  | _ => none
def bi (f : D → D → Option D) : List D → Option D
  | [x, y] => f x y
  | _ => none
def dLen : D → Option D
  | .str x => if fits x.length = true then some (.int x.length) else none
  | .lst _ xs => some (.int xs.length)
  | .tup xs => some (.int xs.length)
  | .dct _ kvs => some (.int kvs.length)
  | _ => none
def dInt : D → Option D
  | .int i => some (.int i)
  | .bl b => some (.int (if b then 1 else 0))
  | _ => none
def dStr : D → Option D
  | .int i => if decide (i.natAbs.log2 < 1920) = true then some (.str (toString i)) else none
  | _ => none
def dList : D → Option D
  | .lst _ xs => some (.lst true xs)
  | .tup xs => some (.lst true xs)
  | .dct _ kvs => some (.lst true (kvs.map (·.1)))
  | _ => none
def dTuple : D → Option D
  | .lst _ xs => some (.tup xs)
  | .tup xs => some (.tup xs)
  | _ => none
/-- sorting: items that are alike -/
def leD : D → D → Bool := PySem.W.dataLe false D.py
def tup1 : D → Bool
  | .tup (_ :: _) => true
  | _ => false
def notTN : D → Bool
  | .tup _ => false
  | .non => false
  | _ => true
def sortB (xs : List D) : Bool := (xs.all fun d => xs.all fun d' => PySem.W.alike d.py d'.py) && (xs.all tup1 || xs.all notTN) && xs.all fun d => d.py.canLay0 && decide (d.py.depth ≤ 50)
/-! each of some items once, in order -/
mutual
def D.pur : D → Bool
  | .int _ => true
  | .str _ => true
  | .tup xs => purL xs
  | _ => false
def purL : List D → Bool
  | [] => true
  | d :: ds => d.pur && purL ds
end
def dedD : List D → List D
  | [] => []
  | d :: ds => d :: (dedD ds).filter fun e => decide (e.nk ≠ d.nk)
def setTB (xs : List D) : Bool := sortB xs && (xs.all fun d => d.pur && tup1 d && (dKey d).isSome) && decide ((dedD xs).length ≤ 76)
def dSorted : D → Option D
  | .lst _ xs => if sortB xs = true then some (.lst true (xs.mergeSort leD)) else none
  | .dct _ kvs => if (sortB (kvs.map (·.1)) && (kvs.map (·.1)).all D.pur) = true then some (.lst true ((kvs.map (·.1)).mergeSort leD)) else none
  | _ => none
def dSSet : D → Option D
  | .lst _ xs => if setTB xs = true then some (.lst true ((dedD xs).mergeSort leD)) else none
  | _ => none
def dMax : D → D → Option D
  | .int i, .int j => some (.int (if j > i then j else i))
  | _, _ => none
def dMin : D → D → Option D
  | .int i, .int j => some (.int (if j < i then j else i))
  | _, _ => none
def dBlt (b : Blt) (ds : List D) : Option D := match b with
  | .len => un dLen ds
  | .int => un dInt ds
  | .str => un dStr ds
  | .list => un dList ds
  | .tuple => un dTuple ds
  | .max => bi dMax ds
  | .min => bi dMin ds
  | .sorted => un dSorted ds
  | .sortedSet => un dSSet ds
  | _ => none
def dJoin (s : Str) : D → Option D
  | .lst _ xs => match strs? xs with
    | some ys => if decide ((ys.map (·.length)).sum + ys.length * s.length ≤ 16777216) = true then some (.str (Txt.join s ys)) else none
    | none => none
  | _ => none
def dIndex (xs : List D) (x : D) : Option D := if shp x && shp (.lst false xs) then (xs.findIdx? fun z => PyData.eqv z.py x.py).map fun j => .int (j : Nat) else none
def dMth (m : Mth) (x : D) (ds : List D) : Option D := match m, x with
  | .index, .lst _ xs => un (dIndex xs) ds
  | .join, .str s => un (dJoin s) ds
  | .upper, .str s => match ds with
    | [] => if decide (s.length ≤ 5592405) = true then some (.str (Txt.upper s)) else none
    | _ => none
  | .get, .dct _ kvs => match ds with
    | [k] => (dKey k).map fun n => (dFind kvs n).getD .non
    | [k, d] => (dKey k).map fun n => (dFind kvs n).getD d
    | _ => none
  | _, _ => none

/-! ### the evaluator -/
abbrev Rho := List (Option D)
structure Sem0 where
  call : Str → List D → Option (D × List (Option D))
  glob : Str → Option D
def get0 (ρ : Rho) (i : Nat) : Option D := ρ[i]?.join
def frzAt (vs : List Nat) (ρ : Rho) : Rho := ρ.mapIdx fun i o => if i ∈ vs then o.map D.frz else o
def kill : List Nat → Rho → Rho
  | [], ρ => ρ
  | i :: r, ρ => (kill r ρ).set i none
/-- a value kept: where it holds frozen things, the names that it came of are frozen -/
def kept (vs : List Nat) (c : Bool) (ρ : Rho) : Rho := if c then ρ else frzAt vs ρ
def setAll : List Nat → List D → Rho → Rho
  | i :: is, x :: xs, ρ => setAll is xs (ρ.set i (some x))
  | _, _, ρ => ρ
def bindT : Tgt → D → Rho → Option Rho
  | .nm i, d, ρ => some (ρ.set i (some d))
  | .tp is, .tup xs, ρ => if xs.length = is.length then some (setAll is xs ρ) else none
  | .tp _, _, _ => none
def chk {α : Type} (b : Bool) (k : Option α) : Option α := if b = true then k else none
def two {α : Type} (a b : Rho → Option (D × Rho)) (pb : Bool) (f : D → D → Option α) (ρ : Rho) : Option (α × Rho) :=
  (a ρ).bind fun p => chk (pb || p.1.clean) ((b p.2).bind fun q => (f p.1.frz q.1.frz).map fun r => (r, q.2))
def many {α : Type} (a : Rho → Option (List D × Rho)) (f : List D → Option α) (ρ : Rho) : Option (α × Rho) :=
  (a ρ).bind fun p => (f (frzL p.1)).map fun r => (r, p.2)
def one {α : Type} (a : Rho → Option (D × Rho)) (f : D → Option α) (ρ : Rho) : Option (α × Rho) :=
  (a ρ).bind fun p => (f p.1.frz).map fun r => (r, p.2)
def meth {α : Type} (a : Rho → Option (D × Rho)) (b : Rho → Option (List D × Rho)) (pb : Bool) (f : D → List D → Option α) (ρ : Rho) : Option (α × Rho) :=
  (a ρ).bind fun p => chk (pb || p.1.clean) ((b p.2).bind fun q => (f p.1.frz (frzL q.1)).map fun r => (r, q.2))
def three (a b c : Rho → Option (D × Rho)) (pb : Bool) (f g : D → D → Option Bool) (ρ : Rho) : Option (Bool × Rho) :=
  (a ρ).bind fun p => chk pb ((b p.2).bind fun q => (f p.1.frz q.1.frz).bind fun t =>
    if t = true then (c q.2).bind fun r => (g q.1.frz r.1.frz).map fun u => (u, r.2) else some (false, q.2))
def rangeD (lo hi st : Int) : Option (List D) :=
  if -(2 ^ 62) ≤ lo ∧ lo < 2 ^ 62 ∧ -(2 ^ 62) ≤ hi ∧ hi < 2 ^ 62 ∧ 0 < st ∧ st < 2 ^ 29 then
    some ((List.range ((hi - lo + st - 1) / st).toNat).map fun (k : Nat) => D.int (lo + k * st))
  else none
def rangeDs : List D → Option (List D)
  | [.int b] => rangeD 0 b 1
  | [.int a, .int b] => rangeD a b 1
  | [.int a, .int b, .int c] => rangeD a b c
  | _ => none
def walked : D → Option (List D)
  | .lst _ xs => some xs
  | .tup xs => some xs
  | .str z => some (z.cps.toList.map fun c => .str ⟨#[c]⟩)
  | _ => none
def lItems : D → Option (List D)
  | .lst _ xs => some xs
  | _ => none
def enumD (d : D) : Option (List D) := (dItems d).map fun ds => ds.mapIdx fun i x => .tup [.int i, x]
def zipD (x y : D) : Option (List D) := (lItems x).bind fun a => (lItems y).map fun b => (a.zip b).map fun p => .tup [p.1, p.2]
def revD (d : D) : Option (List D) := (dItems d).map List.reverse
def compL (tg : Tgt) (cond : Rho → Option (Bool × Rho)) (elt : Rho → Option (D × Rho)) (pur : Bool) : List D → Rho → Option (List D × Rho)
  | [], ρ => some ([], ρ)
  | d :: ds, ρ => (bindT tg d ρ).bind fun ρ1 => (cond ρ1).bind fun t =>
    if t.1 = true then (elt t.2).bind fun x => chk (pur || x.1.clean) ((compL tg cond elt pur ds (kill tg.slots x.2)).map fun r => (x.1 :: r.1, r.2))
    else compL tg cond elt pur ds (kill tg.slots t.2)
def Exs.toList : Exs → List Ex
  | .nil => []
  | .cons e r => e :: r.toList
def Ex.isVar (i : Nat) : Ex → Bool
  | .var j => i == j
  | _ => false
/-- the arguments, those that are handed on to be changed as the slots have them -/
def ioArgs (io : List (Nat × Nat)) (ρ : Rho) : Nat → List D → Option (List D)
  | _, [] => some []
  | p, d :: ds => (match io.lookup p with
      | some i => get0 ρ i
      | none => some d.frz).bind fun d' => (ioArgs io ρ (p + 1) ds).map fun r => d' :: r
def ioSlot (io : List (Nat × Nat)) (j : Nat) : Bool := io.any fun q => q.2 == j
def ioOk (io : List (Nat × Nat)) : Nat → List Ex → List D → Bool
  | p, e :: es, d :: ds => ((io.lookup p).isSome || d.clean || e.vars.all fun j => !ioSlot io j) && ioOk io (p + 1) es ds
  | _, [], [] => true
  | _, _, _ => false
def ioOut (outs : List (Option D)) : List (Nat × Nat) → Rho → Option Rho
  | [], ρ => some ρ
  | (p, i) :: r, ρ => (get0 outs p).bind fun d => ioOut outs r (ρ.set i (some d))
def ioV (io : List (Nat × Nat)) (es : Exs) : List Nat := es.vars.filter fun j => !ioSlot io j
def ioClean (outs : List (Option D)) : List (Nat × Nat) → Bool
  | [] => true
  | (p, _) :: r => (match get0 outs p with | some d => d.clean | none => true) && ioClean outs r
def callIO (S : Sem0) (f : Str) (es : Exs) (io : List (Nat × Nat)) (ds : List D) (ρ : Rho) : Option (D × Rho) :=
  chk (ioOk io 0 es.toList ds) ((ioArgs io ρ 0 ds).bind fun args => (S.call f args).bind fun r => (ioOut r.2 io (kept (ioV io es) (ioClean r.2 io) ρ)).map fun ρ' => (r.1, ρ'))
/-- a dict of keys and values in turn -/
def mkD : List D → List (D × D) → Option (List (D × D))
  | [], kvs => some kvs
  | k :: v :: r, kvs => match dKey k with
    | some _ => chk (fits (kvs.length + 1)) (mkD r (dSet k v kvs))
    | none => none
  | _, _ => none
def popD (i : Nat) (ρ : Rho) : Option (D × Rho) := match get0 ρ i with
  | some (.lst true xs) => xs.getLast?.map fun d => (d, ρ.set i (some (.lst true xs.dropLast)))
  | _ => none
def isLst (ρ : Rho) (i : Nat) : Bool := match get0 ρ i with
  | some (.lst true _) => true
  | _ => false
def popAtD (i : Nat) (k : D) (ρ : Rho) : Option (D × Rho) := match get0 ρ i, k with
  | some (.lst true xs), .int z => chk (decide (-(2 ^ 63) ≤ z ∧ z < 2 ^ 63)) ((seqIndex? z xs.length).bind fun j => xs[j]?.map fun d => (d, ρ.set i (some (.lst true (xs.eraseIdx j)))))
  | _, _ => none
def dNeg : D → Option D
  | .int i => some (.int (-i))
  | _ => none
def dBool : D → Option Bool
  | .bl b => some b
  | _ => none
def Exs.isNil : Exs → Bool
  | .nil => true
  | _ => false
def dInt? : D → Option (Option Int)
  | .int i => some (some i)
  | _ => none
def tru (r : D × Rho) : Option (Bool × Rho) := (dTruth r.1.frz).map fun t => (t, r.2)
mutual
def evE (S : Sem0) : Ex → Rho → Option (D × Rho)
  | .var i, ρ => (get0 ρ i).map fun d => (d.frz, ρ)
  | .mov i, ρ => (get0 ρ i).map fun d => (d, ρ.set i none)
  | .con d, ρ => some (d, ρ)
  | .glo x, ρ => (S.glob x).map fun d => (d, ρ)
  | .bin o a b, ρ => two (evE S a) (evE S b) b.pure (dBin o) ρ
  | .cmp o a b, ρ => two (evE S a) (evE S b) b.pure (fun x y => (dCmp o x y).map D.bl) ρ
  | .cmp2 o p a b c, ρ => (three (evE S a) (evE S b) (evE S c) (b.pure && c.pure) (dCmp o) (dCmp p) ρ).map fun r => (.bl r.1, r.2)
  | .neg a, ρ => one (evE S a) dNeg ρ
  | .not a, ρ => one (evE S a) (fun d => (dTruth d).map fun t => .bl (!t)) ρ
  | .and es, ρ => evAndE S es ρ
  | .or es, ρ => evOrE S es ρ
  | .ife c a b, ρ => (evT S c ρ).bind fun r => if r.1 = true then evE S a r.2 else evE S b r.2
  | .sub a b, ρ => two (evE S a) (evE S b) b.pure dSub ρ
  | .slc a lo hi, ρ => (evE S a ρ).bind fun p => chk ((lo.pure && hi.pure) || p.1.clean) ((evO S lo p.2).bind fun l => (evO S hi l.2).bind fun h => (dCut l.1 h.1 p.1.frz).map fun d => (d, h.2))
  | .tup es, ρ => (evEs S es ρ).bind fun p => chk (fits p.1.length) (some (.tup p.1, p.2))
  | .lst es, ρ => (evEs S es ρ).bind fun p => chk (fits p.1.length) (some (.lst true p.1, p.2))
  | .dct es, ρ => (evEs S es ρ).bind fun p => (mkD p.1 []).map fun kvs => (.dct true kvs, p.2)
  | .call f es, ρ => many (evEs S es) (fun ds => (S.call f ds).map (·.1)) ρ
  | .callIO f es io, ρ => (evEs S es ρ).bind fun p => callIO S f es io p.1 p.2
  | .blt b es, ρ => many (evEs S es) (dBlt b) ρ
  | .mth m a es, ρ => meth (evE S a) (evEs S es) es.pure (dMth m) ρ
  | .isi a t, ρ => one (evE S a) (fun d => some (.bl (dIsi t d))) ρ
  | .comp e tg it c, ρ => (evI S it ρ).bind fun p => chk ((e.pure && c.pure) || p.2.1)
      ((compL tg (evC S c) (evE S e) (e.pure && c.pure) p.1 (kill tg.slots (kept it.vars p.2.1 p.2.2))).bind fun r => chk (fits p.1.length) (some (.lst true r.1, if (e.pure && c.pure) = true then p.2.2 else r.2)))
  | .pop i, ρ => popD i ρ
  | .popAt i k, ρ => chk (isLst ρ i) ((evE S k ρ).bind fun q => popAtD i q.1 q.2)
  | .stuck, _ => none
/-- as a test -/
def evT (S : Sem0) : Ex → Rho → Option (Bool × Rho)
  | .not a, ρ => (evT S a ρ).map fun r => (!r.1, r.2)
  | .and es, ρ => evAnd S es ρ
  | .or es, ρ => evOr S es ρ
  | .cmp o a b, ρ => two (evE S a) (evE S b) b.pure (dCmp o) ρ
  | .cmp2 o p a b c, ρ => three (evE S a) (evE S b) (evE S c) (b.pure && c.pure) (dCmp o) (dCmp p) ρ
  | .var i, ρ => ((get0 ρ i).map fun d => (d.frz, ρ)).bind tru
  | .con d, ρ => (some (d, ρ)).bind tru
  | .glo x, ρ => ((S.glob x).map fun d => (d, ρ)).bind tru
  | .bin o a b, ρ => (two (evE S a) (evE S b) b.pure (dBin o) ρ).bind tru
  | .sub a b, ρ => (two (evE S a) (evE S b) b.pure dSub ρ).bind tru
  | .call f es, ρ => (many (evEs S es) (fun ds => (S.call f ds).map (·.1)) ρ).bind tru
  | .blt b es, ρ => (many (evEs S es) (dBlt b) ρ).bind tru
  | .mth m a es, ρ => (meth (evE S a) (evEs S es) es.pure (dMth m) ρ).bind tru
  | .isi a t, ρ => (one (evE S a) (fun d => some (.bl (dIsi t d))) ρ).bind tru
  | .callIO f es io, ρ => ((evEs S es ρ).bind fun p => callIO S f es io p.1 p.2).bind tru
  | _, _ => none
def evAnd (S : Sem0) : Exs → Rho → Option (Bool × Rho)
  | .nil, _ => none
  | .cons e es, ρ => (evT S e ρ).bind fun r => if es.isNil = true then some r else if r.1 = true then evAnd S es r.2 else some (false, r.2)
def evOr (S : Sem0) : Exs → Rho → Option (Bool × Rho)
  | .nil, _ => none
  | .cons e es, ρ => (evT S e ρ).bind fun r => if es.isNil = true then some r else if r.1 = true then some (true, r.2) else evOr S es r.2
def evAndE (S : Sem0) : Exs → Rho → Option (D × Rho)
  | .nil, _ => none
  | .cons e es, ρ => if es.isNil = true then evE S e ρ else (evE S e ρ).bind fun r => (dBool r.1).bind fun b => if b = true then evAndE S es r.2 else some (.bl false, r.2)
def evOrE (S : Sem0) : Exs → Rho → Option (D × Rho)
  | .nil, _ => none
  | .cons e es, ρ => if es.isNil = true then evE S e ρ else (evE S e ρ).bind fun r => (dBool r.1).bind fun b => if b = true then some (.bl true, r.2) else evOrE S es r.2
def evEs (S : Sem0) : Exs → Rho → Option (List D × Rho)
  | .nil, ρ => some ([], ρ)
  | .cons e es, ρ => (evE S e ρ).bind fun p => chk (es.pure || p.1.clean) ((evEs S es p.2).map fun q => (p.1 :: q.1, q.2))
/-- a slice's bound -/
def evO (S : Sem0) : Ox → Rho → Option (Option Int × Rho)
  | .none, ρ => some (none, ρ)
  | .some e, ρ => one (evE S e) dInt? ρ
def evC (S : Sem0) : Ox → Rho → Option (Bool × Rho)
  | .none, ρ => some (true, ρ)
  | .some e, ρ => evT S e ρ
/-- the items that are walked, frozen; whether they are nobody else's; the names -/
def evI (S : Sem0) : Itr → Rho → Option (List D × Bool × Rho)
  | .of e, ρ => (evE S e ρ).bind fun p => (walked p.1.frz).map fun ds => (ds, p.1.clean, p.2)
  | .range es, ρ => (evEs S es ρ).bind fun p => (rangeDs p.1).map fun ds => (ds, true, p.2)
  | .enum e, ρ => (evE S e ρ).bind fun p => (enumD p.1.frz).map fun ds => (ds, p.1.clean, p.2)
  | .zip a b, ρ => (evE S a ρ).bind fun p => chk (b.pure || p.1.clean) ((evE S b p.2).bind fun q => (zipD p.1.frz q.1.frz).map fun ds => (ds, p.1.clean && q.1.clean, q.2))
  | .rev e, ρ => (evE S e ρ).bind fun p => (revD p.1.frz).map fun ds => (ds, p.1.clean, p.2)
  | .revRange es, ρ => (evEs S es ρ).bind fun p => (rangeDs p.1).map fun ds => (ds.reverse, true, p.2)
end

/-- the keys on a way within, the last one first -/
def evP (S : Sem0) : Exs → Rho → Option (List D)
  | .nil, _ => some []
  | .cons e r, ρ => (evP S r ρ).bind fun ks => (evE S e ρ).map fun q => q.1.frz :: ks

/-! ### statements -/
inductive Out where
  | nx (ρ : Rho) | rt (d : D) (ρ : Rho) | bk (ρ : Rho) | ct (ρ : Rho)
def loopL (tg : Tgt) (body : Rho → Option Out) : List D → Rho → Option Out
  | [], ρ => some (.nx ρ)
  | d :: ds, ρ => (bindT tg d ρ).bind fun ρ1 => (body ρ1).bind fun o => match o with
    | .nx ρ2 => loopL tg body ds ρ2
    | .ct ρ2 => loopL tg body ds ρ2
    | .bk ρ2 => some (.nx ρ2)
    | .rt d ρ2 => some (.rt d ρ2)
def whileN (c : Rho → Option (Bool × Rho)) (body : Rho → Option Out) : Nat → Rho → Option Out
  | 0, _ => none
  | n + 1, ρ => (c ρ).bind fun t => if t.1 = true then (body t.2).bind fun o => match o with
      | .nx ρ2 => whileN c body n ρ2
      | .ct ρ2 => whileN c body n ρ2
      | .bk ρ2 => some (.nx ρ2)
      | .rt d ρ2 => some (.rt d ρ2)
    else some (.nx t.2)
/-- a list's item, a dict's entry changed -/
def dPut (k v : D) : D → Option D
  | .lst true xs => match k with
    | .int i => (ixN xs.length i).map fun j => .lst true (xs.set j v)
    | _ => none
  | .dct true kvs => match dKey k with
    | some _ => chk (fits (kvs.length + 1)) (some (.dct true (dSet k v kvs)))
    | none => none
  | _ => none
/-- a thing within, by keys from the inmost outwards -/
def sub1 (k : D) : D → Option D
  | .lst true xs => match k with | .int i => atI xs i | _ => none
  | .tup xs => match k with | .int i => atI xs i | _ => none
  | .dct true kvs => (dKey k).bind (dFind kvs)
  | _ => none
def rep1 (k x : D) : D → Option D
  | .lst true xs => match k with | .int i => (ixN xs.length i).map fun j => .lst true (xs.set j x) | _ => none
  | .tup xs => match k with | .int i => (ixN xs.length i).map fun j => .tup (xs.set j x) | _ => none
  | .dct true kvs => (dKey k).map fun _ => .dct true (dSet k x kvs)
  | _ => none
def getP : List D → D → Option D
  | [], d => some d
  | k :: r, d => (getP r d).bind (sub1 k)
def putP : List D → D → D → Option D
  | [], x, _ => some x
  | k :: r, x, d => (getP r d).bind fun c => (rep1 k x c).bind fun c' => putP r c' d
def app1 (v : D) : D → Option D
  | .lst true xs => chk (fits (xs.length + 1)) (some (.lst true (xs ++ [v])))
  | _ => none
def deepD (i : Nat) (ks : List D) (f : D → Option D) (ρ : Rho) : Option Rho := (get0 ρ i).bind fun d => (getP ks d).bind fun c => (f c).bind fun c' => (putP ks c' d).map fun d' => ρ.set i (some d')
def putD (i : Nat) (k v : D) (ρ : Rho) : Option Rho := (get0 ρ i).bind fun d => (dPut k v d).map fun d' => ρ.set i (some d')
def appD (i : Nat) (v : D) (ρ : Rho) : Option Rho := match get0 ρ i with
  | some (.lst true xs) => chk (fits (xs.length + 1)) (some (ρ.set i (some (.lst true (xs ++ [v])))))
  | _ => none
def extD (i : Nat) (v : D) (ρ : Rho) : Option Rho := match get0 ρ i with
  | some (.lst true xs) => (dItems v).bind fun ys => chk (fits (xs.length + ys.length)) (some (ρ.set i (some (.lst true (xs ++ ys)))))
  | _ => none
def mapO (f : D → Option D) : List D → Option (List D)
  | [] => some []
  | d :: ds => (f d).bind fun x => (mapO f ds).map fun r => x :: r
/-- for j in i: j.append(d) -/
def eachD (i j : Nat) (d : D) (ρ : Rho) : Option Rho := match get0 ρ i with
  | some (.lst true xs) => chk (decide (j < ρ.length)) ((mapO (app1 d) xs).map fun ys => (ρ.set i (some (.lst true ys))).set j none)
  | _ => none
mutual
def evS (S : Sem0) (W : (Rho → Option (Bool × Rho)) → (Rho → Option Out) → Rho → Option Out) : St → Rho → Option Out
  | .set i e, ρ => (evE S e ρ).map fun p => .nx ((kept e.vars p.1.clean p.2).set i (some p.1))
  | .unp is e, ρ => (evE S e ρ).bind fun p => (bindT (.tp is) p.1 (kept e.vars p.1.clean p.2)).map .nx
  | .drop e, ρ => (evE S e ρ).map fun p => .nx p.2
  | .put i k e, ρ => (evE S e ρ).bind fun p => chk k.pure ((evE S k p.2).bind fun q => (putD i q.1.frz p.1 (kept e.vars p.1.clean p.2)).map .nx)
  | .augPut _ _ _ _, _ => none
  | .app i e, ρ => chk (isLst ρ i) ((evE S e ρ).bind fun p => (appD i p.1 (kept e.vars p.1.clean p.2)).map .nx)
  | .ext i e, ρ => chk (isLst ρ i) ((evE S e ρ).bind fun p => (extD i p.1.frz (kept e.vars p.1.clean p.2)).map .nx)
  | .ret e, ρ => (evE S e ρ).map fun p => .rt p.1 (kept e.vars p.1.clean p.2)
  | .retN, ρ => some (.rt .non ρ)
  | .ife c a b, ρ => (evT S c ρ).bind fun r => if r.1 = true then evSs S W a r.2 else evSs S W b r.2
  | .whl c b, ρ => W (evT S c) (evSs S W b) ρ
  | .loop t it b, ρ => (evI S it ρ).bind fun p => loopL t (evSs S W b) p.1 (kept it.vars p.2.1 p.2.2)
  | .putAt i p k e, ρ => (evE S e ρ).bind fun r => (evP S p (kept e.vars r.1.clean r.2)).bind fun ks => (evE S k (kept e.vars r.1.clean r.2)).bind fun q => (deepD i ks (dPut q.1.frz r.1) (kept e.vars r.1.clean r.2)).map .nx
  | .appAt i p e, ρ => (evP S p ρ).bind fun ks => (evE S e ρ).bind fun r => chk (r.1.clean || !decide (i ∈ e.vars)) ((deepD i ks (app1 r.1) (kept e.vars r.1.clean ρ)).map .nx)
  | .each i j d, ρ => (eachD i j d ρ).map .nx
  | .stuck, _ => none
  | .brk, ρ => some (.bk ρ)
  | .cnt, ρ => some (.ct ρ)
  | .pass, ρ => some (.nx ρ)
def evSs (S : Sem0) (W : (Rho → Option (Bool × Rho)) → (Rho → Option Out) → Rho → Option Out) : Sts → Rho → Option Out
  | .nil, ρ => some (.nx ρ)
  | .cons s r, ρ => (evS S W s ρ).bind fun o => match o with
    | .nx ρ1 => evSs S W r ρ1
    | o => some o
end
end Eng
namespace Eng
open PySem PySem.Spec PyProof.Rows L2

/-! ### the environment's slots and what they hold -/
abbrev Foot := Nat → List Addr
def Fz (M : Addr → Prop) (F : Foot) (a : Addr) : Prop := ¬ M a ∧ ∀ j, a ∉ F j
def Al (M : Addr → Prop) (T : List Addr) (F : Foot) (V : List Nat) (a : Addr) : Prop := ¬ M a ∧ a ∉ T ∧ ∀ j, j ∉ V → a ∉ F j
structure Rep (K : PySem.W.Frag) (w : World) (H : Hp) (M : Addr → Prop) (ρ : Rho) (σ : L2.St) (F : Foot) : Prop where
  len : ρ.length = σ.length
  den : ∀ i d, get0 ρ i = some d → ∃ v, σ[i]? = some (some v) ∧ Dn K w H (Fz M F) v d (F i)
  un : ∀ i, get0 ρ i = none → F i = []
  nd : ∀ i, (F i).Nodup
  dis : ∀ i j a, a ∈ F i → a ∈ F j → i = j
  hM : ∀ i a, a ∈ F i → ¬ M a
  dom : ∀ a, M a → H a ≠ none
structure Aft (K : PySem.W.Frag) (w : World) (M : Addr → Prop) (H : Hp) (F : Foot) (ρ : Rho) (p : Bool) (σ : L2.St) (H' : Hp) (ρ' : Rho) (F' : Foot) (T : List Addr) : Prop where
  rep : Rep K w H' (fun a => M a ∨ a ∈ T) ρ' σ F'
  keep : ∀ b o, H b = some o → (∀ i, b ∉ F i) → H' b = some o
  fresh : ∀ a, (a ∈ T ∨ ∃ i, a ∈ F' i) → (∃ i, a ∈ F i) ∨ H a = none
  nd : T.Nodup
  tM : ∀ a ∈ T, ¬ M a
  pur : p = true → ρ' = ρ ∧ F' = F ∧ Same H H' ∧ ∀ a ∈ T, H a = none
section
variable {K : PySem.W.Frag} {w : World} {H H' H1 H2 : Hp} {M M' : Addr → Prop} {ρ ρ' ρ1 ρ2 : Rho} {σ : L2.St} {F F' F1 F2 : Foot} {T T1 T2 : List Addr} {p p1 p2 : Bool} {Vx V1 V2 : List Nat}
theorem nno {α : Type} {a : α} {P : Prop} (z : a ∈ ([] : List α)) : P := by cases z
theorem some_ne {α : Type} {o : Option α} {x : α} (h : o = some x) : o ≠ none := by rw [h]; exact fun e => (by cases e)
theorem ne_some {α : Type} {o : Option α} (h : o ≠ none) : ∃ x, o = some x := by
  cases o with
  | none => exact absurd rfl h
  | some x => exact ⟨x, rfl⟩
theorem Rep.there (R : Rep K w H M ρ σ F) {i : Nat} {a : Addr} (h : a ∈ F i) : (∃ vs, H a = some (.lst vs)) ∨ ∃ o, H a = some (rawO a o) := by
  cases e : get0 ρ i with
  | none => rw [R.un i e] at h; cases h
  | some d =>
    obtain ⟨v, _, hd⟩ := R.den i d e
    exact hd.there a h
theorem Rep.thereN (R : Rep K w H M ρ σ F) {i : Nat} {a : Addr} (h : a ∈ F i) : H a ≠ none := by
  rcases R.there h with ⟨_, e⟩ | ⟨_, e⟩ <;> exact some_ne e
theorem Rep.notup (R : Rep K w H M ρ σ F) {b : Addr} {xs : List V} (h : Rd H b (.tup xs)) (i : Nat) : b ∉ F i := fun hb => by
  rcases R.there hb with ⟨_, e⟩ | ⟨_, e⟩ <;> rcases h with h | ⟨o, h⟩ <;> (rw [e] at h; cases h)
theorem Dn.noown {v : V} {d : D} {S : List Addr} {Fy : Addr → Prop} (h : Dn K w H Fy v d S) {b : Addr} {xs : List V} (hb : Rd H b (.tup xs)) : b ∉ S := fun hs => by
  rcases h.there b hs with ⟨_, e⟩ | ⟨_, e⟩ <;> rcases hb with h | ⟨o, h⟩ <;> (rw [e] at h; cases h)
/-- less is untouchable -/
theorem Rep.weak (R : Rep K w H M ρ σ F) (h : ∀ a, M' a → M a) : Rep K w H M' ρ σ F :=
  ⟨R.len, fun i d e => let ⟨v, e1, hd⟩ := R.den i d e; ⟨v, e1, hd.keyFz fun a ha => ⟨fun m => ha.1 (h a m), ha.2⟩⟩, R.un, R.nd, R.dis, fun i a ha m => R.hM i a ha (h a m), fun a m => R.dom a (h a m)⟩
/-- the heap grows, new things are untouchable -/
theorem Rep.grow (R : Rep K w H M ρ σ F) (s : Same H H') (hT : ∀ a ∈ T, H a = none) (hD : ∀ a ∈ T, H' a ≠ none) : Rep K w H' (fun a => M a ∨ a ∈ T) ρ σ F := by
  refine ⟨R.len, fun i d e => ?_, R.un, R.nd, R.dis, fun i a ha m => ?_, fun a m => ?_⟩
  · obtain ⟨v, e1, hd⟩ := R.den i d e
    refine ⟨v, e1, hd.carry ⟨fun b xs h => ?_, fun b o h f => ⟨s _ _ h, fun m => ?_, f.2⟩, fun b o h _ => s _ _ h⟩⟩
    · rcases h with h | ⟨o, h⟩
      · exact .inl (s _ _ h)
      · exact .inr ⟨o, s _ _ h⟩
    · rcases m with m | m
      · exact f.1 m
      · rw [hT b m] at h; cases h
  · rcases m with m | m
    · exact R.hM i a ha m
    · exact R.thereN ha (hT a m)
  · rcases m with m | m
    · obtain ⟨o, e⟩ := ne_some (R.dom a m)
      exact some_ne (s _ _ e)
    · exact hD a m
theorem Aft.refl (R : Rep K w H M ρ σ F) : Aft K w M H F ρ p σ H ρ F [] :=
  ⟨R.weak fun a h => h.elim id nno, fun _ _ h _ => h, fun a h => h.elim (nno) .inl, List.nodup_nil, fun _ => nno, fun _ => ⟨rfl, rfl, Same.refl _, fun _ => nno⟩⟩
theorem Aft.back (A : Aft K w M H F ρ p σ H1 ρ1 F1 T1) {a : Addr} (h : H1 a = none) : (∃ i, a ∈ F i) ∨ H a = none := by
  cases e : H a with
  | none => exact .inr rfl
  | some o =>
    by_cases hf : ∃ i, a ∈ F i
    · exact .inl hf
    · rw [A.keep a o e fun i hi => hf ⟨i, hi⟩] at h; cases h
theorem Aft.notF1 (A : Aft K w M H F ρ p σ H1 ρ1 F1 T1) {b : Addr} {o : HO} (h : H b = some o) (hf : ∀ i, b ∉ F i) (i : Nat) : b ∉ F1 i := fun hb => by
  rcases A.fresh b (.inr ⟨i, hb⟩) with ⟨j, hj⟩ | e
  · exact hf j hj
  · rw [h] at e; cases e
theorem Aft.trans (A : Aft K w M H F ρ p1 σ H1 ρ1 F1 T1) (B : Aft K w (fun a => M a ∨ a ∈ T1) H1 F1 ρ1 p2 σ H2 ρ2 F2 T2) : Aft K w M H F ρ (p1 && p2) σ H2 ρ2 F2 (T1 ++ T2) := by
  refine ⟨B.rep.weak fun a h => ?_, fun b o h hf => B.keep b o (A.keep b o h hf) (A.notF1 h hf), fun a h => ?_, ?_, fun a h => ?_, fun h => ?_⟩
  · rcases h with h | h
    · exact .inl (.inl h)
    · exact (List.mem_append.mp h).elim (fun z => .inl (.inr z)) .inr
  · have two : (a ∈ T2 ∨ ∃ i, a ∈ F2 i) → (∃ i, a ∈ F i) ∨ H a = none := fun h => by
      rcases B.fresh a h with ⟨i, hi⟩ | e
      · exact A.fresh a (.inr ⟨i, hi⟩)
      · exact A.back e
    rcases h with h | h
    · rcases List.mem_append.mp h with h | h
      · exact A.fresh a (.inl h)
      · exact two (.inl h)
    · exact two (.inr h)
  · refine List.nodup_append.mpr ⟨A.nd, B.nd, fun a h1 b h2 e => ?_⟩
    subst e
    exact B.tM a h2 (.inr h1)
  · rcases List.mem_append.mp h with h | h
    · exact A.tM a h
    · exact fun m => B.tM a h (.inl m)
  · simp only [Bool.and_eq_true] at h
    obtain ⟨e1, e2, s1, n1⟩ := A.pur h.1
    obtain ⟨e3, e4, s2, n2⟩ := B.pur h.2
    refine ⟨e3.trans e1, e4.trans e2, s1.trans s2, fun a ha => ?_⟩
    rcases List.mem_append.mp ha with ha | ha
    · exact n1 a ha
    · exact s1.free (n2 a ha)
/-- a value in hand while more is reckoned -/
theorem Dn.hand {v : V} {d : D} (A : Aft K w M H F ρ p1 σ H1 ρ1 F1 T1) (B : Aft K w (fun a => M a ∨ a ∈ T1) H1 F1 ρ1 p2 σ H2 ρ2 F2 T2) {S : List Addr} (hS : ∀ a ∈ S, a ∈ T1) (h : Dn K w H1 (Al M T1 F1 V1) v d S)
    (c : p2 = true ∨ d.clean = true) : Dn K w H2 (Al M (T1 ++ T2) F2 (V1 ++ V2)) v d S := by
  have hown : ∀ b o, H1 b = some o → b ∈ S → H2 b = some o := fun b o e hb => B.keep b o e fun i hi => A.rep.hM i b hi (.inr (hS b hb))
  rcases c with c | c
  · obtain ⟨_, e4, s2, n2⟩ := B.pur c
    subst e4
    refine h.carry ⟨fun b xs q => ?_, fun b o q f => ⟨s2 _ _ q, f.1, fun m => ?_, fun j hj => f.2.2 j fun z => hj (List.mem_append_left _ z)⟩, hown⟩
    · rcases q with q | ⟨o, q⟩
      · exact .inl (s2 _ _ q)
      · exact .inr ⟨o, s2 _ _ q⟩
    · rcases List.mem_append.mp m with m | m
      · exact f.2.1 m
      · rw [n2 b m] at q; cases q
  · refine (h.clean (Fz' := fun _ => False) c).carry ⟨fun b xs q => ?_, fun _ _ _ f => f.elim, hown⟩
    rcases q with q | ⟨o, q⟩
    · exact .inl (B.keep _ _ q (A.rep.notup (.inl q)))
    · exact .inr ⟨o, B.keep _ _ q (A.rep.notup (.inr ⟨o, q⟩))⟩
theorem DnL.hand {vs : List V} {ds : List D} (A : Aft K w M H F ρ p1 σ H1 ρ1 F1 T1) (B : Aft K w (fun a => M a ∨ a ∈ T1) H1 F1 ρ1 p2 σ H2 ρ2 F2 T2) : ∀ {vs : List V} {ds : List D} {S : List Addr}, (∀ a ∈ S, a ∈ T1) → DnL K w H1 (Al M T1 F1 V1) vs ds S →
    (p2 = true ∨ cleanL ds = true) → DnL K w H2 (Al M (T1 ++ T2) F2 (V1 ++ V2)) vs ds S
  | _, _, _, _, .nil, _ => .nil
  | _, _, _, hS, .cons h r, c => by
    refine .cons (h.hand A B (fun a ha => hS a (List.mem_append_left _ ha)) (c.imp id fun c => ?_)) (DnL.hand (vs := vs) (ds := ds) A B (fun a ha => hS a (List.mem_append_right _ ha)) r (c.imp id fun c => ?_))
    · simp only [cleanL, Bool.and_eq_true] at c; exact c.1
    · simp only [cleanL, Bool.and_eq_true] at c; exact c.2
theorem Dn.hand2 {v : V} {d : D} {S : List Addr} (h : Dn K w H2 (Al (fun a => M a ∨ a ∈ T1) T2 F2 V2) v d S) : Dn K w H2 (Al M (T1 ++ T2) F2 (V1 ++ V2)) v d S :=
  h.keyFz fun a f => ⟨fun m => f.1 (.inl m), fun m => (List.mem_append.mp m).elim (fun z => f.1 (.inr z)) f.2.1, fun j hj => f.2.2 j fun z => hj (List.mem_append_right _ z)⟩
theorem DnL.hand2 {v : List V} {d : List D} {S : List Addr} (h : DnL K w H2 (Al (fun a => M a ∨ a ∈ T1) T2 F2 V2) v d S) : DnL K w H2 (Al M (T1 ++ T2) F2 (V1 ++ V2)) v d S :=
  h.keyFz fun a f => ⟨fun m => f.1 (.inl m), fun m => (List.mem_append.mp m).elim (fun z => f.1 (.inr z)) f.2.1, fun j hj => f.2.2 j fun z => hj (List.mem_append_right _ z)⟩
/-- what was in hand is let go -/
theorem Aft.drop (A : Aft K w M H F ρ p σ H1 ρ1 F1 T1) : Aft K w M H F ρ p σ H1 ρ1 F1 [] :=
  ⟨A.rep.weak fun a h => h.elim .inl nno, A.keep, fun a h => A.fresh a (h.imp (nno) id), List.nodup_nil, fun _ => nno, fun h => let ⟨a, b, c, _⟩ := A.pur h; ⟨a, b, c, fun _ => nno⟩⟩
theorem Aft.letgo (A : Aft K w M H F ρ p σ H1 ρ1 F1 T1) {v : V} {d : D} {S : List Addr} (hS : ∀ a ∈ S, a ∈ T1) (h : Dn K w H1 (Al M T1 F1 Vx) v d S) : Dn K w H1 (Al M [] F1 Vx) v d.frz [] :=
  h.frz (fun a f => ⟨f.1, nno, f.2.2⟩) fun a ha => ⟨A.tM a (hS a ha), nno, fun j _ hj => A.rep.hM j a hj (.inr (hS a ha))⟩
theorem Aft.letgoL (A : Aft K w M H F ρ p σ H1 ρ1 F1 T1) {v : List V} {d : List D} {S : List Addr} (hS : ∀ a ∈ S, a ∈ T1) (h : DnL K w H1 (Al M T1 F1 Vx) v d S) : DnL K w H1 (Al M [] F1 Vx) v (frzL d) [] :=
  h.frz (fun a f => ⟨f.1, nno, f.2.2⟩) fun a ha => ⟨A.tM a (hS a ha), nno, fun j _ hj => A.rep.hM j a hj (.inr (hS a ha))⟩
/-- an operation behind it: the heap grows by T -/
theorem Aft.op (A : Aft K w M H F ρ p σ H1 ρ1 F1 []) (s : Same H1 H2) (nd : T.Nodup) (hT : ∀ a ∈ T, H1 a = none) (hD : ∀ a ∈ T, H2 a ≠ none) : Aft K w M H F ρ p σ H2 ρ1 F1 T := by
  have R : Rep K w H1 M ρ1 σ F1 := A.rep.weak fun a h => .inl h
  refine ⟨R.grow s hT hD, fun b o e h => s _ _ (A.keep b o e h), fun a h => ?_, nd, fun a ha m => R.dom a m (hT a ha), fun h => ?_⟩
  · rcases h with h | h
    · exact A.back (hT a h)
    · exact A.fresh a (.inr h)
  · obtain ⟨e1, e2, s1, _⟩ := A.pur h
    exact ⟨e1, e2, s1.trans s, fun a ha => s1.free (hT a ha)⟩
end

/-! ### what an evaluation is worth -/
section
variable (K : PySem.W.Frag) (w : World)
def SF (ev : Rho → Option (D × Rho)) (p : Bool) (Vx : List Nat) (t : TE) : Prop :=
  ∀ (ρ : Rho) (σ : L2.St) (H : Hp) (F : Foot) (M : Addr → Prop) (d : D) (ρ' : Rho) (Q : VK), Rep K w H M ρ σ F → ev ρ = some (d, ρ') →
    (∀ v H' F' T, Aft K w M H F ρ p σ H' ρ' F' T → Dn K w H' (Al M T F' Vx) v d T → Q v H') → t σ H Q
def SFT (ev : Rho → Option (Bool × Rho)) (p : Bool) (t : TT) : Prop :=
  ∀ (ρ : Rho) (σ : L2.St) (H : Hp) (F : Foot) (M : Addr → Prop) (b : Bool) (ρ' : Rho) (Q : Bool → Hp → Prop), Rep K w H M ρ σ F → ev ρ = some (b, ρ') →
    (∀ H' F', Aft K w M H F ρ p σ H' ρ' F' [] → Q b H') → t σ H Q
def SFs (ev : Rho → Option (List D × Rho)) (p : Bool) (Vx : List Nat) (t : TA) : Prop :=
  ∀ (ρ : Rho) (σ : L2.St) (H : Hp) (F : Foot) (M : Addr → Prop) (ds : List D) (ρ' : Rho) (Q : List V → Hp → Prop), Rep K w H M ρ σ F → ev ρ = some (ds, ρ') →
    (∀ vs H' F' T, Aft K w M H F ρ p σ H' ρ' F' T → DnL K w H' (Al M T F' Vx) vs ds T → Q vs H') → t σ H Q
/-- operations by values -/
def VO1 (r : V → Hp → VK → Prop) (g : D → Option D) : Prop := ∀ (x : V) (dx : D) (H : Hp) (Fy : Addr → Prop) (d : D) (Q : VK), Dn K w H Fy x dx [] → g dx = some d →
  (∀ v H' T, Same H H' → Dn K w H' (fun a => (Fy a ∨ H a = none) ∧ a ∉ T) v d T → T.Nodup → (∀ a ∈ T, H a = none) → Q v H') → r x H Q
def VO2 (r : R2) (g : D → D → Option D) : Prop := ∀ (x y : V) (dx dy : D) (H : Hp) (Fy : Addr → Prop) (d : D) (Q : VK), Dn K w H Fy x dx [] → Dn K w H Fy y dy [] → g dx dy = some d →
  (∀ v H' T, Same H H' → Dn K w H' (fun a => (Fy a ∨ H a = none) ∧ a ∉ T) v d T → T.Nodup → (∀ a ∈ T, H a = none) → Q v H') → r x y H Q
def VON (r : List V → Hp → VK → Prop) (g : List D → Option D) : Prop := ∀ (xs : List V) (ds : List D) (H : Hp) (Fy : Addr → Prop) (d : D) (Q : VK), DnL K w H Fy xs ds [] → g ds = some d →
  (∀ v H' T, Same H H' → Dn K w H' (fun a => (Fy a ∨ H a = none) ∧ a ∉ T) v d T → T.Nodup → (∀ a ∈ T, H a = none) → Q v H') → r xs H Q
def VB2 (r : R2) (g : D → D → Option Bool) : Prop := ∀ (x y : V) (dx dy : D) (H : Hp) (Fy : Addr → Prop) (b : Bool) (Q : VK), Dn K w H Fy x dx [] → Dn K w H Fy y dy [] → g dx dy = some b → Q (.bl b) H → r x y H Q
end
section
variable {K : PySem.W.Frag} {w : World}
theorem of_if {j i : Nat} {F : Foot} {a : Addr} (h : a ∈ (if j = i then [] else F j)) : a ∈ F j := by
  split at h
  · cases h
  · exact h
theorem get0_some {ρ : Rho} {i : Nat} {d : D} (h : get0 ρ i = some d) : ρ[i]? = some (some d) := by
  unfold get0 at h
  cases e : ρ[i]? with
  | none => rw [e] at h; cases h
  | some o => rw [e] at h; cases o with
    | none => cases h
    | some x => cases h; rfl
theorem get0_set_same {ρ : Rho} {i : Nat} {o : Option D} (h : i < ρ.length) : get0 (ρ.set i o) i = o := by
  unfold get0
  rw [List.getElem?_set_self h]; rfl
theorem get0_set_ne {ρ : Rho} {i j : Nat} {o : Option D} (h : i ≠ j) : get0 (ρ.set i o) j = get0 ρ j := by
  unfold get0
  rw [List.getElem?_set_ne h]
theorem get0_lt {ρ : Rho} {i : Nat} {d : D} (h : get0 ρ i = some d) : i < ρ.length := (List.getElem?_eq_some_iff.mp (get0_some h)).1
/-- an operation's end -/
theorem end_op {M : Addr → Prop} {H H1 H2 : Hp} {F F1 : Foot} {ρ ρ1 : Rho} {p : Bool} {σ : L2.St} {Vx : List Nat} {v : V} {d : D} {T : List Addr} (A : Aft K w M H F ρ p σ H1 ρ1 F1 []) (s : Same H1 H2) (h : Dn K w H2 (fun a => (Al M [] F1 Vx a ∨ H1 a = none) ∧ a ∉ T) v d T)
    (nd : T.Nodup) (hT : ∀ a ∈ T, H1 a = none) : Aft K w M H F ρ p σ H2 ρ1 F1 T ∧ Dn K w H2 (Al M T F1 Vx) v d T :=
  ⟨A.op s nd hT fun a ha => (h.there a ha).elim (fun ⟨_, e⟩ => some_ne e) fun ⟨_, e⟩ => some_ne e, h.keyFz fun a f => f.1.elim (fun g => ⟨g.1, f.2, g.2.2⟩) fun g => ⟨fun m => A.rep.dom a (.inl m) g, f.2, fun j _ hj => A.rep.thereN hj g⟩⟩
theorem sf_var {i : Nat} : SF K w (fun ρ => (get0 ρ i).map fun d => (d.frz, ρ)) true [i] (tVar i) := by
  intro ρ σ H F M d ρ' Q R h q
  obtain ⟨d0, e, h⟩ := Option.map_eq_some_iff.mp h
  cases h
  obtain ⟨v, ev, hd⟩ := R.den i d0 e
  refine ⟨v, ev, q v H F [] (Aft.refl R) (hd.frz (fun a f => ⟨f.1, nno, fun j _ => f.2 j⟩) fun a ha => ⟨R.hM i a ha, nno, fun j hj z => hj ?_⟩)⟩
  rw [R.dis i j a ha z]
  exact List.mem_singleton_self _
def tMov (i : Nat) : TE := tVar i
theorem Rep.unset {H : Hp} {M : Addr → Prop} {ρ : Rho} {σ : L2.St} {F : Foot} (R : Rep K w H M ρ σ F) (i : Nat) (hi : i < ρ.length) : Rep K w H (fun a => M a ∨ a ∈ F i) (ρ.set i none) σ (fun j => if j = i then [] else F j) := by
  refine ⟨by rw [List.length_set]; exact R.len, fun j d e => ?_, fun j e => ?_, fun j => ?_, fun j k a h1 h2 => ?_, fun j a h m => ?_, fun a m => ?_⟩
  · by_cases hj : i = j
    · subst hj; rw [get0_set_same hi] at e; cases e
    · rw [get0_set_ne hj] at e
      obtain ⟨v, ev, hd⟩ := R.den j d e
      refine ⟨v, ev, ?_⟩
      rw [if_neg (Ne.symm hj)]
      refine hd.keyFz fun a f => ⟨fun m => m.elim f.1 (f.2 i), fun k hk => ?_⟩
      exact f.2 k (of_if hk)
  · by_cases hj : i = j
    · subst hj; rw [if_pos rfl]
    · rw [if_neg (Ne.symm hj)]
      rw [get0_set_ne hj] at e
      exact R.un j e
  · show (if j = i then [] else F j).Nodup
    split
    · exact List.nodup_nil
    · exact R.nd j
  · exact R.dis j k a (of_if h1) (of_if h2)
  · have hne : ¬ j = i := fun e => by
      subst e
      rw [if_pos rfl] at h
      cases h
    rcases m with m | m
    · exact R.hM j a (of_if h) m
    · exact hne (R.dis j i a (of_if h) m)
  · rcases m with m | m
    · exact R.dom a m
    · exact R.thereN m
theorem sf_mov {i : Nat} : SF K w (fun ρ => (get0 ρ i).map fun d => (d, ρ.set i none)) false [i] (tVar i) := by
  intro ρ σ H F M d ρ' Q R h q
  obtain ⟨d0, e, h⟩ := Option.map_eq_some_iff.mp h
  cases h
  obtain ⟨v, ev, hd⟩ := R.den i d e
  refine ⟨v, ev, q v H (fun j => if j = i then [] else F j) (F i) ⟨R.unset i (get0_lt e), fun _ _ h _ => h, fun a h => ?_, R.nd i, fun a ha => R.hM i a ha, fun h => by cases h⟩ (hd.keyFz fun a f => ⟨f.1, f.2 i, fun j _ hj => ?_⟩)⟩
  · rcases h with h | ⟨j, h⟩
    · exact .inl ⟨i, h⟩
    · exact .inl ⟨j, of_if h⟩
  · exact f.2 j (of_if hj)
/-- a constant that denotes itself anywhere -/
theorem sf_con {d0 : D} {v0 : V} (h0 : ∀ H Fy, Dn K w H Fy v0 d0 []) : SF K w (fun ρ => some (d0, ρ)) true [] (tC v0) := by
  intro ρ σ H F M d ρ' Q R h q
  cases h
  exact q v0 H F [] (Aft.refl R) (h0 _ _)
theorem SF.mono {ev : Rho → Option (D × Rho)} {p : Bool} {Vx Vy : List Nat} {t : TE} (h : SF K w ev p Vx t) (hv : ∀ i ∈ Vx, i ∈ Vy) : SF K w ev p Vy t := fun ρ σ H F M d ρ' Q R e q =>
  h ρ σ H F M d ρ' Q R e fun v H' F' T A hd => q v H' F' T A (hd.keyFz fun a f => ⟨f.1, f.2.1, fun j hj => f.2.2 j fun z => hj (hv j z)⟩)
section
variable {ea eb ec : Rho → Option (D × Rho)} {pa pb pc : Bool} {Va Vb Vc : List Nat} {ta tb tc : TE}
theorem chk_some {α : Type} {b : Bool} {k : Option α} {x : α} (h : chk b k = some x) : b = true ∧ k = some x := by
  unfold chk at h
  split at h
  · exact ⟨by assumption, h⟩
  · cases h
/-- two values in hand, both let go -/
theorem sf_pair (ha : SF K w ea pa Va ta) (hb : SF K w eb pb Vb tb) {ρ ρ1 ρ2 : Rho} {σ : L2.St} {H : Hp} {F : Foot} {M : Addr → Prop} {x y : D} (R : Rep K w H M ρ σ F) (e1 : ea ρ = some (x, ρ1)) (hc : (pb || x.clean) = true) (e2 : eb ρ1 = some (y, ρ2))
    {Q : V → V → Hp → Prop} (q : ∀ v u H' F', Aft K w M H F ρ (pa && pb) σ H' ρ2 F' [] → Dn K w H' (Al M [] F' (Va ++ Vb)) v x.frz [] → Dn K w H' (Al M [] F' (Va ++ Vb)) u y.frz [] → Q v u H') : ta σ H fun v H1 => tb σ H1 fun u H2 => Q v u H2 := by
  refine ha ρ σ H F M x ρ1 _ R e1 fun v H1 F1 T1 A h1 => hb ρ1 σ H1 F1 _ y ρ2 _ A.rep e2 fun u H2 F2 T2 B h2 => ?_
  have C := A.trans B
  have h1' := h1.hand A B (fun _ z => z) (V2 := Vb) (by simpa using hc)
  have h2' : Dn K w H2 (Al M (T1 ++ T2) F2 (Va ++ Vb)) u y T2 := h2.hand2
  exact q v u H2 F2 C.drop (C.letgo (fun a ha => List.mem_append_left _ ha) h1') (C.letgo (fun a ha => List.mem_append_right _ ha) h2')
theorem sf_two {r : R2} {g : D → D → Option D} (ha : SF K w ea pa Va ta) (hb : SF K w eb pb Vb tb) (ho : VO2 K w r g) : SF K w (two ea eb pb g) (pa && pb) (Va ++ Vb) (tOp r ta tb) := by
  intro ρ σ H F M d ρ' Q R h q
  obtain ⟨⟨x, ρ1⟩, e1, h⟩ := Option.bind_eq_some_iff.mp h
  obtain ⟨hc, h⟩ := chk_some h
  obtain ⟨⟨y, ρ2⟩, e2, h⟩ := Option.bind_eq_some_iff.mp h
  obtain ⟨d', e3, h⟩ := Option.map_eq_some_iff.mp h
  cases h
  refine sf_pair ha hb R e1 hc e2 fun v u H2 F2 C h1 h2 => ho v u _ _ H2 _ d Q h1 h2 e3 fun z H3 T s hd nd hT => ?_
  obtain ⟨A', D'⟩ := end_op C s hd nd hT
  exact q z H3 F2 T A' D'
theorem sf_twoB {r : R2} {g : D → D → Option Bool} (ha : SF K w ea pa Va ta) (hb : SF K w eb pb Vb tb) (ho : VB2 K w r g) : SF K w (two ea eb pb fun x y => (g x y).map D.bl) (pa && pb) (Va ++ Vb) (tOp r ta tb) :=
  sf_two ha hb fun x y dx dy H Fy d Q h1 h2 e q => by
    obtain ⟨b, e', rfl⟩ := Option.map_eq_some_iff.mp e
    exact ho x y dx dy H Fy b Q h1 h2 e' (q (.bl b) H [] (Same.refl _) (.bl b) List.nodup_nil fun _ => nno)
theorem sft_two {r : R2} {g : D → D → Option Bool} (ha : SF K w ea pa Va ta) (hb : SF K w eb pb Vb tb) (ho : VB2 K w r g) : SFT K w (two ea eb pb g) (pa && pb) (tTest (tOp r ta tb)) := by
  intro ρ σ H F M d ρ' Q R h q
  obtain ⟨⟨x, ρ1⟩, e1, h⟩ := Option.bind_eq_some_iff.mp h
  obtain ⟨hc, h⟩ := chk_some h
  obtain ⟨⟨y, ρ2⟩, e2, h⟩ := Option.bind_eq_some_iff.mp h
  obtain ⟨d', e3, h⟩ := Option.map_eq_some_iff.mp h
  cases h
  exact sf_pair ha hb R e1 hc e2 fun v u H2 F2 C h1 h2 => ho v u _ _ H2 _ d _ h1 h2 e3 ⟨d, rfl, q H2 F2 C⟩
theorem sf_one {r : V → Hp → VK → Prop} {g : D → Option D} (ha : SF K w ea pa Va ta) (ho : VO1 K w r g) : SF K w (one ea g) pa Va (tUn r ta) := by
  intro ρ σ H F M d ρ' Q R h q
  obtain ⟨⟨x, ρ1⟩, e1, h⟩ := Option.bind_eq_some_iff.mp h
  obtain ⟨d', e3, h⟩ := Option.map_eq_some_iff.mp h
  cases h
  refine ha ρ σ H F M x ρ1 _ R e1 fun v H1 F1 T1 A h1 => ho v _ H1 _ d Q (A.letgo (fun _ z => z) h1) e3 fun z H3 T s hd nd hT => ?_
  obtain ⟨A', D'⟩ := end_op A.drop s hd nd hT
  exact q z H3 F1 T A' D'
theorem sf_many {es : Rho → Option (List D × Rho)} {ts : TA} {r : List V → Hp → VK → Prop} {g : List D → Option D} (ha : SFs K w es pa Va ts) (ho : VON K w r g) : SF K w (many es g) pa Va (fun σ H Q => ts σ H fun vs H1 => r vs H1 Q) := by
  intro ρ σ H F M d ρ' Q R h q
  obtain ⟨⟨x, ρ1⟩, e1, h⟩ := Option.bind_eq_some_iff.mp h
  obtain ⟨d', e3, h⟩ := Option.map_eq_some_iff.mp h
  cases h
  refine ha ρ σ H F M x ρ1 _ R e1 fun v H1 F1 T1 A h1 => ho v _ H1 _ d Q (A.letgoL (fun _ z => z) h1) e3 fun z H3 T s hd nd hT => ?_
  obtain ⟨A', D'⟩ := end_op A.drop s hd nd hT
  exact q z H3 F1 T A' D'
theorem sfs_nil : SFs K w (fun ρ => some ([], ρ)) true [] tNil := by
  intro ρ σ H F M d ρ' Q R h q
  cases h
  exact q [] H F [] (Aft.refl R) .nil
theorem sfs_cons {es : Rho → Option (List D × Rho)} {ts : TA} (ha : SF K w ea pa Va ta) (hs : SFs K w es pb Vb ts) :
    SFs K w (fun ρ => (ea ρ).bind fun p => chk (pb || p.1.clean) ((es p.2).map fun q => (p.1 :: q.1, q.2))) (pa && pb) (Va ++ Vb) (tCons ta ts) := by
  intro ρ σ H F M d ρ' Q R h q
  obtain ⟨⟨x, ρ1⟩, e1, h⟩ := Option.bind_eq_some_iff.mp h
  obtain ⟨hc, h⟩ := chk_some h
  obtain ⟨⟨ys, ρ2⟩, e2, h⟩ := Option.map_eq_some_iff.mp h
  cases h
  refine ha ρ σ H F M x ρ1 _ R e1 fun v H1 F1 T1 A h1 => hs ρ1 σ H1 F1 _ ys ρ2 _ A.rep e2 fun us H2 F2 T2 B h2 => ?_
  exact q (v :: us) H2 F2 (T1 ++ T2) (A.trans B) (.cons (h1.hand A B (fun _ z => z) (by simpa using hc)) h2.hand2)
/-- the values' list as it is: a new list, a new tuple -/
theorem sf_tup {es : Rho → Option (List D × Rho)} {ts : TA} (ha : SFs K w es pa Va ts) : SF K w (fun ρ => (es ρ).bind fun p => chk (fits p.1.length) (some (.tup p.1, p.2))) pa Va (tTup ts) := by
  intro ρ σ H F M d ρ' Q R h q
  obtain ⟨⟨ds, ρ1⟩, e1, h⟩ := Option.bind_eq_some_iff.mp h
  obtain ⟨hc, h⟩ := chk_some h
  cases h
  refine ha ρ σ H F M ds ρ1 _ R e1 fun vs H1 F1 T1 A h1 => ⟨by rw [h1.length]; exact of_decide_eq_true hc, fun p np => ?_⟩
  have s : Same H1 (upd H1 p (.tup vs)) := fun b o e => by rw [upd_ne (ne_of_none e np)]; exact e
  have c : Carry H1 (upd H1 p (.tup vs)) (Al M T1 F1 Va) (Al M T1 F1 Va) T1 := ⟨fun b xs q => q.imp (s _ _) fun ⟨o, q⟩ => ⟨o, s _ _ q⟩, fun b o e f => ⟨s _ _ e, f⟩, fun b o e _ => s _ _ e⟩
  refine q (.ref p) _ F1 T1 ⟨(A.rep.grow (T := []) s (fun _ => nno) fun _ => nno).weak fun a h => .inl h, fun b o e h => s _ _ (A.keep b o e h), A.fresh, A.nd, A.tM, fun h => ?_⟩ (.tup (.inl (.inl upd_same)) (h1.carry c))
  obtain ⟨a1, a2, a3, a4⟩ := A.pur h
  exact ⟨a1, a2, a3.trans s, a4⟩
theorem Same.updN {H : Hp} {p : Addr} {o : HO} (np : H p = none) : Same H (upd H p o) := fun b o e => by rw [upd_ne (ne_of_none e np)]; exact e
theorem Carry.same {H H' : Hp} {Fy Fy' : Addr → Prop} {S : List Addr} (s : Same H H') (h : ∀ b o, H b = some o → Fy b → Fy' b) : Carry H H' Fy Fy' S :=
  ⟨fun b xs q => q.imp (s _ _) fun ⟨o, q⟩ => ⟨o, s _ _ q⟩, fun b o e f => ⟨s _ _ e, h b o e f⟩, fun b o e _ => s _ _ e⟩
theorem sf_lst {es : Rho → Option (List D × Rho)} {ts : TA} (ha : SFs K w es pa Va ts) : SF K w (fun ρ => (es ρ).bind fun p => chk (fits p.1.length) (some (.lst true p.1, p.2))) pa Va (tLst ts) := by
  intro ρ σ H F M d ρ' Q R h q
  obtain ⟨⟨ds, ρ1⟩, e1, h⟩ := Option.bind_eq_some_iff.mp h
  obtain ⟨hc, h⟩ := chk_some h
  cases h
  refine ha ρ σ H F M ds ρ1 _ R e1 fun vs H1 F1 T1 A h1 => ⟨by rw [h1.length]; exact of_decide_eq_true hc, fun p np => ?_⟩
  have s : Same H1 (upd H1 p (.lst vs)) := Same.updN np
  have c : Carry H1 (upd H1 p (.lst vs)) (Al M T1 F1 Va) (Al M (p :: T1) F1 Va) T1 := Carry.same s fun b o e f => ⟨f.1, fun z => (List.mem_cons.mp z).elim (fun z => by subst z; rw [np] at e; cases e) f.2.1, f.2.2⟩
  have hp : p ∉ T1 := fun z => A.rep.dom p (.inr z) np
  refine q (.ref p) _ F1 (p :: T1) ⟨(A.rep.grow (T := [p]) s (fun a z => by rw [List.mem_singleton.mp z]; exact np) fun a z => by rw [List.mem_singleton.mp z, upd_same]; exact fun e => (by cases e)).weak fun a h => ?_, fun b o e h => s _ _ (A.keep b o e h), fun a h => ?_,
    List.nodup_cons.mpr ⟨hp, A.nd⟩, fun a h m => ?_, fun h => ?_⟩ (.lstO upd_same (h1.carry c))
  · rcases h with h | h
    · exact .inl (.inl h)
    · exact (List.mem_cons.mp h).elim (fun z => .inr (by rw [z]; exact List.mem_singleton_self _)) fun z => .inl (.inr z)
  · rcases h with h | h
    · rcases List.mem_cons.mp h with h | h
      · subst h; exact A.back np
      · exact A.fresh a (.inl h)
    · exact A.fresh a (.inr h)
  · rcases List.mem_cons.mp h with h | h
    · subst h; exact A.rep.dom a (.inl m) np
    · exact A.tM a h m
  · obtain ⟨a1, a2, a3, a4⟩ := A.pur h
    refine ⟨a1, a2, a3.trans s, fun a ha => ?_⟩
    rcases List.mem_cons.mp ha with h | h
    · subst h; exact a3.free np
    · exact a4 a h
/-- a test ahead -/
theorem Aft.then (A : Aft K w M H F ρ p1 σ H1 ρ1 F1 []) (B : Aft K w M H1 F1 ρ1 p2 σ H2 ρ2 F2 T2) : Aft K w M H F ρ (p1 && p2) σ H2 ρ2 F2 T2 := by
  have hM : ∀ a, M a ∨ a ∈ ([] : List Addr) → M a := fun a h => h.elim id nno
  have B' : Aft K w (fun a => M a ∨ a ∈ ([] : List Addr)) H1 F1 ρ1 p2 σ H2 ρ2 F2 T2 := ⟨B.rep.weak fun a h => h.imp (hM a) id, B.keep, B.fresh, B.nd, fun a ha m => B.tM a ha (hM a m), B.pur⟩
  exact A.trans B'
theorem sf_if {et : Rho → Option (Bool × Rho)} {tt : TT} (ht : SFT K w et pc tt) (ha : SF K w ea pa Va ta) (hb : SF K w eb pb Vb tb) :
    SF K w (fun ρ => (et ρ).bind fun r => if r.1 = true then ea r.2 else eb r.2) (pc && pa && pb) (Va ++ Vb) (tIf tt ta tb) := by
  intro ρ σ H F M d ρ' Q R h q
  obtain ⟨⟨b, ρ1⟩, e1, h⟩ := Option.bind_eq_some_iff.mp h
  refine ht ρ σ H F M b ρ1 _ R e1 fun H1 F1 A => ?_
  have R1 : Rep K w H1 M ρ1 σ F1 := A.rep.weak fun a h => .inl h
  cases b with
  | true =>
    refine iteT (ha ρ1 σ H1 F1 M d ρ' _ R1 (by simpa using h) fun v H2 F2 T B hd => q v H2 F2 T ?_ (hd.keyFz fun a f => ⟨f.1, f.2.1, fun j hj => f.2.2 j fun z => hj (List.mem_append_left _ z)⟩))
    have C := A.then B
    exact ⟨C.rep, C.keep, C.fresh, C.nd, C.tM, fun h => C.pur (by simp only [Bool.and_eq_true] at h ⊢; exact h.1)⟩
  | false =>
    refine iteF (hb ρ1 σ H1 F1 M d ρ' _ R1 (by simpa using h) fun v H2 F2 T B hd => q v H2 F2 T ?_ (hd.keyFz fun a f => ⟨f.1, f.2.1, fun j hj => f.2.2 j fun z => hj (List.mem_append_right _ z)⟩))
    have C := A.then B
    exact ⟨C.rep, C.keep, C.fresh, C.nd, C.tM, fun h => C.pur (by simp only [Bool.and_eq_true] at h ⊢; exact ⟨h.1.1, h.2⟩)⟩
end
end
end Eng
namespace Eng
open PySem PySem.Spec PyProof.Rows L2

section
variable (K : PySem.W.Frag) (w : World)
def After (H : Hp) (Fy : Addr → Prop) (d : D) (Q : VK) : Prop := ∀ v H' T, Same H H' → Dn K w H' (fun a => (Fy a ∨ H a = none) ∧ a ∉ T) v d T → T.Nodup → (∀ a ∈ T, H a = none) → Q v H'
def rV1 (g : D → Option D) : V → Hp → VK → Prop := fun x H Q => ∃ dx d Fy, Dn K w H Fy x dx [] ∧ g dx = some d ∧ After K w H Fy d Q
def rV2 (g : D → D → Option D) : R2 := fun x y H Q => ∃ dx dy d Fy, Dn K w H Fy x dx [] ∧ Dn K w H Fy y dy [] ∧ g dx dy = some d ∧ After K w H Fy d Q
def rVN (g : List D → Option D) : List V → Hp → VK → Prop := fun xs H Q => ∃ ds d Fy, DnL K w H Fy xs ds [] ∧ g ds = some d ∧ After K w H Fy d Q
def rB2 (g : D → D → Option Bool) : R2 := fun x y H Q => ∃ dx dy b Fy, Dn K w H Fy x dx [] ∧ Dn K w H Fy y dy [] ∧ g dx dy = some b ∧ Q (.bl b) H
end
section
variable {K : PySem.W.Frag} {w : World} {H : Hp} {Fy : Addr → Prop} {Q : VK}
theorem vo1 {g : D → Option D} : VO1 K w (rV1 K w g) g := fun x dx H Fy d Q h e q => ⟨dx, d, Fy, h, e, q⟩
theorem vo2 {g : D → D → Option D} : VO2 K w (rV2 K w g) g := fun x y dx dy H Fy d Q h h' e q => ⟨dx, dy, d, Fy, h, h', e, q⟩
theorem von {g : List D → Option D} : VON K w (rVN K w g) g := fun xs ds H Fy d Q h e q => ⟨ds, d, Fy, h, e, q⟩
theorem vb2 {g : D → D → Option Bool} : VB2 K w (rB2 K w g) g := fun x y dx dy H Fy b Q h h' e q => ⟨dx, dy, b, Fy, h, h', e, q⟩
theorem After.val {d : D} {v : V} (a : After K w H Fy d Q) (h : Dn K w H Fy v d []) : Q v H := a v H [] (Same.refl _) (h.keyFz fun a f => ⟨.inl f, nno⟩) List.nodup_nil fun _ => nno
theorem After.int {i : Int} (a : After K w H Fy (.int i) Q) : Q (.int i) H := a.val (.int i)
theorem After.str {i : Str} (a : After K w H Fy (.str i) Q) : Q (.str i) H := a.val (.str i)
theorem After.bl {i : Bool} (a : After K w H Fy (.bl i) Q) : Q (.bl i) H := a.val (.bl i)
theorem Carry.new {p : Addr} {o : HO} (np : H p = none) : Carry H (upd H p o) Fy (fun a => (Fy a ∨ H a = none) ∧ a ∉ [p]) [] :=
  Carry.same (Same.updN np) fun b o e f => ⟨.inl f, fun z => by rw [List.mem_singleton.mp z, np] at e; cases e⟩
theorem After.lst {vs : List V} {ds : List D} (a : After K w H Fy (.lst true ds) Q) (h : DnL K w H Fy vs ds []) (p : Addr) (np : H p = none) : Q (.ref p) (upd H p (.lst vs)) := by
  have := DnL.carry h (Carry.new (o := .lst vs) np)
  refine a (.ref p) _ [p] (Same.updN np) (.lstO upd_same this) (by simp) fun b z => by rw [List.mem_singleton.mp z]; exact np
theorem After.tup {vs : List V} {ds : List D} (a : After K w H Fy (.tup ds) Q) (h : DnL K w H Fy vs ds []) (p : Addr) (np : H p = none) : Q (.ref p) (upd H p (.tup vs)) := by
  refine a (.ref p) _ [] (Same.updN np) (.tup (.inl (.inl upd_same)) (h.carry (Carry.same (Same.updN np) fun b o e f => ⟨.inl f, nno⟩))) List.nodup_nil fun _ => nno
theorem Dn.sqL {v : V} {ds : List D} {o : Bool} (h : Dn K w H Fy v (.lst o ds) []) : ∃ a vs, v = .ref a ∧ LsF K H Fy a vs ∧ SqL K H a vs ∧ DnL K w H Fy vs ds [] := by
  cases h with
  | lstF h r => exact ⟨_, _, rfl, h, h.sq, r⟩
theorem Dn.sqT {v : V} {ds : List D} (h : Dn K w H Fy v (.tup ds) []) : ∃ a vs, v = .ref a ∧ SqT K H a vs ∧ DnL K w H Fy vs ds [] := by
  cases h with
  | tup h r => exact ⟨_, _, rfl, h, r⟩
theorem DnL.app0 : ∀ {vs vs' : List V} {ds ds' : List D}, DnL K w H Fy vs ds [] → DnL K w H Fy vs' ds' [] → DnL K w H Fy (vs ++ vs') (ds ++ ds') [] := fun h h' => DnL.append (S := []) (S' := []) h h'
theorem DnL.nils {vs : List V} {ds : List D} {S : List Addr} (h : DnL K w H Fy vs ds S) (hs : S = []) : DnL K w H Fy vs ds [] := hs ▸ h
theorem DnL.item {vs : List V} {ds : List D} (h : DnL K w H Fy vs ds []) {i : Nat} {d : D} (e : ds[i]? = some d) : ∃ v, vs[i]? = some v ∧ Dn K w H Fy v d [] := by
  obtain ⟨v, S, e1, hd, hs⟩ := h.get e
  have : S = [] := List.eq_nil_iff_forall_not_mem.mpr fun a ha => by cases hs a ha
  subst this
  exact ⟨v, e1, hd⟩
theorem DnL.item' {vs : List V} {ds : List D} (h : DnL K w H Fy vs ds []) {i : Nat} {v : V} (e : vs[i]? = some v) : ∃ d, ds[i]? = some d ∧ Dn K w H Fy v d [] := by
  obtain ⟨d, S, e1, hd, hs⟩ := h.get' e
  have : S = [] := List.eq_nil_iff_forall_not_mem.mpr fun a ha => by cases hs a ha
  subst this
  exact ⟨d, e1, hd⟩
theorem DnL.drop {vs : List V} {ds : List D} (h : DnL K w H Fy vs ds []) (n : Nat) : DnL K w H Fy (vs.drop n) (ds.drop n) [] := by
  refine DnL.all0 (by rw [List.length_drop, List.length_drop, h.length]) fun i v d h1 h2 => ?_
  rw [List.getElem?_drop] at h1 h2
  obtain ⟨d', e, hd⟩ := h.item' h1
  rw [h2] at e; cases e
  exact hd
theorem DnL.take {vs : List V} {ds : List D} (h : DnL K w H Fy vs ds []) (n : Nat) : DnL K w H Fy (vs.take n) (ds.take n) [] := by
  refine DnL.all0 (by rw [List.length_take, List.length_take, h.length]) fun i v d h1 h2 => ?_
  rw [List.getElem?_take] at h1 h2
  split at h1
  · rename_i hi
    rw [if_pos hi] at h2
    obtain ⟨d', e, hd⟩ := h.item' h1
    rw [h2] at e; cases e
    exact hd
  · cases h1
theorem DnL.cut {vs : List V} {ds : List D} (h : DnL K w H Fy vs ds []) (lo hi : Option Int) : DnL K w H Fy (cutV vs lo hi) (cutL ds lo hi) [] := by
  have := h.length
  unfold cutV cutL
  rw [this]
  exact (h.drop _).take _
theorem DnL.rev {vs : List V} {ds : List D} (h : DnL K w H Fy vs ds []) : DnL K w H Fy vs.reverse ds.reverse [] := by
  have hl := h.length
  refine DnL.all0 (by rw [List.length_reverse, List.length_reverse, hl]) fun i v d h1 h2 => ?_
  have hi : i < vs.length := by have := (List.getElem?_eq_some_iff.mp h1).1; simpa using this
  rw [List.getElem?_reverse hi] at h1
  rw [List.getElem?_reverse (by omega), ← hl] at h2
  obtain ⟨d', e, hd⟩ := h.item' h1
  rw [h2] at e; cases e
  exact hd
theorem DnL.at {vs : List V} {ds : List D} (h : DnL K w H Fy vs ds []) {i : Int} {d : D} (e : atI ds i = some d) : ∃ v, atI vs i = some v ∧ Dn K w H Fy v d [] := by
  unfold atI at e ⊢
  obtain ⟨j, e1, e2⟩ := Option.bind_eq_some_iff.mp e
  obtain ⟨v, e3, hd⟩ := h.item e2
  exact ⟨v, by rw [h.length, e1]; exact e3, hd⟩
/-! to the layer's own data -/
mutual
theorem Dn.dp : ∀ {v : V} {d : D} {S : List Addr}, Dn K w H Fy v d S → d.py.canLay0 = true → Dp K H v d.py
  | _, _, _, .non, _ => .non
  | _, _, _, .bl b, _ => .bl b
  | _, _, _, .int i, _ => .int i
  | _, _, _, .str x, _ => .str x
  | _, _, _, .tup h r, c => .tup h (DnL.dp r c)
  | _, _, _, .lstF h r, c => .lst h.sq (DnL.dp r c)
  | _, _, _, .lstO h r, c => .lst (.inl (.inl h)) (DnL.dp r c)
  | _, _, _, .dctF h f k r n, c => by cases c
  | _, _, _, .dctK h k r n, c => by cases c
  | _, _, _, .dctO h k r n, c => by cases c
theorem DnL.dp : ∀ {vs : List V} {ds : List D} {S : List Addr}, DnL K w H Fy vs ds S → PyData.canLayAll0 (pyL ds) = true → DpAll K H vs (pyL ds)
  | _, _, _, .nil, _ => .nil
  | _, _, _, .cons h r, c => by
    simp only [pyL, PyData.canLayAll0, Bool.and_eq_true] at c
    exact .cons (Dn.dp h c.1) (DnL.dp r c.2)
end
theorem Dn.dps {v : V} {d : D} (h : Dn K w H Fy v d []) (c : shp d = true) : Dp K H v d.py := h.dp (SeqAt.canLay_of_shaped c)
end
section
variable {X : Cx}
theorem Inv.lstR {pins : List (Addr × Obj)} {σ : L2.St} {H : Hp} {s : Shared} {l : Addr} {xs : List V} (I : Inv X pins σ H s) (hH : Rd H l (.lst xs)) : xs.length ≤ sizeLine ∧ ∃ (its : List Value) (n : Nat), Vals xs its ∧ xs.length = its.length ∧ s.heap.get? l = some { cls := .type "list", data := .seq its.toArray n } := by
  obtain ⟨z, its, n, r, e⟩ : ObjOk X.prog X.w H s.heap l (.lst xs) := hH.ok I.hok
  exact ⟨z, its, n, r, r.length, e⟩
theorem op_catR : OpR X (binaryOp .Add) (fun x y H Q => ∃ l b xs zs, x = .ref l ∧ y = .ref b ∧ SqL X.K H l xs ∧ SqL X.K H b zs ∧ xs.length + zs.length ≤ sizeLine ∧ ∀ p, H p = none → Q (.ref p) (upd H p (.lst (xs ++ zs)))) := by
  intro pins s σ H x y v u Q I rx ry h
  obtain ⟨l, b, xs, zs, rfl, rfl, hH, hB, hz, q⟩ := h
  cases rx
  cases ry
  obtain ⟨its, r, ⟨⟨cls, dd, data, sl⟩, n, ho, hc, hd1, hd⟩, z⟩ := I.list hH
  obtain ⟨its2, r2, ⟨⟨cls2, dd2, data2, sl2⟩, n2, ho2, hc2, hd3, hd2⟩, z2⟩ := I.list hB
  simp only at hc hd hc2 hd2
  subst hc hd hc2 hd2
  have hl := r.length
  have hl2 := r2.length
  refine PySem.concat_meets ⟨_, ho, rfl⟩ ⟨_, ho2, rfl⟩ noFill_list_add seq_list_add PySem.F.slot_list_add PySem.F.entry_list_add (PySem.F.args_list_add_2 _ _) (PyProof.Rows.list_addW l b its.toArray its2.toArray n n2 dd dd2 sl sl2 (by rw [List.size_toArray, List.size_toArray]; omega)) ⟨ho, ho2, ?_⟩
  have ea : its.toArray ++ its2.toArray = (its ++ its2).toArray := by simp
  rw [ea]
  exact ⟨.ref _, _, I.lnew (t' := s.toks) (r.append r2) (by rw [List.length_append]; omega), rfl, q _ I.fresh⟩
theorem OpR.case {f : Value → Value → Sem Value} {r : R2} (h : ∀ x y H Q, r x y H Q → ∃ r', OpR X f r' ∧ r' x y H Q) : OpR X f r := fun pins s σ H x y v u Q I rx ry q =>
  let ⟨_, h1, h2⟩ := h x y H Q q
  h1 pins s σ H x y v u Q I rx ry h2
theorem CallR.case {f : Value} {r : List V → Hp → VK → Prop} (h : ∀ x H Q, r x H Q → ∃ r', CallR X f r' ∧ r' x H Q) : CallR X f r := fun pins s σ H x us Q I rx q =>
  let ⟨_, h1, h2⟩ := h x H Q q
  h1 pins s σ H x us Q I rx h2
theorem fits_le {n : Nat} (h : fits n = true) : n ≤ sizeLine := of_decide_eq_true h

theorem opr_add : OpR X (binaryOp .Add) (rV2 X.K X.w (dBin .add)) := OpR.case fun x y H Q ⟨dx, dy, d, Fy, hx, hy, e, q⟩ => by
  unfold dBin at e
  split at e <;> try (first | (cases e; done) | (rename_i h0; cases h0; done))
  · cases e; cases hx; cases hy
    exact ⟨_, op_add, _, _, rfl, rfl, q.int⟩
  · split at e
    · rename_i hf
      cases e; cases hx; cases hy
      exact ⟨_, op_add_str, _, _, rfl, rfl, fits_le hf, q.str⟩
    · cases e
  · split at e
    · rename_i hf
      cases e
      obtain ⟨a, vs, rfl, _, h1, r1⟩ := hx.sqL
      obtain ⟨b, us, rfl, _, h2, r2⟩ := hy.sqL
      exact ⟨_, op_catR, a, b, vs, us, rfl, rfl, h1, h2, by rw [r1.length, r2.length]; exact fits_le hf, fun p np => q.lst (r1.app0 r2) p np⟩
    · cases e
  · split at e
    · rename_i hf
      cases e
      obtain ⟨a, vs, rfl, h1, r1⟩ := hx.sqT
      obtain ⟨b, us, rfl, h2, r2⟩ := hy.sqT
      refine ⟨_, op_catA, a, b, vs, us, rfl, rfl, h1, h2, by rw [r1.length, r2.length]; exact fits_le hf, fun z => ?_, fun _ z => ?_, fun _ _ p np => q.tup (r1.app0 r2) p np⟩
      · subst z; cases r1
        exact q.val hy
      · subst z; cases r2
        rw [List.append_nil] at q
        exact q.val hx
    · cases e
theorem opr_sub : OpR X (binaryOp .Sub) (rV2 X.K X.w (dBin .sub)) := OpR.case fun x y H Q ⟨dx, dy, d, Fy, hx, hy, e, q⟩ => by
  unfold dBin at e
  split at e <;> try (first | (cases e; done) | (rename_i h0; cases h0; done))
  cases e; cases hx; cases hy
  exact ⟨_, op_sub, _, _, rfl, rfl, q.int⟩
theorem repS_1 (x : Str) : repS x 1 = x := by
  unfold repS rep
  simp
theorem repS_fold (x : Str) (n : Nat) : (⟨(List.replicate n x.cps).foldl (· ++ ·) #[]⟩ : Str) = repS x n := by
  have key : ∀ (n : Nat) (a : Array Nat), ((List.replicate n x.cps).foldl (· ++ ·) a).toList = a.toList ++ (List.replicate n x.cps.toList).flatten := fun n => by
    induction n with
    | zero => intro a; simp
    | succ n ih => intro a; rw [List.replicate_succ, List.foldl_cons, ih, List.replicate_succ, List.flatten_cons]; simp
  have := key n #[]
  rw [List.nil_append] at this
  unfold repS rep
  rw [← this]
theorem op_mulS : OpR X (binaryOp .Mult) (fun x y H Q => ∃ s n, x = .str s ∧ y = .int n ∧ (0 ≤ n ∧ n ≤ 100000 ∧ s.length * n.toNat ≤ 16000000) ∧ Q (.str (repS s n.toNat)) H) := by
  intro pins st σ H x y v u Q I rx ry h
  obtain ⟨s, n, rfl, rfl, ⟨h0, h1, h2⟩, q⟩ := h
  obtain ⟨t, rfl⟩ := rx
  obtain ⟨t', rfl⟩ := ry
  have big : n.toNat ≤ 100000 := by omega
  refine P.mul_str (by
    have a : ¬ n < -(2 ^ 63 : Int) := by omega
    have b : ¬ n ≥ 2 ^ 63 := by omega
    rw [decide_eq_false a, decide_eq_false b]; rfl) (fun c1 c2 => ?_) (fun c1 c2 => ?_) ?_
  · have n1 : n ≠ 1 := fun e => by rw [e] at c2; simp at c2
    have hb : (16000000 : Int) ≤ (2 ^ 63 - 1) / n := by
      rw [Int.le_ediv_iff_mul_le (by omega)]
      have : 16000000 * n ≤ 16000000 * 100000 := Int.mul_le_mul_of_nonneg_left h1 (by decide)
      omega
    have : s.length ≤ 16000000 := Nat.le_trans (Nat.le_mul_of_pos_right _ (by omega)) h2
    omega
  · show decide (s.length * n.toNat > sizeLine) = false
    refine decide_eq_false ?_
    rw [sizeLine_eq]
    omega
  · by_cases c1 : n < 1
    · rw [if_pos c1]
      have : n.toNat = 0 := by omega
      rw [this] at q
      exact ⟨by decide, .str _, H, I.tok _, ⟨_, rfl⟩, q⟩
    · rw [if_neg c1]
      by_cases c2 : (n == 1 || s.length == 0) = true
      · rw [if_pos c2]
        have e : repS s n.toNat = s := by
          simp only [Bool.or_eq_true, beq_iff_eq] at c2
          rcases c2 with c | c
          · rw [c]; exact repS_1 s
          · have hz : s.cps.toList = [] := List.eq_nil_of_length_eq_zero (by rw [Array.length_toList]; exact c)
            unfold repS rep
            rw [hz]
            have : (List.replicate n.toNat ([] : List Nat)).flatten = [] := by simp
            rw [this]
            cases s with
            | mk cps => simp at hz; subst hz; rfl
        rw [e] at q
        exact ⟨.str s, H, I, ⟨t, rfl⟩, q⟩
      · rw [if_neg c2]
        rw [repS_fold]
        refine ⟨?_, .str _, H, I.tok _, ⟨_, rfl⟩, q⟩
        have : (repS s n.toNat).length = n.toNat * s.length := by
          show (rep n.toNat s.cps.toList).toArray.size = _
          unfold rep
          simp [List.length_flatten]
          rfl
        rw [this, Nat.mul_comm, sizeLine_eq]
        omega
theorem opr_mul : OpR X (binaryOp .Mult) (rV2 X.K X.w (dBin .mul)) := OpR.case fun x y H Q ⟨dx, dy, d, Fy, hx, hy, e, q⟩ => by
  unfold dBin at e
  split at e <;> try (first | (cases e; done) | (rename_i h0; cases h0; done))
  · split at e
    · cases e; cases hx; cases hy
      exact ⟨_, op_mulS, _, _, rfl, rfl, by assumption, q.str⟩
    · cases e
  · split at e
    · cases e; cases hx; cases hy
      exact ⟨_, op_mulW, _, _, rfl, rfl, by assumption, q.int⟩
    · cases e
theorem opr_fdiv : OpR X (binaryOp .FloorDiv) (rV2 X.K X.w (dBin .fdiv)) := OpR.case fun x y H Q ⟨dx, dy, d, Fy, hx, hy, e, q⟩ => by
  unfold dBin at e
  split at e <;> try (first | (cases e; done) | (rename_i h0; cases h0; done))
  split at e
  · cases e; cases hx; cases hy
    exact ⟨_, op_fdivW, _, _, rfl, rfl, by assumption, q.int⟩
  · cases e
theorem opr_mod : OpR X (binaryOp .Mod) (rV2 X.K X.w (dBin .mod)) := OpR.case fun x y H Q ⟨dx, dy, d, Fy, hx, hy, e, q⟩ => by
  unfold dBin at e
  split at e <;> try (first | (cases e; done) | (rename_i h0; cases h0; done))
  split at e
  · cases e; cases hx; cases hy
    exact ⟨_, op_mod, _, _, rfl, rfl, by assumption, q.int⟩
  · cases e
theorem opr_pow : OpR X (binaryOp .Pow) (rV2 X.K X.w (dBin .pow)) := OpR.case fun x y H Q ⟨dx, dy, d, Fy, hx, hy, e, q⟩ => by
  unfold dBin at e
  split at e <;> try (first | (cases e; done) | (rename_i h0; cases h0; done))
  split at e
  · cases e; cases hx; cases hy
    exact ⟨_, op_pow, _, _, rfl, rfl, by assumption, q.int⟩
  · cases e
def Bop.py : Bop → Operator
  | .add => .Add | .sub => .Sub | .mul => .Mult | .fdiv => .FloorDiv | .mod => .Mod | .pow => .Pow
theorem opr_bin : ∀ o : Bop, OpR X (binaryOp o.py) (rV2 X.K X.w (dBin o))
  | .add => opr_add | .sub => opr_sub | .mul => opr_mul | .fdiv => opr_fdiv | .mod => opr_mod | .pow => opr_pow

/-! ### comparisons -/
theorem dEq_some {a b : D} {t : Bool} (e : dEq a b = some t) : shp a = true ∧ shp b = true ∧ PyData.eqv a.py b.py = t := by
  unfold dEq at e
  by_cases h : (shp a && shp b) = true
  · rw [if_pos h] at e
    simp only [Bool.and_eq_true] at h
    exact ⟨h.1, h.2, Option.some.inj e⟩
  · rw [if_neg h] at e; cases e
theorem opr_eq (hu : X.A.units + 64 < cLine) : OpR X (compareOp .Eq) (rB2 X.K X.w (dCmp .eq)) := OpR.case fun x y H Q ⟨dx, dy, b, Fy, hx, hy, e, q⟩ => by
  obtain ⟨s1, s2, e⟩ := dEq_some e
  exact ⟨_, op_eqD hu, _, _, hx.dps s1, hy.dps s2, s1, s2, by rw [e]; exact q⟩
theorem opr_ne (hu : X.A.units + 64 < cLine) : OpR X (compareOp .NotEq) (rB2 X.K X.w (dCmp .ne)) := OpR.case fun x y H Q ⟨dx, dy, b, Fy, hx, hy, e, q⟩ => by
  obtain ⟨t, e', rfl⟩ := Option.map_eq_some_iff.mp (show (dEq dx dy).map (!·) = some b from e)
  clear e
  have e := e'
  clear e'
  obtain ⟨s1, s2, e⟩ := dEq_some e
  exact ⟨_, op_neD hu, _, _, hx.dps s1, hy.dps s2, s1, s2, by rw [e]; exact q⟩
theorem opr_lt : OpR X (compareOp .Lt) (rB2 X.K X.w (dCmp .lt)) := OpR.case fun x y H Q ⟨dx, dy, b, Fy, hx, hy, e, q⟩ => by
  change dLt dx dy = some b at e
  unfold dLt at e
  split at e
  · cases e; cases hx; cases hy
    exact ⟨_, op_lt, _, _, rfl, rfl, q⟩
  · cases e; cases hx; cases hy
    exact ⟨_, op_lt_str, _, _, rfl, rfl, q⟩
  · cases e
theorem opr_le : OpR X (compareOp .LtE) (rB2 X.K X.w (dCmp .le)) := OpR.case fun x y H Q ⟨dx, dy, b, Fy, hx, hy, e, q⟩ => by
  change dLe dx dy = some b at e
  unfold dLe at e
  split at e
  · cases e; cases hx; cases hy
    exact ⟨_, op_le, _, _, rfl, rfl, q⟩
  · cases e; cases hx; cases hy
    exact ⟨_, op_le_str, _, _, rfl, rfl, q⟩
  · cases e
theorem opr_gt : OpR X (compareOp .Gt) (rB2 X.K X.w (dCmp .gt)) := OpR.case fun x y H Q ⟨dx, dy, b, Fy, hx, hy, e, q⟩ => by
  change dGt dx dy = some b at e
  unfold dGt at e
  split at e
  · cases e; cases hx; cases hy
    exact ⟨_, op_gt, _, _, rfl, rfl, q⟩
  · cases e
theorem opr_ge : OpR X (compareOp .GtE) (rB2 X.K X.w (dCmp .ge)) := OpR.case fun x y H Q ⟨dx, dy, b, Fy, hx, hy, e, q⟩ => by
  change dGe dx dy = some b at e
  unfold dGe at e
  split at e
  · cases e; cases hx; cases hy
    exact ⟨_, op_ge, _, _, rfl, rfl, q⟩
  · cases e
theorem dec_non {K : PySem.W.Frag} {w : World} {H : Hp} {Fy : Addr → Prop} {x : V} {dx : D} (h : Dn K w H Fy x dx []) (hn : dx = .non → False) : decide (x = V.non) = false := decide_eq_false fun z => by
  subst z
  cases h
  exact hn rfl
theorem opr_is : OpR X (compareOp .Is) (rB2 X.K X.w (dCmp .is)) := OpR.case fun x y H Q ⟨dx, dy, b, Fy, hx, hy, e, q⟩ => by
  change dIs dx dy = some b at e
  unfold dIs at e
  split at e
  · cases e; cases hx; cases hy
    exact ⟨_, op_isN, rfl, q⟩
  · rename_i hn
    cases e; cases hy
    refine ⟨_, op_isN, rfl, ?_⟩
    rw [dec_non hx hn]; exact q
  · cases e; cases hx; cases hy
    exact ⟨_, op_is_bl, _, _, rfl, rfl, by rw [← Bool.beq_eq_decide_eq]; exact q⟩
  · cases e
theorem opr_isnot : OpR X (compareOp .IsNot) (rB2 X.K X.w (dCmp .isnot)) := OpR.case fun x y H Q ⟨dx, dy, b, Fy, hx, hy, e, q⟩ => by
  obtain ⟨t, e', rfl⟩ := Option.map_eq_some_iff.mp (show (dIs dx dy).map (!·) = some b from e)
  clear e
  have e := e'
  clear e'
  unfold dIs at e
  split at e
  · cases e; cases hx; cases hy
    exact ⟨_, op_notN, rfl, q⟩
  · rename_i hn
    cases e; cases hy
    refine ⟨_, op_notN, rfl, ?_⟩
    rw [dec_non hx hn]; exact q
  · cases e; cases hx; cases hy
    exact ⟨_, op_isnot_bl, _, _, rfl, rfl, by rw [← Bool.beq_eq_decide_eq]; exact q⟩
  · cases e
end
end Eng
namespace Eng
open PySem PySem.Spec PyProof.Rows L2
section
variable {X : Cx}
/-! ### in -/
theorem shp_tup {o : Bool} {xs : List D} (h : shp (.lst o xs) = true) : PyData.canLayAll0 (pyL xs) = true := SeqAt.canLay_of_shaped h
theorem op_inT (hu : X.A.units + 65 < cLine) : OpR X (compareOp .In) (fun x y H Q => ∃ d ds, Dp X.K H x d ∧ Dp X.K H y (.tuple ds) ∧ SeqAt.shaped d = true ∧ PyData.canLayAll0 ds = true ∧ Q (.bl (ds.any fun z => PyData.eqv z d)) H) := by
  intro pins s σ H x y v u Q I rx ry ⟨d, ds, h1, h2, s1, s2, q⟩
  obtain ⟨as, r1⟩ := Dp.reads I d x v h1 rx
  obtain ⟨bs, r2⟩ := Dp.reads I (.tuple ds) y u h2 ry
  have hroom : X.A.units + 1 + min (PyData.depthAll ds) d.depth < cLine := room_in_shaped s1 hu
  exact SeqAt.in_tuple_reads r2 r1 s2 (SeqAt.canLay_of_shaped s1) hroom ⟨.bl _, H, I, rfl, q⟩
theorem op_notInT (hu : X.A.units + 65 < cLine) : OpR X (compareOp .NotIn) (fun x y H Q => ∃ d ds, Dp X.K H x d ∧ Dp X.K H y (.tuple ds) ∧ SeqAt.shaped d = true ∧ PyData.canLayAll0 ds = true ∧ Q (.bl (!ds.any fun z => PyData.eqv z d)) H) := by
  intro pins s σ H x y v u Q I rx ry ⟨d, ds, h1, h2, s1, s2, q⟩
  obtain ⟨as, r1⟩ := Dp.reads I d x v h1 rx
  obtain ⟨bs, r2⟩ := Dp.reads I (.tuple ds) y u h2 ry
  have hroom : X.A.units + 1 + min (PyData.depthAll ds) d.depth < cLine := room_in_shaped s1 hu
  exact SeqAt.notIn_tuple_reads r2 r1 s2 (SeqAt.canLay_of_shaped s1) hroom ⟨.bl _, H, I, rfl, q⟩
theorem any_py (xs : List D) (x : D) : ((pyL xs).any fun z => PyData.eqv z x.py) = xs.any fun z => PyData.eqv z.py x.py := by
  rw [pyL_map, List.any_map]; rfl
/-- dicts: what the two ways ask -/
theorem ifs {α : Type} {c : Bool} {a b : α} (h : (if c = true then some a else none) = some b) : c = true ∧ a = b := by
  cases c
  · cases h
  · exact ⟨rfl, Option.some.inj h⟩
def DcIn (X : Cx) : Prop := OpR X (compareOp .In) (rB2 X.K X.w fun x d => match d with | .dct o kvs => dIn x (.dct o kvs) | _ => none)
def DcNotIn (X : Cx) : Prop := OpR X (compareOp .NotIn) (rB2 X.K X.w fun x d => match d with | .dct o kvs => (dIn x (.dct o kvs)).map (!·) | _ => none)
theorem opr_in (hu : X.A.units + 65 < cLine) (hd : DcIn X) : OpR X (compareOp .In) (rB2 X.K X.w (dCmp .isin)) := OpR.case fun x y H Q ⟨dx, dy, b, Fy, hx, hy, e, q⟩ => by
  change dIn dx dy = some b at e
  match dy with
  | .lst o xs =>
    obtain ⟨h, e'⟩ := ifs (show (if (shp dx && shp (.lst false xs)) = true then some (xs.any fun z => PyData.eqv z.py dx.py) else none) = some b from e)
    simp only [Bool.and_eq_true] at h
    refine ⟨_, op_inD hu, _, pyL xs, hx.dps h.1, hy.dps h.2, h.1, h.2, ?_⟩
    rw [any_py, e']; exact q
  | .tup xs =>
    obtain ⟨h, e'⟩ := ifs (show (if (shp dx && shp (.tup xs)) = true then some (xs.any fun z => PyData.eqv z.py dx.py) else none) = some b from e)
    simp only [Bool.and_eq_true] at h
    refine ⟨_, op_inT hu, _, pyL xs, hx.dps h.1, hy.dps h.2, h.1, shp_tup (o := false) h.2, ?_⟩
    rw [any_py, e']; exact q
  | .dct o kvs => exact ⟨_, hd, _, _, b, Fy, hx, hy, e, q⟩
  | .str z =>
    match dx with
    | .str c =>
      cases hx; cases hy
      exact ⟨_, op_in_str, _, _, rfl, rfl, by rw [Option.some.inj e]; exact q⟩
    | .non | .bl _ | .int _ | .tup _ | .lst _ _ | .dct _ _ => cases e
  | .non | .bl _ | .int _ => cases e
theorem opr_notin (hu : X.A.units + 65 < cLine) (hd : DcNotIn X) : OpR X (compareOp .NotIn) (rB2 X.K X.w (dCmp .notin)) := OpR.case fun x y H Q ⟨dx, dy, b', Fy, hx, hy, e0, q⟩ => by
  obtain ⟨b, e, rfl⟩ := Option.map_eq_some_iff.mp (show (dIn dx dy).map (!·) = some b' from e0)
  match dy with
  | .lst o xs =>
    obtain ⟨h, e'⟩ := ifs (show (if (shp dx && shp (.lst false xs)) = true then some (xs.any fun z => PyData.eqv z.py dx.py) else none) = some b from e)
    simp only [Bool.and_eq_true] at h
    refine ⟨_, op_notInD hu, _, pyL xs, hx.dps h.1, hy.dps h.2, h.1, h.2, ?_⟩
    rw [any_py, e']; exact q
  | .tup xs =>
    obtain ⟨h, e'⟩ := ifs (show (if (shp dx && shp (.tup xs)) = true then some (xs.any fun z => PyData.eqv z.py dx.py) else none) = some b from e)
    simp only [Bool.and_eq_true] at h
    refine ⟨_, op_notInT hu, _, pyL xs, hx.dps h.1, hy.dps h.2, h.1, shp_tup (o := false) h.2, ?_⟩
    rw [any_py, e']; exact q
  | .dct o kvs => exact ⟨_, hd, _, _, _, Fy, hx, hy, e0, q⟩
  | .str z =>
    match dx with
    | .str c =>
      cases hx; cases hy
      exact ⟨_, op_notin_str, _, _, rfl, rfl, by rw [Option.some.inj e]; exact q⟩
    | .non | .bl _ | .int _ | .tup _ | .lst _ _ | .dct _ _ => cases e
  | .non | .bl _ | .int _ => cases e
def Cop.py : Cop → CmpOp
  | .eq => .Eq | .ne => .NotEq | .lt => .Lt | .le => .LtE | .gt => .Gt | .ge => .GtE | .isin => .In | .notin => .NotIn | .is => .Is | .isnot => .IsNot
theorem opr_cmp (hu : X.A.units + 65 < cLine) (h1 : DcIn X) (h2 : DcNotIn X) : ∀ o : Cop, OpR X (compareOp o.py) (rB2 X.K X.w (dCmp o))
  | .eq => opr_eq (by omega) | .ne => opr_ne (by omega) | .lt => opr_lt | .le => opr_le | .gt => opr_gt | .ge => opr_ge
  | .isin => opr_in hu h1 | .notin => opr_notin hu h2 | .is => opr_is | .isnot => opr_isnot

/-! ### an item -/
theorem IxR.case {r : R2} (h : ∀ x y H Q, r x y H Q → ∃ r', IxR X r' ∧ r' x y H Q) : IxR X r := fun value slice pins s σ H x y v u Q I rx ry q hs =>
  let ⟨_, h1, h2⟩ := h x y H Q q
  h1 value slice pins s σ H x y v u Q I rx ry h2 hs
def DcIx (X : Cx) : Prop := IxR X (rV2 X.K X.w fun d k => match d with | .dct o kvs => dSub (.dct o kvs) k | _ => none)
theorem ixr_sub (hd : DcIx X) : IxR X (rV2 X.K X.w dSub) := IxR.case fun x y H Q ⟨dx, dy, d, Fy, hx, hy, e, q⟩ => by
  match dx with
  | .lst o xs =>
    match dy with
    | .int i =>
      cases hy
      obtain ⟨a, vs, rfl, h1, h2, r1⟩ := hx.sqL
      obtain ⟨v, e1, hv⟩ := r1.at (show atI xs i = some d from e)
      exact ⟨_, ix_list, a, vs, i, v, rfl, rfl, h2, e1, q.val hv⟩
    | .non | .bl _ | .str _ | .tup _ | .lst _ _ | .dct _ _ => cases e
  | .tup xs =>
    match dy with
    | .int i =>
      cases hy
      obtain ⟨a, vs, rfl, h1, r1⟩ := hx.sqT
      obtain ⟨v, e1, hv⟩ := r1.at (show atI xs i = some d from e)
      exact ⟨_, ix_tup, a, vs, i, v, rfl, rfl, h1, e1, q.val hv⟩
    | .non | .bl _ | .str _ | .tup _ | .lst _ _ | .dct _ _ => cases e
  | .str z =>
    match dy with
    | .int i =>
      cases hx; cases hy
      change (if fits z.length = true then (atI z.cps.toList i).map fun c => D.str ⟨#[c]⟩ else none) = some d at e
      by_cases hf : fits z.length = true
      · rw [if_pos hf] at e
        obtain ⟨c, e1, rfl⟩ := Option.map_eq_some_iff.mp e
        exact ⟨_, ix_str, z, i, c, rfl, rfl, fits_le hf, e1, q.str⟩
      · rw [if_neg hf] at e; cases e
    | .non | .bl _ | .str _ | .tup _ | .lst _ _ | .dct _ _ => cases e
  | .dct o kvs => exact ⟨_, hd, _, _, _, Fy, hx, hy, e, q⟩
  | .non | .bl _ | .int _ => cases e

/-! ### a cut -/
theorem SlR.case {r : V → Option Int → Option Int → Hp → VK → Prop} (h : ∀ x lo hi H Q, r x lo hi H Q → ∃ r', SlR X r' ∧ r' x lo hi H Q) : SlR X r := fun pins s σ H x v vl vu lo hi sl Q I rx hs pl pu q =>
  let ⟨_, h1, h2⟩ := h x lo hi H Q q
  h1 pins s σ H x v vl vu lo hi sl Q I rx hs pl pu h2
theorem slr_cut : SlR X (fun x lo hi H Q => ∃ dx d Fy, Dn X.K X.w H Fy x dx [] ∧ dCut lo hi dx = some d ∧ After X.K X.w H Fy d Q) := SlR.case fun x lo hi H Q ⟨dx, d, Fy, hx, e, q⟩ => by
  match dx with
  | .lst o xs =>
    cases e
    obtain ⟨a, vs, rfl, h1, h2, r1⟩ := hx.sqL
    exact ⟨_, sl_list, a, vs, rfl, h2, fun p np => q.lst (r1.cut lo hi) p np⟩
  | .tup xs =>
    cases e
    obtain ⟨a, vs, rfl, h1, r1⟩ := hx.sqT
    refine ⟨_, sl_tupA, a, vs, rfl, h1, fun z => ?_, fun _ p np => q.tup (r1.cut lo hi) p np⟩
    have : cutL xs lo hi = xs := by
      unfold cutL
      rw [← r1.length, z.1, z.2, r1.length, List.drop_zero, Nat.sub_zero, List.take_length]
    rw [this] at q
    exact q.val hx
  | .str z =>
    change (if fits z.length = true then some (D.str (cutS z lo hi)) else none) = some d at e
    by_cases hf : fits z.length = true
    · rw [if_pos hf] at e
      cases e; cases hx
      exact ⟨_, sl_str, z, rfl, fits_le hf, q.str⟩
    · rw [if_neg hf] at e; cases e
  | .non | .bl _ | .int _ | .dct _ _ => cases e

/-! ### truth -/
theorem TruR.case {r : V → Hp → (Bool → Hp → Prop) → Prop} (h : ∀ x H Q, r x H Q → ∃ r', TruR X r' ∧ r' x H Q) : TruR X r := fun pins s σ H x v Q I rx q =>
  let ⟨_, h1, h2⟩ := h x H Q q
  h1 pins s σ H x v Q I rx h2
theorem isEmpty_len {α β : Type} {xs : List α} {ys : List β} (h : xs.length = ys.length) : xs.isEmpty = ys.isEmpty := by
  cases xs <;> cases ys <;> simp at h ⊢
theorem trr : TruR X (fun x H Q => ∃ dx b Fy, Dn X.K X.w H Fy x dx [] ∧ dTruth dx = some b ∧ Q b H) := TruR.case fun x H Q ⟨dx, b, Fy, hx, e, q⟩ => by
  match dx with
  | .non => cases hx; cases e; exact ⟨_, tru_ok, _, rfl, q⟩
  | .bl b => cases hx; cases e; exact ⟨_, tru_ok, _, rfl, q⟩
  | .int i => cases hx; cases e; exact ⟨_, tru_ok, _, rfl, q⟩
  | .str z =>
    change (if fits z.length = true then some ((z.length : Int) != 0) else none) = some b at e
    by_cases hf : fits z.length = true
    · rw [if_pos hf] at e
      cases e; cases hx
      exact ⟨_, tru_ok, _, ⟨fits_le hf, rfl⟩, q⟩
    · rw [if_neg hf] at e; cases e
  | .lst o xs =>
    cases e
    obtain ⟨a, vs, rfl, h1, h2, r1⟩ := hx.sqL
    exact ⟨_, tru_ok, _, .inl ⟨vs, h2, rfl⟩, by rw [isEmpty_len r1.length]; exact q⟩
  | .tup xs =>
    cases e
    obtain ⟨a, vs, rfl, h1, r1⟩ := hx.sqT
    exact ⟨_, tru_ok, _, .inr (.inl ⟨vs, h1, rfl⟩), by rw [isEmpty_len r1.length]; exact q⟩
  | .dct o kvs => cases e

/-! ### isinstance -/
def Ty.py : Ty → String
  | .str => "str" | .int => "int" | .bool => "bool" | .tuple => "tuple" | .list => "list"
theorem Dn.dcTy {K : PySem.W.Frag} {w : World} {H : Hp} {Fy : Addr → Prop} {v : V} {o : Bool} {kvs : List (D × D)} {pins : List (Addr × Obj)} {σ : L2.St} {s : Shared} (I : Inv X pins σ H s) (hK : X.K = K) (h : Dn K w H Fy v (.dct o kvs) []) :
    ∃ a ob es, v = .ref a ∧ s.heap.get? a = some ob ∧ DcOk a ob es ∧ es.size = kvs.length := by
  subst hK
  have len : ∀ {es : List DictEntry} {kvs : List (D × D)} {S : List Addr}, DnE X.K w H Fy es kvs S → es.length = kvs.length := by
    intro es kvs S h
    induction es generalizing kvs S with
    | nil => cases h; rfl
    | cons e es ih => cases h with | cons h1 h2 h3 h4 h5 h6 h7 r => rw [List.length_cons, List.length_cons, ih r]
  cases h with
  | dctF h f k r n => exact ⟨_, _, _, rfl, (I.hok _ _ h).1, k, by rw [← len r, Array.length_toList]⟩
  | dctK h k r n => exact ⟨_, _, _, rfl, I.kIn _ _ h, k, by rw [← len r, Array.length_toList]⟩
theorem kb_NoneType : ∀ ty : Ty, kitB "NoneType" ty.py = some (dIsi ty .non) := fun ty => by cases ty <;> decide +kernel
theorem kb_bool : ∀ ty : Ty, kitB "bool" ty.py = some (dIsi ty (.bl false)) := fun ty => by cases ty <;> decide +kernel
theorem kb_int : ∀ ty : Ty, kitB "int" ty.py = some (dIsi ty (.int 0)) := fun ty => by cases ty <;> decide +kernel
theorem kb_str : ∀ ty : Ty, kitB "str" ty.py = some (dIsi ty (.str ⟨#[]⟩)) := fun ty => by cases ty <;> decide +kernel
theorem kb_list : ∀ ty : Ty, kitB "list" ty.py = some (dIsi ty (.lst false [])) := fun ty => by cases ty <;> decide +kernel
theorem kb_tuple : ∀ ty : Ty, kitB "tuple" ty.py = some (dIsi ty (.tup [])) := fun ty => by cases ty <;> decide +kernel
theorem kb_dict : ∀ ty : Ty, kitB "dict" ty.py = some (dIsi ty (.dct false [])) := fun ty => by cases ty <;> decide +kernel
theorem Dn.kit {pins : List (Addr × Obj)} {σ : L2.St} {H : Hp} {s : Shared} {Fy : Addr → Prop} {x : V} {d : D} {u : Value} (I : Inv X pins σ H s) (h : Dn X.K X.w H Fy x d []) (rx : RelV x u) :
    ∃ (t : String) (P : Heap → Prop), PySem.W.KitX X.K u (.type t) P ∧ P s.heap ∧ u ≠ .builtin "__main__.__loader__#opaque" ∧ ∀ ty : Ty, kitB t ty.py = some (dIsi ty d) := by
  match d with
  | .non => cases h; cases rx; exact ⟨"NoneType", _, PySem.W.kitx_none, True.intro, (fun z => nomatch z), kb_NoneType⟩
  | .bl b => cases h; cases rx; exact ⟨"bool", _, PySem.W.kitx_bool, True.intro, (fun z => nomatch z), kb_bool⟩
  | .int i => cases h; obtain ⟨t, rfl⟩ := rx; exact ⟨"int", _, PySem.W.kitx_int, True.intro, (fun z => nomatch z), kb_int⟩
  | .str z => cases h; obtain ⟨t, rfl⟩ := rx; exact ⟨"str", _, PySem.W.kitx_str, True.intro, (fun z => nomatch z), kb_str⟩
  | .lst o xs =>
    obtain ⟨a, vs, rfl, h1, h2, r1⟩ := h.sqL
    cases rx
    obtain ⟨its, _, ⟨ob, n, e, c, _⟩, _⟩ := I.list h2
    exact ⟨"list", _, PySem.W.kitx_list, ⟨ob, e, c⟩, (fun z => nomatch z), kb_list⟩
  | .tup xs =>
    obtain ⟨a, vs, rfl, h1, r1⟩ := h.sqT
    cases rx
    obtain ⟨its, _, ⟨ob, e, c, _⟩, _⟩ := I.tuple h1
    exact ⟨"tuple", _, PySem.W.kitx_tuple, ⟨ob, e, c⟩, (fun z => nomatch z), kb_tuple⟩
  | .dct o kvs =>
    obtain ⟨a, ob, es, rfl, e, k, _⟩ := Dn.dcTy I rfl h
    cases rx
    exact ⟨"dict", _, PySem.W.kitx_dict, ⟨ob, e, k.ex.1⟩, (fun z => nomatch z), kb_dict⟩
theorem callr_isi (ty : Ty) : CallR X (.builtin "isinstance") (fun xs H Q => ∃ x d Fy, xs = [x, .ty ty.py] ∧ Dn X.K X.w H Fy x d [] ∧ Q (.bl (dIsi ty d)) H) := by
  intro pins s σ H xs us Q I r ⟨x, d, Fy, e, hx, q⟩
  subst e
  obtain ⟨u1, u2, rfl, r1, r2⟩ := vals2 r
  cases (show u2 = Value.type ty.py from r2)
  obtain ⟨t, P, Z, p, hn, hk⟩ := hx.kit I r1
  exact PySem.W.kia_one Z I.kIn p (kit_ty (hk ty)) hn fun tk => ⟨.bl _, H, I.tok tk, rfl, q⟩

/-! ### calls of the built-in -/
def DcLen (X : Cx) : Prop := CallR X (.builtin "len") (fun xs H Q => ∃ x o kvs Fy, xs = [x] ∧ Dn X.K X.w H Fy x (.dct o kvs) [] ∧ Q (.int kvs.length) H)
def DcList (X : Cx) : Prop := CallR X (.type "list") (fun xs H Q => ∃ x o kvs Fy, xs = [x] ∧ Dn X.K X.w H Fy x (.dct o kvs) [] ∧ After X.K X.w H Fy (.lst true (kvs.map (·.1))) Q)
theorem app_nil {S S' : List Addr} (h : [] = S ++ S') : S = [] ∧ S' = [] := List.append_eq_nil_iff.mp h.symm
theorem DnL.uncons {K : PySem.W.Frag} {w : World} {H : Hp} {Fy : Addr → Prop} {xs : List V} {d : D} {ds : List D} (h : DnL K w H Fy xs (d :: ds) []) : ∃ x r, xs = x :: r ∧ Dn K w H Fy x d [] ∧ DnL K w H Fy r ds [] := by
  generalize hS : ([] : List Addr) = S at h
  cases h with
  | cons h1 h2 =>
    obtain ⟨e1, e2⟩ := app_nil hS
    subst e1; subst e2
    exact ⟨_, _, rfl, h1, h2⟩
theorem DnL.one1 {K : PySem.W.Frag} {w : World} {H : Hp} {Fy : Addr → Prop} {xs : List V} {d : D} (h : DnL K w H Fy xs [d] []) : ∃ x, xs = [x] ∧ Dn K w H Fy x d [] := by
  obtain ⟨x, r, rfl, h1, h2⟩ := h.uncons
  cases h2
  exact ⟨x, rfl, h1⟩
theorem DnL.two2 {K : PySem.W.Frag} {w : World} {H : Hp} {Fy : Addr → Prop} {xs : List V} {d e : D} (h : DnL K w H Fy xs [d, e] []) : ∃ x y, xs = [x, y] ∧ Dn K w H Fy x d [] ∧ Dn K w H Fy y e [] := by
  obtain ⟨x, r, rfl, h1, h2⟩ := h.uncons
  obtain ⟨y, rfl, h3⟩ := h2.one1
  exact ⟨x, y, rfl, h1, h3⟩
theorem callr_un {f : Value} {g : D → Option D} (h : ∀ x dx d H Fy Q, Dn X.K X.w H Fy x dx [] → g dx = some d → After X.K X.w H Fy d Q → ∃ r', CallR X f r' ∧ r' [x] H Q) : CallR X f (rVN X.K X.w (un g)) := CallR.case fun xs H Q ⟨ds, d, Fy, hd, e, q⟩ => by
  match ds with
  | [] => cases e
  | [dx] =>
    obtain ⟨x, rfl, h1⟩ := hd.one1
    exact h x dx d H Fy Q h1 e q
  | _ :: _ :: _ => cases e
theorem callr_bi {f : Value} {g : D → D → Option D} (h : ∀ x y dx dy d H Fy Q, Dn X.K X.w H Fy x dx [] → Dn X.K X.w H Fy y dy [] → g dx dy = some d → After X.K X.w H Fy d Q → ∃ r', CallR X f r' ∧ r' [x, y] H Q) : CallR X f (rVN X.K X.w (bi g)) := CallR.case fun xs H Q ⟨ds, d, Fy, hd, e, q⟩ => by
  match ds with
  | [] => cases e
  | [_] => cases e
  | [dx, dy] =>
    obtain ⟨x, y, rfl, h1, h2⟩ := hd.two2
    exact h x y dx dy d H Fy Q h1 h2 e q
  | _ :: _ :: _ :: _ => cases e
theorem callr_len (hl : DcLen X) : CallR X (.builtin "len") (rVN X.K X.w (un dLen)) := callr_un fun x dx d H Fy Q hx e q => by
  match dx with
  | .str z =>
    obtain ⟨hf, rfl⟩ := ifs (show (if fits z.length = true then some (D.int z.length) else none) = some d from e)
    cases hx
    exact ⟨_, call_len, _, _, rfl, ⟨fits_le hf, rfl⟩, q.int⟩
  | .lst o xs =>
    cases e
    obtain ⟨a, vs, rfl, h1, h2, r1⟩ := hx.sqL
    exact ⟨_, call_len, _, _, rfl, .inl ⟨vs, h2, r1.length.symm⟩, q.int⟩
  | .tup xs =>
    cases e
    obtain ⟨a, vs, rfl, h1, r1⟩ := hx.sqT
    exact ⟨_, call_len, _, _, rfl, .inr ⟨vs, h1, r1.length.symm⟩, q.int⟩
  | .dct o kvs => cases e; exact ⟨_, hl, _, o, kvs, Fy, rfl, hx, q.int⟩
  | .non | .bl _ | .int _ => cases e
theorem callr_int : CallR X (.type "int") (rVN X.K X.w (un dInt)) := callr_un fun x dx d H Fy Q hx e q => by
  match dx with
  | .int i => cases e; cases hx; exact ⟨_, call_int1, .inl ⟨_, rfl, q.int⟩⟩
  | .bl b => cases e; cases hx; exact ⟨_, call_int1, .inr ⟨_, rfl, q.int⟩⟩
  | .non | .str _ | .tup _ | .lst _ _ | .dct _ _ => cases e
theorem callr_str : CallR X (.type "str") (rVN X.K X.w (un dStr)) := callr_un fun x dx d H Fy Q hx e q => by
  match dx with
  | .int i =>
    obtain ⟨hf, rfl⟩ := ifs (show (if decide (i.natAbs.log2 < 1920) = true then some (D.str (toString i)) else none) = some d from e)
    cases hx
    exact ⟨_, call_str_int, _, rfl, of_decide_eq_true hf, q.str⟩
  | .non | .bl _ | .str _ | .tup _ | .lst _ _ | .dct _ _ => cases e
theorem callr_list (hl : DcList X) : CallR X (.type "list") (rVN X.K X.w (un dList)) := callr_un fun x dx d H Fy Q hx e q => by
  match dx with
  | .lst o xs =>
    cases e
    obtain ⟨a, vs, rfl, h1, h2, r1⟩ := hx.sqL
    exact ⟨_, call_list_of, _, vs, rfl, .inl h2, fun p np => q.lst r1 p np⟩
  | .tup xs =>
    cases e
    obtain ⟨a, vs, rfl, h1, r1⟩ := hx.sqT
    exact ⟨_, call_list_of, _, vs, rfl, .inr h1, fun p np => q.lst r1 p np⟩
  | .dct o kvs => cases e; exact ⟨_, hl, _, o, kvs, Fy, rfl, hx, q⟩
  | .non | .bl _ | .int _ | .str _ => cases e
theorem callr_tuple : CallR X (.type "tuple") (rVN X.K X.w (un dTuple)) := callr_un fun x dx d H Fy Q hx e q => by
  match dx with
  | .lst o xs =>
    cases e
    obtain ⟨a, vs, rfl, h1, h2, r1⟩ := hx.sqL
    exact ⟨_, call_tuple_of, _, vs, rfl, .inl ⟨h2, fun p np => q.tup r1 p np⟩⟩
  | .tup xs =>
    cases e
    obtain ⟨a, vs, rfl, h1, r1⟩ := hx.sqT
    exact ⟨_, call_tuple_of, _, vs, rfl, .inr ⟨h1, q.val hx⟩⟩
  | .non | .bl _ | .int _ | .str _ | .dct _ _ => cases e
theorem callr_max (hc : X.calm = true) : CallR X (.builtin "max") (rVN X.K X.w (bi dMax)) := callr_bi fun x y dx dy d H Fy Q hx hy e q => by
  match dx, dy with
  | .int i, .int j => cases e; cases hx; cases hy; exact ⟨_, call_max2 hc, _, _, rfl, q.int⟩
  | .int _, .non | .int _, .bl _ | .int _, .str _ | .int _, .tup _ | .int _, .lst _ _ | .int _, .dct _ _ => cases e
  | .non, _ | .bl _, _ | .str _, _ | .tup _, _ | .lst _ _, _ | .dct _ _, _ => cases e
theorem callr_min (hc : X.calm = true) : CallR X (.builtin "min") (rVN X.K X.w (bi dMin)) := callr_bi fun x y dx dy d H Fy Q hx hy e q => by
  match dx, dy with
  | .int i, .int j => cases e; cases hx; cases hy; exact ⟨_, call_min2 hc, _, _, rfl, q.int⟩
  | .int _, .non | .int _, .bl _ | .int _, .str _ | .int _, .tup _ | .int _, .lst _ _ | .int _, .dct _ _ => cases e
  | .non, _ | .bl _, _ | .str _, _ | .tup _, _ | .lst _ _, _ | .dct _ _, _ => cases e

/-! ### join -/
theorem DnL.strs {K : PySem.W.Frag} {w : World} {H : Hp} {Fy : Addr → Prop} : ∀ {ds : List D} {ys : List Str} {vs : List V}, strs? ds = some ys → DnL K w H Fy vs ds [] → vs = ys.map V.str
  | [], _, _, e, h => by cases e; cases h; rfl
  | d :: ds, ys, vs, e, h => by
    match d with
    | .str z =>
      obtain ⟨r, e1, rfl⟩ := Option.map_eq_some_iff.mp (show (strs? ds).map (z :: ·) = some ys from e)
      obtain ⟨x, vr, rfl, h1, h2⟩ := h.uncons
      cases h1
      rw [DnL.strs e1 h2, List.map_cons]
    | .non | .bl _ | .int _ | .tup _ | .lst _ _ | .dct _ _ => cases e
theorem mtr_join : MtR X "str.join" (fun x xs H Q => ∃ s ds d Fy, x = .str s ∧ DnL X.K X.w H Fy xs ds [] ∧ un (dJoin s) ds = some d ∧ After X.K X.w H Fy d Q) := by
  intro pins s σ H x xs v us Q I rx rxs ⟨z, ds, d, Fy, ex, hd, e, q⟩
  match ds with
  | [] => cases e
  | [dx] =>
    obtain ⟨y, rfl, h1⟩ := hd.one1
    match dx with
    | .lst o ys =>
      obtain ⟨a, vs, rfl, h2, h3, r1⟩ := h1.sqL
      change (match strs? ys with | some zs => _ | none => none) = some d at e
      cases hs : strs? ys with
      | none => rw [hs] at e; cases e
      | some zs =>
        rw [hs] at e
        obtain ⟨hf, rfl⟩ := ifs (show (if decide ((zs.map (·.length)).sum + zs.length * z.length ≤ 16777216) = true then some (D.str (Txt.join z zs)) else none) = some d from e)
        have ev := DnL.strs hs r1
        subst ev
        exact mt_join pins s σ H x _ v us Q I rx rxs ⟨z, a, zs, ex, rfl, .inl h3, of_decide_eq_true hf, q.str⟩
    | .non | .bl _ | .int _ | .str _ | .tup _ | .dct _ _ => cases e
  | _ :: _ :: _ => cases e
end
end Eng
namespace Eng
open PySem PySem.Spec PyProof.Rows L2
/-! ### dicts with keys of any data: looking up -/
section
variable {P : Program} {w : World} {A : Around} {E : Value → Shared → Prop} {s : Shared}
/-- the entries' keys -/
structure Ent (w : World) (h : Heap) (es : Array DictEntry) (kn : List NestedKey) : Prop where
  sz : es.size = kn.length
  ok : ∀ (i : Nat) (e : DictEntry), es[i]? = some e → ∃ m, kn[i]? = some m ∧ NestedIs h m e.key ∧ m.depth ≤ 8 ∧ e.hash = m.hash w
  nd : kn.Nodup
theorem nd_get {kn : List NestedKey} (h : kn.Nodup) {i j : Nat} {n : NestedKey} (h1 : kn[i]? = some n) (h2 : kn[j]? = some n) : i = j :=
  (List.getElem?_inj (List.getElem?_eq_some_iff.mp h1).1 h).mp (h1.trans h2.symm)
abbrev places (es : Array DictEntry) (n : NestedKey) (w : World) : List Nat := placesWithHash es.size (fun i => es[i]?.map (·.hash)) (n.hash w)
theorem Ent.place {h : Heap} {es : Array DictEntry} {kn : List NestedKey} (X : Ent w h es kn) {n : NestedKey} {j : Nat} (hj : kn[j]? = some n) : j ∈ places es n w := by
  have hl : j < es.size := by rw [X.sz]; exact (List.getElem?_eq_some_iff.mp hj).1
  obtain ⟨m, e1, _, _, e2⟩ := X.ok j es[j] (Array.getElem?_eq_getElem hl)
  rw [hj] at e1; cases e1
  refine List.mem_filter.mpr ⟨List.mem_range.mpr hl, ?_⟩
  show ((es[j]?.map (·.hash)) == some (NestedKey.hash w n)) = true
  rw [Array.getElem?_eq_getElem hl, Option.map_some, e2]
  simp
theorem places_nd {es : Array DictEntry} {n : NestedKey} : (places es n w).Nodup := List.Pairwise.filter _ List.nodup_range
theorem places_lt {es : Array DictEntry} {n : NestedKey} {j : Nat} (h : j ∈ places es n w) : j < es.size := List.mem_range.mp (List.mem_filter.mp h).1
theorem quiet_all {key : Value} {n : NestedKey} {stored : List Value} {Q : Bool → Shared → Prop} (hk : NestedIs s.heap n key) (hd : n.depth ≤ 8) (hst : ∀ v ∈ stored, ∃ m, NestedIs s.heap m v ∧ m.depth ≤ 8) (q : Q false s) :
    wpAny (model P w) A (tableMayTell key stored) Q E s := by
  unfold tableMayTell
  by_cases he : stored.isEmpty = true
  · rw [if_pos he]
    exact wpAny_pure q
  · rw [if_neg he]
    refine wpAny_bind (quiet_key n key 8 s hk hd A E _ ?_)
    simp only [Bool.not_true, Bool.false_eq_true, if_false]
    refine wpAny_bind (wpAny_forIn_list _ (fun rest r s' => s' = s ∧ r = (none, ()) ∧ ∀ v ∈ rest, ∃ m, NestedIs s.heap m v ∧ m.depth ≤ 8) _ (fun x rest r s' hh => ?_) (fun r s' hh => ?_) _ _ ⟨rfl, rfl, hst⟩)
    · obtain ⟨rfl, rfl, hr⟩ := hh
      obtain ⟨m, hm, hmd⟩ := hr x List.mem_cons_self
      refine wpAny_bind (quiet_key m x 8 s' hm hmd A E _ ?_)
      simp only [Bool.not_true, Bool.false_eq_true, if_false]
      exact wpAny_pure ⟨rfl, rfl, fun v hv => hr v (List.mem_cons_of_mem _ hv)⟩
    · obtain ⟨rfl, rfl, _⟩ := hh
      exact wpAny_pure q
/-- where the walk stands: what is left of the places, and what was hit -/
def Left (kn : List NestedKey) (n : NestedKey) (rest : List Nat) (hit : Option Nat) : Prop :=
  rest.Nodup ∧ ((hit = none ∧ ∀ j, kn[j]? = some n → j ∈ rest) ∨ ∃ j, hit = some j ∧ kn[j]? = some n ∧ j ∉ rest)
theorem Left.skip {kn : List NestedKey} {n : NestedKey} {x : Nat} {rest : List Nat} {hit : Option Nat} (h : Left kn n (x :: rest) hit) (hx : kn[x]? ≠ some n) : Left kn n rest hit := by
  obtain ⟨nd, h⟩ := h
  refine ⟨(List.nodup_cons.mp nd).2, h.imp (fun ⟨a, b⟩ => ⟨a, fun j hj => ?_⟩) fun ⟨j, a, b, c⟩ => ⟨j, a, b, fun z => c (List.mem_cons_of_mem _ z)⟩⟩
  rcases List.mem_cons.mp (b j hj) with e | e
  · rw [e] at hj; exact absurd hj hx
  · exact e
theorem Left.hit {kn : List NestedKey} {n : NestedKey} {x : Nat} {rest : List Nat} {hit : Option Nat} (hn : kn.Nodup) (h : Left kn n (x :: rest) hit) (hx : kn[x]? = some n) : hit = none ∧ Left kn n rest (some x) := by
  obtain ⟨nd, h⟩ := h
  have ndx := List.nodup_cons.mp nd
  rcases h with ⟨a, b⟩ | ⟨j, a, b, c⟩
  · exact ⟨a, ndx.2, .inr ⟨x, rfl, hx, ndx.1⟩⟩
  · rw [nd_get hn b hx] at c
    exact absurd List.mem_cons_self c
theorem find_D {d : Addr} {o : Obj} {es : Array DictEntry} {ep : Nat} {kn : List NestedKey} {key : Value} {n : NestedKey} {Q : Option Nat → Shared → Prop} (hu : A.units + 8 < cLine) (ho : s.heap.get? d = some o) (hd : o.data = .dict es ep) (X : Ent w s.heap es kn)
    (hk : NestedIs s.heap n key) (hdp : n.depth ≤ 8) (q0 : n ∉ kn → Q none s) (q1 : ∀ j, kn[j]? = some n → Q (some j) s) : wpAny (model P w) A (dictFind d key (n.hash w)) Q E s := by
  have start : Left kn n (places es n w) none := ⟨places_nd, .inl ⟨rfl, fun j hj => X.place hj⟩⟩
  have out : ∀ {hit : Option Nat}, Left kn n [] hit → Q hit s := fun {hit} h => by
    rcases h.2 with ⟨rfl, b⟩ | ⟨j, rfl, b, _⟩
    · exact q0 fun z => by
        obtain ⟨j, hj⟩ := List.mem_iff_getElem?.mp z
        cases b j hj
    · exact q1 j b
  have hsub : ∀ {x : Nat} {rest : List Nat}, x ∈ places es n w → x < es.size := fun h => places_lt h
  have cmp : ∀ {x : Nat} (hx : x < es.size) {Q' : Bool → Shared → Prop}, (∃ m, kn[x]? = some m ∧ NestedIs s.heap m es[x].key ∧ m.depth ≤ 8 ∧ es[x].hash = m.hash w) := fun {x} hx {Q'} => X.ok x es[x] (Array.getElem?_eq_getElem hx)
  have plain : wpAny (model P w) A (dictWalkPlain d key (n.hash w) es (places es n w)) Q E s := by
    refine wpAny_bind (wpAny_forIn_list _ (fun rest b s' => s' = s ∧ b = (none, ()) ∧ (∀ x ∈ rest, x < es.size) ∧ Left kn n rest none) _ (fun x rest b s' hh => ?_) (fun b s' hh => ?_) _ _ ⟨rfl, rfl, fun x hx => places_lt hx, start⟩)
    · obtain ⟨rfl, rfl, hlt, hL⟩ := hh
      have hx := hlt x List.mem_cons_self
      obtain ⟨m, hm, hmi, hmd, hmh⟩ := X.ok x es[x] (Array.getElem?_eq_getElem hx)
      simp only [Array.getElem?_eq_getElem hx]
      by_cases hh : (es[x].hash == n.hash w) = true
      · rw [if_pos hh]
        refine wpAny_bind (wpAny_dictEpoch ho hd (wpAny_bind (eqAt_key m n A s' _ _ hmi hk (by omega) P w E _ (wpAny_bind (wpAny_dictEpoch ho hd ?_)))))
        show wpAny _ _ (if (ep != ep) = true then _ else _) _ E _
        rw [if_neg (by simp), ← NestedKey.decide_eq]
        by_cases e : m = n
        · subst e
          rw [decide_eq_true rfl]
          exact wpAny_bind (wpAny_rule (wpAny_pure (wpAny_pure (q1 x hm))))
        · rw [decide_eq_false e]
          exact wpAny_bind (wpAny_rule (wpAny_pure ⟨rfl, rfl, fun y hy => hlt y (List.mem_cons_of_mem _ hy), hL.skip fun z => e (Option.some.inj (hm.symm.trans z))⟩))
      · rw [if_neg hh]
        refine wpAny_pure ⟨rfl, rfl, fun y hy => hlt y (List.mem_cons_of_mem _ hy), hL.skip fun z => hh ?_⟩
        rw [hm] at z; cases z
        rw [hmh]; simp
    · obtain ⟨rfl, rfl, _, hL⟩ := hh
      exact wpAny_pure (out hL)
  by_cases hstr : ∃ z t, key = .str z t ∧ (es.all fun e => isExactStrKey e.key) = true
  · obtain ⟨z, t, rfl, hall⟩ := hstr
    cases hk
    refine PyProof.Rows.KTD.kt_dictFind_strs ho hd hall ?_
    cases hf : es.findIdx? fun e => e.key.isStr z with
    | none =>
      refine q0 fun hm => ?_
      obtain ⟨j, hj⟩ := List.mem_iff_getElem?.mp hm
      have hl : j < es.size := by rw [X.sz]; exact (List.getElem?_eq_some_iff.mp hj).1
      obtain ⟨m, e1, e2, _, _⟩ := X.ok j es[j] (Array.getElem?_eq_getElem hl)
      rw [hj] at e1; cases e1
      have hno := Array.findIdx?_eq_none_iff.mp hf es[j] (Array.getElem_mem hl)
      generalize es[j].key = kv at e2 hno
      cases e2
      simp [Value.isStr] at hno
    | some i =>
      obtain ⟨hlt, hi, _⟩ := Array.findIdx?_eq_some_iff_getElem.mp hf
      obtain ⟨m, e1, e2, _, _⟩ := X.ok i es[i] (Array.getElem?_eq_getElem hlt)
      refine q1 i ?_
      rw [e1]
      generalize es[i].key = kv at e2 hi
      cases e2 <;> simp [Value.isStr] at hi
      rw [hi]
  · unfold dictFind
    try with_reducible refine wpAny_holding ?_
    refine wpAny_bind (wpAny_dictEntries ho hd ?_)
    dsimp only
    have hst : ∀ v ∈ (places es n w).filterMap (fun i => es[i]?.map (·.key)), ∃ m, NestedIs s.heap m v ∧ m.depth ≤ 8 := fun v hv => by
      obtain ⟨i, _, hi⟩ := List.mem_filterMap.mp hv
      obtain ⟨e, he, rfl⟩ := Option.map_eq_some_iff.mp hi
      obtain ⟨m, _, h2, h3, _⟩ := X.ok i e he
      exact ⟨m, h2, h3⟩
    have hany : ¬ (es.any fun e => e.key == key && e.hash != n.hash w) = true := fun h => by
      rw [← Array.any_toList, List.any_eq_true] at h
      obtain ⟨e, hin, hc⟩ := h
      obtain ⟨j, hj, rfl⟩ := Array.mem_iff_getElem.mp (Array.mem_toList_iff.mp hin)
      obtain ⟨m, _, h2, _, h4⟩ := X.ok j es[j] (Array.getElem?_eq_getElem hj)
      simp only [Bool.and_eq_true, beq_iff_eq, bne_iff_ne] at hc
      rw [hc.1] at h2
      exact hc.2 (by rw [h4, NestedIs.inj _ _ _ h2 hk])
    split
    · rename_i z t
      have hno : ¬ (es.all fun e => isExactStrKey e.key) = true := fun h => hstr ⟨z, t, rfl, h⟩
      rw [if_neg hno]
      by_cases hall : ((Value.str z t :: (places es n w).filterMap (fun i => es[i]?.map (·.key))).all carriedByValue) = true
      · rw [if_pos hall]
        exact plain
      · rw [if_neg hall]
        dsimp only
        by_cases hone : (((places es n w).filterMap (fun i => es[i]?.map (·.key))) == [Value.str z t]) = true
        all_goals (first | rw [if_pos hone] | rw [if_neg hone])
        all_goals (first | refine wpAny_bind (wpAny_pure ?_) | refine wpAny_bind (quiet_all hk hdp hst ?_))
        all_goals (
          rw [if_neg (by simp)]
          refine wpAny_bind (wpAny_forIn_list _ (fun rest b s' => s' = s ∧ ∃ hit, b = (none, hit) ∧ (∀ x ∈ rest, x < es.size) ∧ Left kn n rest hit) _ (fun x rest b s' hh => ?_) (fun b s' hh => ?_) _ _ ⟨rfl, none, rfl, fun x hx => places_lt hx, start⟩)
          · obtain ⟨rfl, hit, rfl, hlt, hL⟩ := hh
            have hx := hlt x List.mem_cons_self
            have hlt' : ∀ y ∈ rest, y < es.size := fun y hy => hlt y (List.mem_cons_of_mem _ hy)
            obtain ⟨m, hm, hmi, hmd, hmh⟩ := X.ok x es[x] (Array.getElem?_eq_getElem hx)
            simp only [Array.getElem?_eq_getElem hx]
            by_cases hh : (es[x].hash == n.hash w) = true
            · rw [if_pos hh]
              refine wpAny_bind (wpAny_dictEpoch ho hd (wpAny_bind (eqAt_key m n A s' _ _ hmi hk (by omega) P w E _ (wpAny_bind (wpAny_dictEpoch ho hd ?_)))))
              show wpAny _ _ (if (ep != ep) = true then _ else _) _ E _
              rw [if_neg (by simp), ← NestedKey.decide_eq]
              by_cases e : m = n
              · subst e
                obtain ⟨rfl, hL'⟩ := hL.hit X.nd hm
                rw [decide_eq_true rfl]
                simp only [Option.isSome_none, Bool.false_eq_true, if_false, if_true]
                refine wpAny_bind (wpAny_rule ?_)
                split
                · exact wpAny_pure (wpAny_pure (q1 x hm))
                · exact wpAny_pure ⟨rfl, some x, rfl, hlt', hL'⟩
              · rw [decide_eq_false e]
                simp only [Bool.false_eq_true, if_false]
                refine wpAny_bind (wpAny_rule ?_)
                rw [if_neg (by simp)]
                exact wpAny_pure ⟨rfl, hit, rfl, hlt', hL.skip fun z => e (Option.some.inj (hm.symm.trans z))⟩
            · rw [if_neg hh]
              refine wpAny_pure ⟨rfl, hit, rfl, hlt', hL.skip fun z => hh ?_⟩
              rw [hm] at z; cases z
              rw [hmh]; simp
          · obtain ⟨rfl, hit, rfl, _, hL⟩ := hh
            exact wpAny_pure (out hL))
    · by_cases hall : ((key :: (places es n w).filterMap (fun i => es[i]?.map (·.key))).all carriedByValue) = true
      · rw [if_pos hall]
        exact plain
      · rw [if_neg hall]
        split
        rename_i a _
        rw [if_neg hany]
        by_cases hone : (((places es n w).filterMap (fun i => es[i]?.map (·.key))) == [Value.ref a]) = true
        rotate_left 2
        by_cases hone : (((places es n w).filterMap (fun i => es[i]?.map (·.key))) == [key]) = true
        all_goals (first | rw [if_pos hone] | rw [if_neg hone])
        all_goals (first | refine wpAny_bind (wpAny_pure ?_) | refine wpAny_bind (quiet_all hk hdp hst ?_))
        all_goals (
          rw [if_neg (by simp)]
          refine wpAny_bind (wpAny_forIn_list _ (fun rest b s' => s' = s ∧ ∃ hit, b = (none, hit) ∧ (∀ x ∈ rest, x < es.size) ∧ Left kn n rest hit) _ (fun x rest b s' hh => ?_) (fun b s' hh => ?_) _ _ ⟨rfl, none, rfl, fun x hx => places_lt hx, start⟩)
          · obtain ⟨rfl, hit, rfl, hlt, hL⟩ := hh
            have hx := hlt x List.mem_cons_self
            have hlt' : ∀ y ∈ rest, y < es.size := fun y hy => hlt y (List.mem_cons_of_mem _ hy)
            obtain ⟨m, hm, hmi, hmd, hmh⟩ := X.ok x es[x] (Array.getElem?_eq_getElem hx)
            simp only [Array.getElem?_eq_getElem hx]
            by_cases hh : (es[x].hash == n.hash w) = true
            · rw [if_pos hh]
              refine wpAny_bind (wpAny_dictEpoch ho hd (wpAny_bind (eqAt_key m n A s' _ _ hmi hk (by omega) P w E _ (wpAny_bind (wpAny_dictEpoch ho hd ?_)))))
              show wpAny _ _ (if (ep != ep) = true then _ else _) _ E _
              rw [if_neg (by simp), ← NestedKey.decide_eq]
              by_cases e : m = n
              · subst e
                obtain ⟨rfl, hL'⟩ := hL.hit X.nd hm
                rw [decide_eq_true rfl]
                simp only [Option.isSome_none, Bool.false_eq_true, if_false, if_true]
                refine wpAny_bind (wpAny_rule ?_)
                split
                · exact wpAny_pure (wpAny_pure (q1 x hm))
                · exact wpAny_pure ⟨rfl, some x, rfl, hlt', hL'⟩
              · rw [decide_eq_false e]
                simp only [Bool.false_eq_true, if_false]
                refine wpAny_bind (wpAny_rule ?_)
                rw [if_neg (by simp)]
                exact wpAny_pure ⟨rfl, hit, rfl, hlt', hL.skip fun z => e (Option.some.inj (hm.symm.trans z))⟩
            · rw [if_neg hh]
              refine wpAny_pure ⟨rfl, hit, rfl, hlt', hL.skip fun z => hh ?_⟩
              rw [hm] at z; cases z
              rw [hmh]; simp
          · obtain ⟨rfl, hit, rfl, _, hL⟩ := hh
            exact wpAny_pure (out hL))
end
end Eng
namespace Eng
open PySem PySem.Spec PyProof.Rows L2
section
variable {K : PySem.W.Frag} {w : World} {H : Hp} {Fy : Addr → Prop}
/-- one entry -/
structure En (K : PySem.W.Frag) (w : World) (H : Hp) (Fy : Addr → Prop) (S : List Addr) (e : DictEntry) (p : D × D) (n : NestedKey) : Prop where
  nk : p.1.nk = some n
  dp : n.depth ≤ 8
  hs : e.hash = n.hash w
  key : ∃ k, RelV k e.key ∧ Dn K w H Fy k p.1 []
  val : ∃ v S', RelV v e.val ∧ Dn K w H Fy v p.2 S' ∧ ∀ a ∈ S', a ∈ S
theorem En.sub {S S' : List Addr} {e : DictEntry} {p : D × D} {n : NestedKey} (h : En K w H Fy S e p n) (hs : ∀ a ∈ S, a ∈ S') : En K w H Fy S' e p n :=
  ⟨h.nk, h.dp, h.hs, h.key, let ⟨v, T, a, b, c⟩ := h.val; ⟨v, T, a, b, fun x hx => hs x (c x hx)⟩⟩
theorem DnE.length : ∀ {es : List DictEntry} {kvs : List (D × D)} {S : List Addr}, DnE K w H Fy es kvs S → es.length = kvs.length
  | _, _, _, .nil => rfl
  | _, _, _, .cons _ _ _ _ _ _ _ r => by rw [List.length_cons, List.length_cons, DnE.length r]
theorem DnE.get : ∀ {es : List DictEntry} {kvs : List (D × D)} {S : List Addr} {i : Nat} {e : DictEntry}, DnE K w H Fy es kvs S → es[i]? = some e → ∃ p n, kvs[i]? = some p ∧ En K w H Fy S e p n
  | _, _, _, _, _, .nil, h => by simp at h
  | _, _, _, 0, _, .cons h1 h2 h3 h4 h5 h6 h7 r, h => by
    simp at h; subst h
    exact ⟨_, _, rfl, h4, h5, h6, ⟨_, h1, h3⟩, _, _, h2, h7, fun a ha => List.mem_append_left _ ha⟩
  | _, _, _, i + 1, _, .cons h1 h2 h3 h4 h5 h6 h7 r, h => by
    obtain ⟨p, n, e1, he⟩ := DnE.get (i := i) r (by simpa using h)
    exact ⟨p, n, by simpa using e1, he.sub fun a ha => List.mem_append_right _ ha⟩
/-- the keys, all of them some -/
theorem DnE.kn : ∀ {es : List DictEntry} {kvs : List (D × D)} {S : List Addr}, DnE K w H Fy es kvs S → ∃ kn : List NestedKey, kvs.map (fun p => p.1.nk) = kn.map some
  | _, _, _, .nil => ⟨[], rfl⟩
  | _, _, _, .cons (n := n) h1 h2 h3 h4 h5 h6 h7 r => by
    obtain ⟨kn, e⟩ := DnE.kn r
    exact ⟨n :: kn, by rw [List.map_cons, List.map_cons, e, h4]⟩
theorem dFind_get {kvs : List (D × D)} (hn : (kvs.map fun p => p.1.nk).Nodup) {j : Nat} {p : D × D} {n : NestedKey} (h : kvs[j]? = some p) (e : p.1.nk = some n) : dFind kvs n = some p.2 := by
  induction kvs generalizing j with
  | nil => simp at h
  | cons q r ih =>
    rw [List.map_cons, List.nodup_cons] at hn
    unfold dFind
    rw [List.find?_cons]
    cases j with
    | zero =>
      simp at h; subst h
      rw [decide_eq_true e]; rfl
    | succ j =>
      have h' : r[j]? = some p := by simpa using h
      have : ¬ q.1.nk = some n := fun z => hn.1 (List.mem_map.mpr ⟨p, List.mem_of_getElem? h', e.trans z.symm⟩)
      rw [decide_eq_false this]
      exact ih hn.2 h'
theorem dFind_none {kvs : List (D × D)} {n : NestedKey} (h : ∀ p ∈ kvs, p.1.nk ≠ some n) : dFind kvs n = none := by
  unfold dFind
  rw [List.find?_eq_none.mpr fun p hp => by simpa using h p hp]; rfl
theorem dHas_find (kvs : List (D × D)) (n : NestedKey) : dHas kvs n = (dFind kvs n).isSome := by
  unfold dHas dFind
  induction kvs with
  | nil => rfl
  | cons p r ih =>
    rw [List.any_cons, List.find?_cons]
    by_cases h : p.1.nk = some n
    · rw [decide_eq_true h]; rfl
    · rw [decide_eq_false h]; exact ih
end
section
variable {X : Cx} {pins : List (Addr × Obj)} {σ : L2.St} {H : Hp} {s : Shared} {Fy : Addr → Prop}
mutual
theorem Dn.nested (I : Inv X pins σ H s) : ∀ {v : V} {d : D} {S : List Addr} {n : NestedKey} {u : Value}, Dn X.K X.w H Fy v d S → d.nk = some n → RelV v u → NestedIs s.heap n u
  | _, _, _, _, _, .non, e, r => by cases e; cases r; exact .none
  | _, _, _, _, _, .bl b, e, r => by cases e; cases r; exact .bool (by cases b <;> rfl)
  | _, _, _, _, _, .int i, e, r => by cases e; obtain ⟨t, rfl⟩ := r; exact .int _ _
  | _, _, _, _, _, .str x, e, r => by cases e; obtain ⟨t, rfl⟩ := r; exact .text _ _
  | _, _, _, _, _, .tup (ds := ds) h r', e, r => by
    obtain ⟨ks, e', rfl⟩ := Option.map_eq_some_iff.mp (show (nkL ds).map NestedKey.tup = some _ from e)
    cases r
    obtain ⟨its, rv, ⟨ob, h1, h2, n, h3⟩, _⟩ := I.tuple h
    exact .tup h1 h2 h3 (by simpa using DnL.nested I r' e' rv)
  | _, _, _, _, _, .lstF h r', e, _ => by cases e
  | _, _, _, _, _, .lstO h r', e, _ => by cases e
  | _, _, _, _, _, .dctF h f k r' n, e, _ => by cases e
  | _, _, _, _, _, .dctK h k r' n, e, _ => by cases e
  | _, _, _, _, _, .dctO h k r' n, e, _ => by cases e
theorem DnL.nested (I : Inv X pins σ H s) : ∀ {vs : List V} {ds : List D} {S : List Addr} {ns : List NestedKey} {us : List Value}, DnL X.K X.w H Fy vs ds S → nkL ds = some ns → Vals vs us → NestedAll s.heap ns us
  | _, _, _, _, _, .nil, e, r => by cases e; cases r; exact .nil
  | _, _, _, _, _, .cons h h', e, r => by
    simp only [nkL] at e
    split at e
    · rename_i k ks e1 e2
      cases e
      cases r with
      | cons r1 r2 => exact .cons (Dn.nested I h e1 r1) (DnL.nested I h' e2 r2)
    · cases e
end
theorem DnE.ent (I : Inv X pins σ H s) {es : Array DictEntry} {kvs : List (D × D)} {S : List Addr} (h : DnE X.K X.w H Fy es.toList kvs S) (hn : (kvs.map fun p => p.1.nk).Nodup) {kn : List NestedKey} (e : kvs.map (fun p => p.1.nk) = kn.map some) : Ent X.w s.heap es kn := by
  have hl : es.size = kn.length := by
    have := h.length
    have := congrArg List.length e
    simp at this
    rw [← Array.length_toList]; omega
  refine ⟨hl, fun i en hi => ?_, ?_⟩
  · obtain ⟨p, n, e1, hE⟩ := h.get (i := i) (by rw [Array.getElem?_toList]; exact hi)
    obtain ⟨k, rk, hk⟩ := hE.key
    refine ⟨n, ?_, hk.nested I hE.nk rk, hE.dp, hE.hs⟩
    have := congrArg (·[i]?) e
    simp only [List.getElem?_map, e1, Option.map_some, hE.nk] at this
    cases hk : kn[i]? with
    | none => rw [hk] at this; cases this
    | some m => rw [hk] at this; cases this; rfl
  · rw [e] at hn
    exact List.Pairwise.of_map some (fun a b h z => h (congrArg some z)) hn
/-- a dict as it stands -/
theorem Dn.dict (I : Inv X pins σ H s) {v : V} {o : Bool} {kvs : List (D × D)} (h : Dn X.K X.w H Fy v (.dct o kvs) []) :
    ∃ a ob es kn, v = .ref a ∧ s.heap.get? a = some ob ∧ DcOk a ob es ∧ DnE X.K X.w H Fy es.toList kvs [] ∧ (kvs.map fun p => p.1.nk).Nodup ∧ kvs.map (fun p => p.1.nk) = kn.map some ∧ Ent X.w s.heap es kn := by
  cases h with
  | dctF h f k r n => obtain ⟨kn, e⟩ := r.kn; exact ⟨_, _, _, kn, rfl, (I.hok _ _ h).1, k, r, n, e, r.ent I n e⟩
  | dctK h k r n => obtain ⟨kn, e⟩ := r.kn; exact ⟨_, _, _, kn, rfl, I.kIn _ _ h, k, r, n, e, r.ent I n e⟩
theorem kn_get {kvs : List (D × D)} {kn : List NestedKey} (e : kvs.map (fun p => p.1.nk) = kn.map some) {j : Nat} {n : NestedKey} (h : kn[j]? = some n) : ∃ p, kvs[j]? = some p ∧ p.1.nk = some n := by
  have := congrArg (·[j]?) e
  simp only [List.getElem?_map, h, Option.map_some] at this
  cases hk : kvs[j]? with
  | none => rw [hk] at this; cases this
  | some p => rw [hk] at this; exact ⟨p, rfl, by simpa using this⟩
theorem kn_not {kvs : List (D × D)} {kn : List NestedKey} (e : kvs.map (fun p => p.1.nk) = kn.map some) {n : NestedKey} (h : n ∉ kn) : ∀ p ∈ kvs, p.1.nk ≠ some n := fun p hp z => by
  have : some n ∈ kn.map some := by rw [← e, ← z]; exact List.mem_map.mpr ⟨p, hp, rfl⟩
  obtain ⟨m, hm, e2⟩ := List.mem_map.mp this
  cases e2
  exact h hm
theorem dKey_some {d : D} {n : NestedKey} (h : dKey d = some n) : d.nk = some n ∧ n.depth ≤ 8 := by
  unfold dKey at h
  split at h
  · split at h
    · rename_i m e hm
      cases h
      exact ⟨e, hm⟩
    · cases h
  · cases h
/-- the value at a key -/
theorem get_D {A : Around} {E : Value → Shared → Prop} (I : Inv X pins σ H s) (hu : A.units + 8 < cLine) {o : Bool} {kvs : List (D × D)} {x y : V} {a : Addr} {kd : D} {n : NestedKey} {key : Value} {Q : Option Value → Shared → Prop}
    (hd : Dn X.K X.w H Fy (.ref a) (.dct o kvs) []) (hk : Dn X.K X.w H Fy y kd []) (ek : dKey kd = some n) (rk : RelV y key)
    (q0 : dFind kvs n = none → ∀ tk, Q none { s with toks := tk }) (q1 : ∀ d v u, dFind kvs n = some d → RelV v u → Dn X.K X.w H Fy v d [] → ∀ tk, Q (some u) { s with toks := tk }) : wpAny (model X.prog X.w) A (dictGet a key) Q E s := by
  obtain ⟨e1, e2⟩ := dKey_some ek
  obtain ⟨a', ob, es, kn, ea, ho, k, r, hn, e, En⟩ := hd.dict I
  cases ea
  obtain ⟨ep, hdt⟩ := k.dt
  have hkey := hk.nested I e1 rk
  unfold dictGet
  try with_reducible refine wpAny_holding ?_
  refine wpAny_bind (pyHash_key n key A s _ hkey (by omega) (wpAny_bind (find_D (s := { s with toks := s.toks + n.draws }) hu ho hdt En hkey e2 (fun hno => ?_) fun j hj => ?_)))
  · exact wpAny_pure (q0 (dFind_none (kn_not e hno)) _)
  · obtain ⟨p, hp, hpn⟩ := kn_get e hj
    have hl : j < es.size := by rw [En.sz]; exact (List.getElem?_eq_some_iff.mp hj).1
    obtain ⟨p', m, hp', hE⟩ := r.get (i := j) (by rw [Array.getElem?_toList]; exact Array.getElem?_eq_getElem hl)
    rw [hp] at hp'; cases hp'
    obtain ⟨v, S', rv, hv, hS⟩ := hE.val
    have : S' = [] := List.eq_nil_iff_forall_not_mem.mpr fun b hb => by cases hS b hb
    subst this
    refine wpAny_bind (wpAny_dictEntries (s := { s with toks := s.toks + n.draws }) ho hdt ?_)
    rw [Array.getElem?_eq_getElem hl]
    exact wpAny_pure (q1 _ v _ (dFind_get hn hp hpn) rv hv _)
end
section
variable {X : Cx}
theorem typeIs_dc {s : Shared} {a : Addr} {ob : Obj} {es : Array DictEntry} (h : s.heap.get? a = some ob) (k : DcOk a ob es) : s.TypeIs (.ref a) "dict" := ⟨ob, h, k.ex.1⟩
theorem opr_dcin (hu : X.A.units + 9 < cLine) : DcIn X := by
  intro pins s σ H x y v u Q I rx ry ⟨dx, dy, b, Fy, hx, hy, e, q⟩
  match dy with
  | .dct o kvs =>
    obtain ⟨n, en, rfl⟩ := Option.map_eq_some_iff.mp (show (dKey dx).map (dHas kvs) = some b from e)
    obtain ⟨a, ob, es, kn, rfl, ho, k, _⟩ := hy.dict I
    cases ry
    have hT := typeIs_dc ho k
    have hu1 : X.A.in1.units + 8 < cLine := by show X.A.units + 1 + 8 < cLine; omega
    show wpAny _ _ (do return Value.bool (← contains (Value.ref a) v)) _ _ s
    refine wpAny_bind (wpAny_contains_slot hT F.slot_dict_contains (call_meetsIn F.slot_dict_contains hT F.entry_dict_contains (F.args_dict_contains_2 _ _)
      (S := fun A' R s' => A' = X.A ∧ s' = s ∧ ∀ tk, R (.ok (.ret (.bool (dHas kvs n)))) { s with toks := tk }) (fun A' R s' hS => ?_) ⟨rfl, rfl, fun tk => wpAny_truthy_bool (wpAny_pure ⟨.bl _, H, I.tok tk, rfl, q⟩)⟩))
    obtain ⟨rfl, rfl, hq⟩ := hS
    show wpAny _ _ (dictGet a v >>= _) _ _ _
    refine wpAny_bind (get_D (x := .non) I hu1 hy hx en rx (fun h0 tk => ?_) fun d z uz h1 _ _ tk => ?_)
    · rw [dHas_find, h0] at hq
      show wpAny _ _ (Builtin.Dict.pendingKey? a v >>= _) _ _ _
      exact wpAny_bind (wpAny_pendingKey_other k.ns (wpAny_pure (hq tk)))
    · rw [dHas_find, h1] at hq
      exact wpAny_pure (hq tk)
  | .non | .bl _ | .int _ | .str _ | .tup _ | .lst _ _ => cases e
theorem opr_dcnotin (hu : X.A.units + 9 < cLine) : DcNotIn X := by
  intro pins s σ H x y v u Q I rx ry ⟨dx, dy, b, Fy, hx, hy, e, q⟩
  match dy with
  | .dct o kvs =>
    obtain ⟨b', e', rfl⟩ := Option.map_eq_some_iff.mp (show (dIn dx (.dct o kvs)).map (!·) = some b from e)
    have hin := opr_dcin hu pins s σ H x y v u (fun z H' => z = .bl b' ∧ H' = H) I rx ry ⟨dx, .dct o kvs, b', Fy, hx, hy, e', rfl, rfl⟩
    obtain ⟨n, en, rfl⟩ := Option.map_eq_some_iff.mp (show (dKey dx).map (dHas kvs) = some b' from e')
    obtain ⟨a, ob, es, kn, rfl, ho, k, _⟩ := hy.dict I
    cases ry
    have hT := typeIs_dc ho k
    have hu1 : X.A.in1.units + 8 < cLine := by show X.A.units + 1 + 8 < cLine; omega
    show wpAny _ _ (do return Value.bool (!(← contains (Value.ref a) v))) _ _ s
    refine wpAny_bind (wpAny_contains_slot hT F.slot_dict_contains (call_meetsIn F.slot_dict_contains hT F.entry_dict_contains (F.args_dict_contains_2 _ _)
      (S := fun A' R s' => A' = X.A ∧ s' = s ∧ ∀ tk, R (.ok (.ret (.bool (dHas kvs n)))) { s with toks := tk }) (fun A' R s' hS => ?_) ⟨rfl, rfl, fun tk => wpAny_truthy_bool (wpAny_pure ⟨.bl _, H, I.tok tk, rfl, q⟩)⟩))
    obtain ⟨rfl, rfl, hq⟩ := hS
    show wpAny _ _ (dictGet a v >>= _) _ _ _
    refine wpAny_bind (get_D (x := .non) I hu1 hy hx en rx (fun h0 tk => ?_) fun d z uz h1 _ _ tk => ?_)
    · rw [dHas_find, h0] at hq
      show wpAny _ _ (Builtin.Dict.pendingKey? a v >>= _) _ _ _
      exact wpAny_bind (wpAny_pendingKey_other k.ns (wpAny_pure (hq tk)))
    · rw [dHas_find, h1] at hq
      exact wpAny_pure (hq tk)
  | .non | .bl _ | .int _ | .str _ | .tup _ | .lst _ _ => cases e
theorem ixr_dc (hu : X.A.units + 9 < cLine) : DcIx X := by
  intro value slice pins s σ H x y v u Q I rx ry ⟨dx, dy, d, Fy, hx, hy, e, q⟩ hs
  match dx with
  | .dct o kvs =>
    obtain ⟨n, en, ef⟩ := Option.bind_eq_some_iff.mp (show (dKey dy).bind (dFind kvs) = some d from e)
    obtain ⟨a, ob, es, kn, rfl, ho, k, _⟩ := hx.dict I
    cases rx
    have hT := typeIs_dc ho k
    have hu1 : X.A.in1.units + 8 < cLine := by show X.A.units + 1 + 8 < cLine; omega
    refine tail_any hT F.slot_dict_getitem.lookup ?_ hs
    unfold getItem
    try with_reducible refine wpAny_holding ?_
    refine wpAny_bind (wpAny_sequenceKey hT (by decide) (wpAny_bind (wpAny_callSpecial?_slot (name := Str.ofString "__getitem__") hT F.slot_dict_getitem
      (wpAny_call_entry F.slot_dict_getitem hT F.entry_dict_getitem ?_ (F.args_dict_getitem_2 _ _)))))
    show wpAny _ _ (dictGet a u >>= _) _ _ s
    refine wpAny_bind (get_D (x := .non) I hu1 hx hy en ry (fun h0 tk => ?_) fun d' z uz h1 rz hz tk => ?_)
    · rw [ef] at h0; cases h0
    · rw [ef] at h1; cases h1
      exact wpAny_pure ⟨uz, rfl, wpAny_pure ⟨z, H, I.tok tk, rz, q.val hz⟩⟩
  | .non | .bl _ | .int _ | .str _ | .tup _ | .lst _ _ => cases e
theorem callr_dclen : DcLen X := by
  intro pins s σ H xs us Q I r ⟨x, o, kvs, Fy, e, hx, q⟩
  subst e
  obtain ⟨u, rfl, rx⟩ := vals1 r
  obtain ⟨a, ob, es, kn, rfl, ho, k, r1, _⟩ := hx.dict I
  cases rx
  have hsz : es.size = kvs.length := by rw [← r1.length, Array.length_toList]
  have hz := k.sz
  rw [sizeLine_eq] at hz
  obtain ⟨ep, hdt⟩ := k.dt
  refine PyProof.Rows.call_len_slot (n := es.size) (typeIs_dc ho k) F.slot_dict_len (fun Q' hq => call_len_raw k.ns ⟨ob, ho, k.ex, hdt⟩ hq) (by omega) (by omega) ?_
  rw [hsz]
  exact ⟨.int _, H, I.tok _, ⟨_, rfl⟩, q⟩
theorem vals_list {K : PySem.W.Frag} {w : World} {H : Hp} {Fy : Addr → Prop} : ∀ {us : List Value} {ds : List D}, us.length = ds.length → (∀ (j : Nat) (u : Value), us[j]? = some u → ∃ d v, ds[j]? = some d ∧ RelV v u ∧ Dn K w H Fy v d []) → ∃ vs, Vals vs us ∧ DnL K w H Fy vs ds []
  | [], [], _, _ => ⟨[], .nil, .nil⟩
  | [], _ :: _, h, _ => by simp at h
  | _ :: _, [], h, _ => by simp at h
  | u :: us, d :: ds, h, f => by
    obtain ⟨d', v, e, rv, hv⟩ := f 0 u rfl
    cases e
    obtain ⟨vs, r, hr⟩ := vals_list (us := us) (ds := ds) (by simpa using h) fun j u hu => by simpa using f (j + 1) u (by simpa using hu)
    exact ⟨v :: vs, .cons rv r, DnL.cons (S := []) (S' := []) hv hr⟩
theorem vals_of {K : PySem.W.Frag} {w : World} {H : Hp} {Fy : Addr → Prop} {acc : Array Value} {ds : List D} {n : Nat} (h : acc.size = n) (hd : n = ds.length) (f : ∀ (j : Nat) (u : Value), acc[j]? = some u → ∃ d v, ds[j]? = some d ∧ RelV v u ∧ Dn K w H Fy v d []) :
    ∃ vs, Vals vs acc.toList ∧ DnL K w H Fy vs ds [] := vals_list (by rw [Array.length_toList]; omega) fun j u hu => f j u (by rw [← Array.getElem?_toList]; exact hu)
theorem callr_dclist (calm : X.calm = true) : DcList X := by
  intro pins s σ H xs us Q I r ⟨x, o, kvs, Fy, e, hx, q⟩
  subst e
  obtain ⟨u, rfl, rx⟩ := vals1 r
  obtain ⟨a, ob, es, kn, rfl, ho, k, r1, _⟩ := hx.dict I
  cases rx
  obtain ⟨ep, hdt⟩ := k.dt
  have hsz : es.size = kvs.length := by rw [← r1.length, Array.length_toList]
  refine PySem.W.kdl_call (PySem.KdlSrc.rawDict (es := es) (ep := ep) k.ns) (I.ok.hd calm) ⟨ob, ho, k.ex, hdt⟩ k.sz fun h' tk acc' c' kp hnew hit => ?_
  have hf : H s.heap.objs.size = none := I.hok.fresh (Nat.le_refl _)
  -- the keys' values
  obtain ⟨vs, rv, hv⟩ : ∃ vs, Vals vs acc'.toList ∧ DnL X.K X.w H Fy vs (kvs.map (·.1)) [] := by
    refine vals_of (n := es.size) hit.1 (by rw [List.length_map]; omega) fun j u hu => ?_
    obtain ⟨hj, rfl⟩ := hit.2 j u hu
    obtain ⟨p, n, hp, hE⟩ := r1.get (i := j) (by rw [Array.getElem?_toList]; exact Array.getElem?_eq_getElem hj)
    obtain ⟨kv, rk, hk⟩ := hE.key
    exact ⟨p.1, kv, by rw [List.getElem?_map, hp]; rfl, rk, hk⟩
  have hz : vs.length ≤ sizeLine := by rw [hv.length, List.length_map, ← hsz]; exact k.sz
  exact ⟨.ref s.heap.objs.size, upd H s.heap.objs.size (.lst vs), I.laid kp (Nat.le_refl _) ⟨hz, acc'.toList, c', rv, by simpa using hnew⟩, rfl, q.lst hv _ hf⟩
end
end Eng
namespace Eng
open PySem PySem.Spec PyProof.Rows L2
/-! ### sorted -/
def rSortD (K : PySem.W.Frag) (w : World) : List V → Hp → VK → Prop := fun vs H Q => ∃ (a : Addr) (xs : List V) (ds : List D) (Fy : Addr → Prop), vs = [.ref a] ∧ SqL K H a xs ∧ DnL K w H Fy xs ds [] ∧ sortB ds = true ∧
  ∀ (ys : List V) (p : Addr), DnL K w H Fy ys (ds.mergeSort leD) [] → H p = none → Q (.ref p) (upd H p (.lst ys))
section
variable {X : Cx} {K : PySem.W.Frag} {w : World} {H : Hp} {Fy : Addr → Prop}
theorem each_of {R : Value → D → Prop} : ∀ {xs : List V} {its : List Value} {ds : List D} {S : List Addr}, Vals xs its → DnL K w H Fy xs ds S → S = [] → (∀ v u d, d ∈ ds → RelV v u → Dn K w H Fy v d [] → R u d) → PySem.W.EachIs R its ds
  | _, _, _, _, .nil, .nil, _, _ => .nil
  | _, _, _, _, .cons r rs, .cons h hs, e, f => by
    obtain ⟨e1, e2⟩ := List.append_eq_nil_iff.mp e
    subst e1
    exact .cons (f _ _ _ List.mem_cons_self r h) (each_of rs hs e2 fun v u d hd => f v u d (List.mem_cons_of_mem _ hd))
theorem of_each : ∀ {its : List Value} {ds : List D}, PySem.W.EachIs (fun u d => ∃ v, RelV v u ∧ Dn K w H Fy v d []) its ds → ∃ ys, Vals ys its ∧ DnL K w H Fy ys ds []
  | _, _, .nil => ⟨[], .nil, .nil⟩
  | _, _, .cons ⟨v, r, h⟩ t => by
    obtain ⟨ys, h1, h2⟩ := of_each t
    exact ⟨v :: ys, .cons r h1, DnL.cons (S := []) (S' := []) h h2⟩
theorem callr_sortD (hu : X.A.units + 65 < cLine) : CallR X (.builtin "sorted") (rSortD X.K X.w) := by
  intro pins s σ H vs us Q I r h
  obtain ⟨a, xs, ds, Fy, rfl, hs, hd, hb, q⟩ := h
  obtain ⟨its, rv, hl, hz⟩ := I.list hs
  rw [Vals.ref1 r]
  unfold sortB at hb
  simp only [Bool.and_eq_true, List.all_eq_true, Bool.or_eq_true, decide_eq_true_eq] at hb
  obtain ⟨⟨b1, b2⟩, b3⟩ := hb
  have hlen : ds.length ≤ sizeLine := by rw [← hd.length]; exact hz
  refine PySem.W.sorted_data (enc := D.py) (bs := ds) (R := fun u d => ∃ v, RelV v u ∧ Dn X.K X.w H Fy v d []) hl.isList (each_of rv hd rfl fun v u d _ r h => ⟨v, r, h⟩) (each_of rv hd rfl fun v u d hm r h => ?_) (fun d hm d' hm' => ?_) ?_ hlen (fun d hm => ?_) fun out ho eo => ?_
  · exact Dp.reads I d.py v u (h.dp (b3 d hm).1) r
  · obtain ⟨x, hx, rfl⟩ := List.mem_map.mp hm
    obtain ⟨y, hy, rfl⟩ := List.mem_map.mp hm'
    exact b1 x hx y hy
  · rcases b2 with b2 | b2
    · refine .inl fun d hm => ?_
      obtain ⟨x, hx, rfl⟩ := List.mem_map.mp hm
      have := b2 x hx
      unfold tup1 at this
      split at this
      · exact ⟨_, _, rfl⟩
      · cases this
    · refine .inr fun d hm => ?_
      obtain ⟨x, hx, rfl⟩ := List.mem_map.mp hm
      have := b2 x hx
      cases x <;> first | (cases this; done) | exact ⟨fun z => (by cases z), fun xs z => (by cases z)⟩
  · have := (b3 d hm).2
    omega
  · obtain ⟨ys, y1, y2⟩ := of_each eo
    obtain ⟨ep, he'⟩ := PyProof.Rows.sortedAll_at s.heap its out.toArray
    have hl2 : ys.length ≤ sizeLine := by rw [y2.length, List.length_mergeSort]; exact hlen
    exact ⟨.ref _, upd H (s.heap.objs.size + 1) (.lst ys), I.laid (t' := s.toks) (fun _ _ => PyProof.Rows.sortedAll_old) (Nat.le_succ _) ⟨hl2, out, ep, y1, he'⟩, rfl, q ys _ y2 (I.hok.fresh (Nat.le_succ _))⟩
end
end Eng
namespace Eng
open PySem PySem.Spec PyProof.Rows L2
/-! ### sets of tuples: what they are asked -/
section
variable {P : Program} {w : World}
/-- no class statement's thing within -/
def ClsNo (P : Program) (w : World) (n : Nat) (s : Shared) (v : Value) : Prop := ∀ (A : Around) (E : Value → Shared → Prop) (Q : Bool → Shared → Prop), Q false s → wpAny (model P w) A (ofAClassStatement n v) Q E s
/-- it is asked whether a hash goes by value: either answer, and nothing else -/
def HashAny (P : Program) (w : World) (n : Nat) (s : Shared) (v : Value) : Prop := ∀ (A : Around) (E : Value → Shared → Prop) (Q : Bool → Shared → Prop), (∀ b, Q b s) → wpAny (model P w) A (hashByValue n v) Q E s
theorem ClsNo.tup {n : Nat} {s : Shared} {a : Addr} {o : Obj} {vs : Array Value} {m : Nat} (h1 : s.heap.get? a = some o) (h2 : o.cls = .type "tuple") (h3 : o.data = .seq vs m) (hq : ∀ v ∈ vs.toList, ClsNo P w n s v) : ClsNo P w (n + 1) s (.ref a) := fun A E Q fin => by
  have ty : s.TypeIs (.ref a) "tuple" := ⟨o, h1, h2⟩
  unfold ofAClassStatement
  refine wpAny_bind (wpAny_typeOf ty ?_)
  simp only [show (("tuple" : String) == "tuple") = true from rfl, if_true]
  refine wpAny_bind (wpAny_pure ?_)
  simp only [Bool.not_true, Bool.false_eq_true, if_false]
  refine wpAny_bind (wpAny_seqItems h1 h3 ?_)
  show wpAny _ _ (forIn vs _ _ >>= _) _ _ s
  rw [← Array.forIn_toList]
  refine wpAny_bind (wpAny_forIn_list _ (fun rest r s' => s' = s ∧ r.1 = none ∧ ∀ v ∈ rest, ClsNo P w n s v) _ (fun x rest r s' hh => ?_) (fun r s' hh => ?_) _ _ ⟨rfl, rfl, hq⟩)
  · obtain ⟨rfl, hr, all⟩ := hh
    refine wpAny_bind (all x (List.Mem.head _) _ _ _ ?_)
    rw [if_neg (by decide)]
    exact wpAny_pure ⟨rfl, rfl, fun u hu => all u (List.Mem.tail _ hu)⟩
  · obtain ⟨r1, r2⟩ := r
    obtain ⟨rfl, hr, _⟩ := hh
    cases (show r1 = none from hr)
    exact wpAny_pure fin
theorem HashAny.tup {n : Nat} {s : Shared} {a : Addr} {o : Obj} {vs : Array Value} {m : Nat} (h1 : s.heap.get? a = some o) (h2 : o.cls = .type "tuple") (h3 : o.data = .seq vs m) (hq : ∀ v ∈ vs.toList, HashAny P w n s v) : HashAny P w (n + 1) s (.ref a) := fun A E Q fin => by
  have ty : s.TypeIs (.ref a) "tuple" := ⟨o, h1, h2⟩
  unfold hashByValue
  refine wpAny_bind (wpAny_specialOf ty F.slot_tuple_hash.lookup ?_)
  show wpAny _ _ (seqItems? (.ref a) >>= _) _ _ s
  refine wpAny_bind (wpAny_seqItems h1 h3 ?_)
  show wpAny _ _ (forIn vs _ _ >>= _) _ _ s
  rw [← Array.forIn_toList]
  refine wpAny_bind (wpAny_forIn_list _ (fun rest r s' => s' = s ∧ r.1 = none ∧ ∀ v ∈ rest, HashAny P w n s v) _ (fun x rest r s' hh => ?_) (fun r s' hh => ?_) _ _ ⟨rfl, rfl, hq⟩)
  · obtain ⟨rfl, hr, all⟩ := hh
    refine wpAny_bind (all x (List.Mem.head _) _ _ _ fun b => ?_)
    cases b
    · exact wpAny_pure (wpAny_pure (fin _))
    · exact wpAny_pure ⟨rfl, rfl, fun u hu => all u (List.Mem.tail _ hu)⟩
  · obtain ⟨r1, r2⟩ := r
    obtain ⟨rfl, hr, _⟩ := hh
    cases (show r1 = none from hr)
    exact wpAny_pure (fin _)
mutual
theorem cls_key : ∀ (k : NestedKey) (v : Value) (n : Nat) (s : Shared), NestedIs s.heap k v → k.depth ≤ n → ClsNo P w n s v
  | .none, _, n, s, x, _ => by cases x; exact fun A E Q f => by cases n <;> exact wpAny_pure f
  | .num i, _, n, s, x, _ => by cases x <;> exact fun A E Q f => by cases n <;> exact wpAny_pure f
  | .text y, _, n, s, x, _ => by cases x; exact fun A E Q f => by cases n <;> exact wpAny_pure f
  | .tup ks, _, n, s, x, hn => by
    cases x with
    | tup h1 h2 h3 h4 =>
      unfold NestedKey.depth at hn
      match n with
      | 0 => omega
      | n + 1 => exact .tup h1 h2 h3 (cls_keys ks _ n s h4 (by omega))
theorem cls_keys : ∀ (ks : List NestedKey) (vs : List Value) (n : Nat) (s : Shared), NestedAll s.heap ks vs → NestedKey.depthAll ks ≤ n → ∀ v ∈ vs, ClsNo P w n s v
  | [], _, n, s, x, _, v, hv => by cases x; cases hv
  | k :: ks, _, n, s, .cons x1 x2, hn, v, hv => by
    unfold NestedKey.depthAll at hn
    cases hv with
    | head => exact cls_key k _ n s x1 (by omega)
    | tail _ hv => exact cls_keys ks _ n s x2 (by omega) v hv
end
mutual
theorem hsh_key : ∀ (k : NestedKey) (v : Value) (n : Nat) (s : Shared), NestedIs s.heap k v → k.depth ≤ n → HashAny P w n s v
  | .none, _, n, s, x, _ => by cases x; exact fun A E Q f => by cases n <;> exact wpAny_pure (f _)
  | .num i, _, n, s, x, _ => by cases x <;> exact fun A E Q f => by cases n <;> exact wpAny_pure (f _)
  | .text y, _, n, s, x, _ => by cases x; exact fun A E Q f => by cases n <;> exact wpAny_pure (f _)
  | .tup ks, _, n, s, x, hn => by
    cases x with
    | tup h1 h2 h3 h4 =>
      unfold NestedKey.depth at hn
      match n with
      | 0 => omega
      | n + 1 => exact .tup h1 h2 h3 (hsh_keys ks _ n s h4 (by omega))
theorem hsh_keys : ∀ (ks : List NestedKey) (vs : List Value) (n : Nat) (s : Shared), NestedAll s.heap ks vs → NestedKey.depthAll ks ≤ n → ∀ v ∈ vs, HashAny P w n s v
  | [], _, n, s, x, _, v, hv => by cases x; cases hv
  | k :: ks, _, n, s, .cons x1 x2, hn, v, hv => by
    unfold NestedKey.depthAll at hn
    cases hv with
    | head => exact hsh_key k _ n s x1 (by omega)
    | tail _ hv => exact hsh_keys ks _ n s x2 (by omega) v hv
end
/-- a tuple that is a key -/
structure TupK (h : Heap) (n : NestedKey) (v : Value) : Prop where
  is : NestedIs h n v
  dp : n.depth ≤ 8
  rf : ∃ b, v = .ref b
theorem seen_no {A : Around} {E : Value → Shared → Prop} {s : Shared} {n : NestedKey} {x : Value} {Q : Bool → Shared → Prop} (hx : TupK s.heap n x) {ys : List Value} (hy : ∀ y ∈ ys, ∃ m, TupK s.heap m y) (fin : Q false s) : wpAny (model P w) A (searchCouldBeSeen x ys) Q E s := by
  unfold searchCouldBeSeen
  refine wpAny_bind (wpAny_forIn_list _ (fun rest r s' => s' = s ∧ r.1 = none ∧ ∀ y ∈ rest, ∃ m, TupK s.heap m y) _ (fun y rest r s' hh => ?_) (fun r s' hh => ?_) _ _ ⟨rfl, rfl, hy⟩)
  · obtain ⟨rfl, hr, all⟩ := hh
    obtain ⟨m, hm⟩ := all y (List.Mem.head _)
    have more : ∀ y ∈ rest, ∃ m, TupK s'.heap m y := fun u hu => all u (List.Mem.tail _ hu)
    obtain ⟨b, rfl⟩ := hx.rf
    obtain ⟨c, rfl⟩ := hm.rf
    dsimp only
    split
    · exact wpAny_pure ⟨rfl, rfl, more⟩
    · refine wpAny_bind (quiet_key n _ 8 s' hx.is hx.dp A E _ ?_)
      rw [if_neg (by decide)]
      refine wpAny_bind (quiet_key m _ 8 s' hm.is hm.dp A E _ ?_)
      rw [if_neg (by decide)]
      refine wpAny_bind (cls_key n _ 8 s' hx.is hx.dp A E _ ?_)
      rw [if_neg (by decide)]
      refine wpAny_bind (cls_key m _ 8 s' hm.is hm.dp A E _ ?_)
      rw [if_neg (by decide)]
      exact wpAny_pure ⟨rfl, rfl, more⟩
  · obtain ⟨r1, r2⟩ := r
    obtain ⟨rfl, hr, _⟩ := hh
    cases (show r1 = none from hr)
    exact wpAny_pure fin
end
end Eng
namespace Eng
open PySem PySem.Spec PyProof.Rows L2
/-! ### sets of tuples: search -/
abbrev Rw := Value × NestedKey
def rowsN (w : World) (L : List Rw) : List (Int × Value) := L.map fun r => (r.2.hash w, r.1)
structure SetN (w : World) (h : Heap) (a : Addr) (L : List Rw) (es : Array (Int × Value)) (ep : Nat) (t : SetTable) : Prop where
  at' : ∃ o, h.get? a = some o ∧ o.ExactSet ∧ o.data = .set es ep t
  rw : es.toList = rowsN w L
  tb : TabOk t (L.map fun r => r.2.hash w)
  un : (L.map (·.2)).Nodup
  ks : ∀ r ∈ L, TupK h r.2 r.1
  ld : w.params.followText "set-order" = true ∨ t.led = true
  rm : L.length * 5 < t.mask * 3
section
variable {P : Program} {w : World} {A : Around} {E : Value → Shared → Prop} {s : Shared} {a : Addr} {L : List Rw} {es : Array (Int × Value)} {ep : Nat} {t : SetTable}
theorem rowsN_len (L : List Rw) : (rowsN w L).length = L.length := List.length_map ..
theorem SetN.sz (R : SetN w s.heap a L es ep t) : es.size = L.length := by rw [← Array.length_toList, R.rw, rowsN_len]
theorem SetN.place (R : SetN w s.heap a L es ep t) : t.place.toList.length = L.length := by
  have := R.tb.sz
  rw [List.length_map] at this
  rw [Array.length_toList]; exact this
theorem fits_of {t : SetTable} {k : Nat} (hd : t.dummies = #[]) (hp : t.place.size = k) (hm : k ≤ t.mask) : t.fits k = true := by
  unfold SetTable.fits SetTable.fill
  rw [hd, hp]
  simp
  omega
theorem SetN.fit (R : SetN w s.heap a L es ep t) : t.fits es.size = true := by
  have h1 := R.place
  have h2 := R.rm
  rw [R.sz]
  exact fits_of R.tb.dm (by rw [← Array.length_toList]; exact h1) (by omega)
theorem SetN.get (R : SetN w s.heap a L es ep t) {i : Nat} {r : Rw} (h : L[i]? = some r) : es[i]? = some (r.2.hash w, r.1) := by
  have : (rowsN w L)[i]? = some (r.2.hash w, r.1) := by unfold rowsN; rw [List.getElem?_map, h]; rfl
  rw [← R.rw, Array.getElem?_toList] at this
  exact this
theorem SetN.stays (R : SetN w s.heap a L es ep t) : t.gaveWay ≠ true := by
  have := mask_odd R.tb.mok
  unfold SetTable.gaveWay
  rw [this]
  simp
theorem nth_dummy {m : Nat} : ∀ (k : Nat) (p : SetTable.Probe), p.dummy = none → (nth m p k).dummy = none
  | 0, _, h => h
  | k + 1, p, h => nth_dummy k (adv m p) (by unfold adv; split <;> exact h)
abbrev pr0 (t : SetTable) (g : Int) : SetTable.Probe := runAt t.mask (SetTable.bits g % (t.mask + 1)) (SetTable.bits g)
theorem find_way (R : SetN w s.heap a L es ep t) {x : Value} {n : NestedKey} (hx : TupK s.heap n x) (hu : A.units + 8 < cLine) {g : Int} (hg : n.hash w = g) {Z : Nat} (z1 : Z < 10 * SetTable.turns t.mask) (z2 : way t.mask g Z ∉ t.place.toList)
    (z3 : ∀ c, c < Z → way t.mask g c ∈ t.place.toList) {Q : SetFound → Shared → Prop} (qi : n ∈ L.map (·.2) → Q (.there none) s) (qo : n ∉ L.map (·.2) → Q (.free (way t.mask g Z) false) s) :
    ∀ (fu c : Nat) (st : Option SetTable.Probe), st.getD (t.probeStart g) = nth t.mask (pr0 t g) c → c ≤ Z → Z - c < fu →
      (∀ (i : Nat) (r : Rw), L[i]? = some r → r.2 = n → ∃ c2, c ≤ c2 ∧ c2 < Z ∧ t.place.toList[i]? = some (way t.mask g c2)) → wpAny (model P w) A (setSearchFrom a x g true fu st) Q E s
  | 0, c, st, _, _, hf, _ => by omega
  | fu + 1, c, st, hst, hc, hf, left => by
    obtain ⟨o, o1, o2, o3⟩ := R.at'
    have shift : ∀ q, nth t.mask (nth t.mask (pr0 t g) c) q = nth t.mask (pr0 t g) (c + q) := fun q => (nth_add t.mask c _ q).symm
    have wayq : ∀ q, (nth t.mask (nth t.mask (pr0 t g) c) q).j = way t.mask g (c + q) := fun q => by rw [shift]
    have hcz : c + (Z - c) = Z := by omega
    have stored : ∀ (i : Nat) (r : Rw), L[i]? = some r → ((es[i]?.map (·.1)).getD 0) = r.2.hash w := fun i r hr => by rw [R.get hr]; rfl
    have answer := go_spec t R.tb.ris R.tb.dm (fun i => (es[i]?.map (·.1)).getD 0) g (10 * SetTable.turns t.mask) (Z - c) _ (nth_dummy c (pr0 t g) rfl) (by omega) (fun q hq => by rw [wayq]; exact z3 _ (by omega)) (by rw [wayq, hcz]; exact z2)
    rw [setSearchFrom_succ]
    refine wpAny_bind (wpAny_setState_of o1 o3 R.fit ?_)
    simp only
    rw [if_neg R.stays, hst]
    rcases answer with ⟨q, i, q1, q2, q3, q4, q5⟩ | ⟨q4, q5⟩
    · rw [wayq] at q2
      have step : t.probe (fun i => (es[i]?.map (·.1)).getD 0) g (nth t.mask (pr0 t g) c) = some (.candidate (way t.mask g (c + q)) i (nth t.mask (pr0 t g) (c + (q + 1)))) := by
        rw [← wayq, ← shift]; exact q5
      rw [step]
      have il : i < L.length := by rw [← R.place]; exact (List.getElem?_eq_some_iff.mp q2).1
      obtain ⟨r, hr⟩ : ∃ r, L[i]? = some r := ⟨_, List.getElem?_eq_getElem il⟩
      have rin := List.mem_of_getElem? hr
      have rk := R.ks r rin
      have onward : wpAny (model P w) A (searchRest a x g true fu es t (way t.mask g (c + q)) i (nth t.mask (pr0 t g) (c + (q + 1)))) Q E s := by
        unfold searchRest
        rw [R.get hr]
        simp only
        refine wpAny_bind (wpAny_holding (eqAt_key r.2 n A s _ _ rk.is hx.is (by have := hx.dp; omega) P w E _ (wpAny_bind (wpAny_setState_of o1 o3 R.fit ?_))))
        simp only
        rw [← NestedKey.decide_eq]
        by_cases same : r.2 = n
        · rw [decide_eq_true same]
          exact wpAny_pure (qi (List.mem_map.mpr ⟨r, rin, same⟩))
        · rw [decide_eq_false same]
          have live : t.slot (way t.mask g (c + q)) = .live i := slot_live R.tb.ris q2
          obtain ⟨b, hb⟩ := rk.rf
          simp only [Bool.and_false, Bool.false_eq_true, if_false, sameMem, if_true, live, R.get hr, hb]
          refine wpAny_bind (wpAny_isSame_ref_self (wpAny_bind (wpAny_pure ?_)))
          simp only [if_true]
          refine find_way R hx hu hg z1 z2 z3 qi qo fu (c + (q + 1)) _ rfl (by omega) (by omega) fun i0 r0 h0 e0 => ?_
          obtain ⟨c2, c3, c4, c5⟩ := left i0 r0 h0 e0
          refine ⟨c2, ?_, c4, c5⟩
          refine Nat.le_of_not_lt fun hlt => ?_
          by_cases lt : c2 < c + q
          · exact q4 (c2 - c) i0 (by omega) (by rw [wayq, show c + (c2 - c) = c2 from by omega]; exact c5) (by rw [stored i0 r0 h0, e0]; exact hg)
          · have eq : c2 = c + q := by omega
            rw [eq] at c5
            have two := slot_live R.tb.ris c5
            rw [live] at two
            cases two
            rw [h0] at hr
            cases hr
            exact same e0
      by_cases hl : t.led = true
      · simp only [hl, Bool.not_true, Bool.false_eq_true, if_false]
        exact onward
      · simp only [hl, Bool.not_false, if_true]
        refine wpAny_bind (seen_no hx (fun y hy => ?_) ?_)
        · obtain ⟨e, e1, rfl⟩ := List.mem_map.mp hy
          have e2 : e ∈ es.toList := by
            have e3 : e ∈ es ∧ e.1 = g := by simpa using e1
            simpa using e3.1
          rw [R.rw] at e2
          obtain ⟨r, r1, rfl⟩ := List.mem_map.mp e2
          exact ⟨r.2, R.ks r r1⟩
        · simp only [Bool.false_eq_true, if_false]
          exact onward
    · have step : t.probe (fun i => (es[i]?.map (·.1)).getD 0) g (nth t.mask (pr0 t g) c) = some (.empty (way t.mask g Z) none) := by
        have : way t.mask g Z = (nth t.mask (nth t.mask (pr0 t g) c) (Z - c)).j := by rw [wayq, hcz]
        rw [this]; exact q5
      rw [step]
      refine wpAny_pure (qo fun hm => ?_)
      obtain ⟨r0, r1, r2⟩ := List.mem_map.mp hm
      obtain ⟨i0, h0⟩ := List.mem_iff_getElem?.mp r1
      obtain ⟨c2, c3, c4, c5⟩ := left i0 r0 h0 r2
      exact q4 (c2 - c) i0 (by omega) (by rw [wayq, show c + (c2 - c) = c2 from by omega]; exact c5) (by rw [stored i0 r0 h0, r2]; exact hg)
theorem find_in (R : SetN w s.heap a L es ep t) {x : Value} {n : NestedKey} (hx : TupK s.heap n x) (hu : A.units + 8 < cLine) {Q : SetFound → Shared → Prop} (qi : n ∈ L.map (·.2) → Q (.there none) s)
    (qo : ∀ Z, n ∉ L.map (·.2) → way t.mask (n.hash w) Z ∉ t.place.toList → (∀ c, c < Z → way t.mask (n.hash w) c ∈ t.place.toList) → Q (.free (way t.mask (n.hash w) Z) false) s) : wpAny (model P w) A (setSearch a x (n.hash w) true) Q E s := by
  have rm := R.rm
  obtain ⟨Z, z1, z2, z3⟩ := R.tb.first (by rw [List.length_map]; omega) (n.hash w)
  have tz : SetTable.turns t.mask ≤ 142 := by
    unfold SetTable.turns
    rcases R.tb.mok with e | e | e <;> omega
  unfold setSearch
  refine find_way R hx hu rfl z1 z2 z3 qi (fun hn => qo Z hn z2 z3) 100000 0 none rfl (Nat.zero_le _) (by omega) fun i r hr e => ?_
  have il : i < t.place.toList.length := by rw [R.place]; exact (List.getElem?_eq_some_iff.mp hr).1
  have hh : (L.map fun r => r.2.hash w)[i]? = some (n.hash w) := by rw [List.getElem?_map, hr, ← e]; rfl
  obtain ⟨c, c1, c2⟩ := R.tb.before z2 hh (List.getElem?_eq_getElem il)
  exact ⟨c, Nat.zero_le _, c1, by rw [List.getElem?_eq_getElem il, c2]⟩
end
end Eng
namespace Eng
open PySem PySem.Spec PyProof.Rows L2
/-! ### sets of tuples: growth -/
theorem TupK.kept {h h' : Heap} {n : NestedKey} {v : Value} (k : ∀ b u vs m, h.get? b = some u → u.data = .seq vs m → h'.get? b = some u) (x : TupK h n v) : TupK h' n v := ⟨NestedIs.at k n v x.is, x.dp, x.rf⟩
theorem seq_but {h h' : Heap} {a : Addr} {o : Obj} {es : Array (Int × Value)} {ep : Nat} {t : SetTable} (g : h.get? a = some o) (d : o.data = .set es ep t) (sb : Heap.SameBut a h h') : ∀ b u vs m, h.get? b = some u → u.data = .seq vs m → h'.get? b = some u := fun b u vs m hb hd => by
  have ne : b ≠ a := fun e => by
    rw [e, g] at hb
    cases hb
    rw [d] at hd
    cases hd
  exact (sb.2 b ne).trans hb
theorem rowsN_put (w : World) (L : List Rw) (p : Nat) (r : Rw) : rowsN w (L.take p ++ r :: L.drop p) = (rowsN w L).take p ++ (r.2.hash w, r.1) :: (rowsN w L).drop p := by
  unfold rowsN
  simp only [List.map_append, List.map_cons, List.map_take, List.map_drop]
/-- the rows in another order -/
theorem rowsN_order (w : World) (L : List Rw) (es : Array (Int × Value)) (hr : es.toList = rowsN w L) : ∀ l : List Nat, (∀ i ∈ l, i < L.length) →
    l.filterMap (fun i => es[i]?) = rowsN w (l.filterMap fun i => L[i]?) ∧ ((l.filterMap fun i => L[i]?).map fun r => r.2.hash w) = l.map fun i => (es.map (·.1)).getD i 0
  | [], _ => ⟨rfl, rfl⟩
  | i :: l, hl => by
    obtain ⟨h1, h2⟩ := rowsN_order w L es hr l fun j hj => hl j (List.mem_cons_of_mem _ hj)
    obtain ⟨r, hi⟩ : ∃ r, L[i]? = some r := ⟨_, List.getElem?_eq_getElem (hl i List.mem_cons_self)⟩
    have he : es[i]? = some (r.2.hash w, r.1) := by
      rw [← Array.getElem?_toList, hr]
      unfold rowsN
      rw [List.getElem?_map, hi]
      rfl
    have hd : (es.map (·.1)).getD i 0 = r.2.hash w := by
      have : (es.map (·.1))[i]? = some (r.2.hash w) := by rw [Array.getElem?_map, he]; rfl
      rw [Array.getD_eq_getD_getElem?, this]
      rfl
    refine ⟨?_, ?_⟩
    · rw [List.filterMap_cons_some he, List.filterMap_cons_some hi, h1]
      rfl
    · rw [List.filterMap_cons_some hi, List.map_cons, List.map_cons, h2, hd]
theorem filter_range {α : Type} (L : List α) : ∀ n, n ≤ L.length → (List.range n).filterMap (fun i => L[i]?) = L.take n
  | 0, _ => by simp
  | n + 1, h => by
    have hn : n < L.length := h
    rw [List.range_succ, List.filterMap_append, filter_range L n (by omega), List.take_succ]
    rw [List.getElem?_eq_getElem hn, List.filterMap_cons_some (List.getElem?_eq_getElem hn)]
    rfl
section
variable {P : Program} {w : World} {A : Around} {E : Value → Shared → Prop} {s : Shared} {a : Addr} {L : List Rw} {es : Array (Int × Value)} {ep : Nat} {t : SetTable}
theorem relayN {o : Obj} (ho : s.heap.get? a = some o) (hx : o.ExactSet) (hd : o.data = .set es ep t) (hr : es.toList = rowsN w L) (T : TabOk t (L.map fun r => r.2.hash w)) (un : (L.map (·.2)).Nodup) (hk : ∀ r ∈ L, TupK s.heap r.2 r.1) (ld : w.params.followText "set-order" = true ∨ t.led = true)
    (hm : L.length ≤ t.mask) {wn M : Nat} (e1 : SetTable.sizeAbove wn = M + 1) (e2 : MaskOk M) (e3 : L.length * 5 < M * 3) {Q : Unit → Shared → Prop}
    (fin : ∀ (h' : Heap) (L' : List Rw) (es' : Array (Int × Value)) (ep' : Nat) (t' : SetTable), Heap.SameBut a s.heap h' → SetN w h' a L' es' ep' t' → L'.Perm L → Q () { s with heap := h' }) : wpAny (model P w) A (setRelay a wn) Q E s := by
  have sz : es.size = L.length := by rw [← Array.length_toList, hr, rowsN_len]
  have pz : t.place.size = L.length := by have := T.sz; rwa [List.length_map] at this
  have fit : t.fits es.size = true := by rw [sz]; exact fits_of T.dm pz hm
  have m127 : M ≤ 127 := by rcases e2 with e | e | e <;> omega
  obtain ⟨t', ord, r1, r2, r3, r4, r5, -, -⟩ := relaid_ok t (hs := es.map (·.1)) (wanted := wn) (M := M) (by rw [e1]; rfl) e2 (by rw [Array.size_map, sz]; omega)
  rw [Array.size_map, sz] at r2
  obtain ⟨f1, f2⟩ := rowsN_order w L es hr ord.toList fun i hi => List.mem_range.mp (r2.mem_iff.mp hi)
  have pm : (ord.toList.filterMap fun i => L[i]?).Perm L := by
    have := r2.filterMap (fun i => L[i]?)
    rwa [filter_range L L.length (Nat.le_refl _), List.take_length] at this
  rw [← f2] at r3
  have f3 : (ord.filterMap (es[·]?)).toList = rowsN w (ord.toList.filterMap fun i => L[i]?) := by
    rw [← f1]
    simp
  have f4 : (ord.filterMap (es[·]?)).size = es.size := by rw [← Array.length_toList, f3, rowsN_len, pm.length_eq, sz]
  generalize ord.toList.filterMap (fun i => L[i]?) = L2 at r3 f3 pm
  rw [setRelay_eq]
  refine wpAny_bind (wpAny_setState_of ho hd fit ?_)
  simp only
  rw [if_neg (by rw [sizeLine_eq, e1]; omega), r1]
  simp only
  refine wpAny_bind ?_
  rw [if_neg (by rw [f4]; simp)]
  refine wpAny_pure ?_
  simp only
  refine wpAny_storeSet_of ho hd ?_ (by rw [f4, sz, sizeLine_eq]; omega)
  have sb : Heap.SameBut a s.heap (s.heap.update a (Obj.putSet (ord.filterMap (es[·]?)) t')) := Heap.SameBut.update ..
  refine fin _ L2 _ (ep + 1) t' sb ⟨⟨_, store_at ho hd, hx, rfl⟩, f3, r3, (pm.map _).nodup_iff.mpr un, fun r hr => (hk r (pm.mem_iff.mp hr)).kept (seq_but ho hd sb), ?_, ?_⟩ pm
  · rw [r5]; exact ld
  · rw [pm.length_eq, r4]; exact e3
theorem addN (R : SetN w s.heap a L es ep t) {x : Value} {n : NestedKey} (hx : TupK s.heap n x) (hu : A.units + 8 < cLine) (few : n ∉ L.map (·.2) → L.length < 76) {Q : Bool → Shared → Prop}
    (fin : ∀ b (h' : Heap) (L' : List Rw) (es' : Array (Int × Value)) (ep' : Nat) (t' : SetTable), Heap.SameBut a s.heap h' → SetN w h' a L' es' ep' t' → (n ∈ L.map (·.2) ∧ L' = L ∨ n ∉ L.map (·.2) ∧ L'.Perm ((x, n) :: L)) → Q b { s with heap := h' }) :
    wpAny (model P w) A (setAddHashed a x (n.hash w) ) Q E s := by
  obtain ⟨o, o1, o2, o3⟩ := R.at'
  have rm := R.rm
  have sz := R.sz
  unfold setAddHashed
  refine wpAny_holding ?_
  rw [show (100000 : Nat) = 99999 + 1 from rfl, setAddHashedIn_succ]
  refine wpAny_bind (wpAny_setState_of o1 o3 R.fit ?_)
  simp only
  obtain ⟨b0, rfl⟩ := hx.rf
  rw [if_neg (by simp [byScan, Value.scannable])]
  refine wpAny_bind (find_in R hx hu (fun hi => ?_) fun Z hn z1 z2 => ?_)
  · exact wpAny_pure (fin false s.heap L es ep t (Heap.SameBut.refl ..) R (.inl ⟨hi, rfl⟩))
  · have few := few hn
    simp only
    refine wpAny_bind (wpAny_setState_of o1 o3 R.fit ?_)
    simp only
    obtain ⟨p1, p2, p3, p4, p5, p6, p7, p8, p9⟩ := R.tb.put z1 z2
    generalize t.put (way t.mask (n.hash w) Z) = pt at p1 p3 p4 p5 p6 p7 p8 p9 ⊢
    obtain ⟨t1, q⟩ := pt
    simp only at p1 p3 p4 p5 p6 p7 p8 p9 ⊢
    rw [← p1] at p2 p3
    have pm := L2.put_perm L q (Value.ref b0, n)
    have ln : (L.take q ++ (Value.ref b0, n) :: L.drop q).length = L.length + 1 := pm.length_eq
    have hh : ((L.take q ++ (Value.ref b0, n) :: L.drop q).map fun r => r.2.hash w) = (L.map fun r => r.2.hash w).take q ++ n.hash w :: (L.map fun r => r.2.hash w).drop q := by simp only [List.map_append, List.map_cons, List.map_take, List.map_drop]
    have hi : (SetTable.insertAt es q (n.hash w, Value.ref b0)).toList = rowsN w (L.take q ++ (Value.ref b0, n) :: L.drop q) := by rw [SetTable.toList_insertAt, rowsN_put, R.rw]
    rw [← hh] at p3
    have un1 : ((L.take q ++ (Value.ref b0, n) :: L.drop q).map (·.2)).Nodup := (pm.map _).nodup_iff.mpr (List.nodup_cons.mpr ⟨hn, R.un⟩)
    have ez : (SetTable.insertAt es q (n.hash w, Value.ref b0)).size = L.length + 1 := by rw [← Array.length_toList, hi, rowsN_len, ln]
    have rest : ∀ b : Bool, wpAny (model P w) A (do
        storeSet a (SetTable.insertAt es q (n.hash w, Value.ref b0)) (if b = true then t1 else { t1 with plain := false })
        if (!false && (if b = true then t1 else { t1 with plain := false }).tooFull) = true then setRelay a (SetTable.grown (es.size + 1))
        pure true) Q E s := fun b => by
      have q1 : (if b = true then t1 else { t1 with plain := false }).place = t1.place := by cases b <;> rfl
      have q2 : (if b = true then t1 else { t1 with plain := false }).mask = t1.mask := by cases b <;> rfl
      have q3 : (if b = true then t1 else { t1 with plain := false }).led = t1.led := by cases b <;> rfl
      have q4 : (if b = true then t1 else { t1 with plain := false }).dummies = t1.dummies := by cases b <;> rfl
      have q5 : (if b = true then t1 else { t1 with plain := false }).tooFull = t1.tooFull := by cases b <;> rfl
      have T1 : TabOk (if b = true then t1 else { t1 with plain := false }) ((L.take q ++ (Value.ref b0, n) :: L.drop q).map fun r => r.2.hash w) :=
        ⟨by rw [q1]; exact p3.ris, by rw [q4]; exact p3.dm, by rw [q1]; exact p3.sz, by rw [q2]; exact p3.mok, by rw [q1, q2]; exact p3.bd, by rw [q1, q2]; exact p3.reach⟩
      have p4' := p4
      rw [← q2] at p4
      rw [← q3] at p5
      generalize (if b = true then t1 else { t1 with plain := false }) = t2 at q5 T1 p4 p5 ⊢
      generalize SetTable.insertAt es q (n.hash w, Value.ref b0) = es1 at hi ez ⊢
      generalize L.take q ++ (Value.ref b0, n) :: L.drop q = L1 at pm ln un1 hi T1 ⊢
      refine wpAny_bind (wpAny_storeSet_of o1 o3 ?_ (by rw [ez, sizeLine_eq]; omega))
      have sb : Heap.SameBut a s.heap (s.heap.update a (Obj.putSet es1 t2)) := Heap.SameBut.update ..
      have at1 := store_at (es' := es1) (t' := t2) o1 o3
      generalize s.heap.update a (Obj.putSet es1 t2) = h1 at sb at1 ⊢
      have ks1 : ∀ r ∈ L1, TupK h1 r.2 r.1 := fun r hr => by
        have kp := seq_but o1 o3 sb
        rcases List.mem_cons.mp (pm.mem_iff.mp hr) with rfl | hr
        · exact hx.kept kp
        · exact (R.ks r hr).kept kp
      have ld1 : w.params.followText "set-order" = true ∨ t2.led = true := by rw [p5]; exact R.ld
      have full : t2.tooFull = decide ((L.length + 1) * 5 ≥ t.mask * 3) := by
        rw [q5]
        unfold SetTable.tooFull
        rw [p9, List.length_map, p4']
      have wide : ∀ M, SetTable.sizeAbove (SetTable.grown (es.size + 1)) = M + 1 → MaskOk M → (L.length + 1) * 5 < M * 3 → L.length + 1 ≤ t.mask →
          wpAny (model P w) A (do
            setRelay a (SetTable.grown (es.size + 1))
            pure true) Q E { s with heap := h1 } := fun M m1 m2 m3 m4 => by
        refine wpAny_bind (relayN (s := { s with heap := h1 }) at1 ⟨o2.1, o2.2.1, o2.2.2⟩ rfl hi T1 un1 ks1 ld1 (by rw [ln, p4]; exact m4) m1 m2 (by rw [ln]; exact m3) fun h2 L2 es2 ep2 t3 sb2 R2 pm2 => ?_)
        exact wpAny_pure (fin true h2 L2 es2 ep2 t3 (sb.trans sb2) R2 (.inr ⟨hn, pm2.trans pm⟩))
      by_cases hf : (L.length + 1) * 5 ≥ t.mask * 3
      · rw [full, decide_eq_true hf]
        simp only [Bool.not_false, Bool.and_self, if_true]
        rcases R.tb.mok with e | e | e
        · have l4 : L.length = 4 := by omega
          exact wide 31 (by rw [sz, l4]; exact size_20) (.inr (.inl rfl)) (by omega) (by omega)
        · have l18 : L.length = 18 := by omega
          exact wide 127 (by rw [sz, l18]; exact size_76) (.inr (.inr rfl)) (by omega) (by omega)
        · omega
      · rw [full, decide_eq_false hf]
        simp only [Bool.not_false, Bool.and_false, Bool.false_eq_true, if_false]
        refine wpAny_pure (fin true h1 L1 es1 (ep + 1) t2 sb ⟨⟨_, at1, ⟨o2.1, o2.2.1, o2.2.2⟩, rfl⟩, hi, T1, un1, ks1, ld1, by rw [ln, p4]; omega⟩ (.inr ⟨hn, pm⟩))
    by_cases hp : t1.plain = true
    · rw [if_pos hp]
      exact wpAny_bind (hsh_key n _ 8 s hx.is hx.dp A E _ fun b => rest b)
    · rw [if_neg hp]
      exact rest true
end
end Eng
namespace Eng
open PySem PySem.Spec PyProof.Rows L2
/-! ### sets of tuples: set(xs) -/
theorem pigeon {α : Type} [DecidableEq α] : ∀ (l U : List α), l.Nodup → (∀ x ∈ l, x ∈ U) → l.length ≤ U.length
  | [], _, _, _ => Nat.zero_le _
  | x :: l, U, hn, hs => by
    obtain ⟨h1, h2⟩ := List.nodup_cons.mp hn
    have hx : x ∈ U := hs x List.mem_cons_self
    have := pigeon l (U.erase x) h2 fun y hy => (List.mem_erase_of_ne (fun e => h1 (by rw [← e]; exact hy))).2 (hs y (List.mem_cons_of_mem _ hy))
    have e := List.length_erase_of_mem hx
    have p := List.length_pos_of_mem hx
    rw [List.length_cons]
    omega
structure Took (ks : List Rw) (i : Nat) (L : List Rw) : Prop where
  fr : ∀ r ∈ L, r ∈ ks.take i
  al : ∀ r ∈ ks.take i, r.2 ∈ L.map (·.2)
theorem Took.nil (ks : List Rw) : Took ks 0 [] := ⟨fun r h => (by cases h), fun r h => (by simp at h)⟩
theorem Took.next {ks L L' : List Rw} {i : Nat} {x : Rw} (g : Took ks i L) (hx : ks[i]? = some x) (c : x.2 ∈ L.map (·.2) ∧ L' = L ∨ x.2 ∉ L.map (·.2) ∧ L'.Perm (x :: L)) : Took ks (i + 1) L' := by
  have tk : ks.take (i + 1) = ks.take i ++ [x] := by rw [List.take_succ, hx]; rfl
  rcases c with ⟨m, rfl⟩ | ⟨m, pm⟩
  · refine ⟨fun r hr => ?_, fun r hr => ?_⟩
    · rw [tk]; exact List.mem_append_left _ (g.fr r hr)
    · rw [tk] at hr
      rcases List.mem_append.mp hr with hr | hr
      · exact g.al r hr
      · rw [List.mem_singleton.mp hr]; exact m
  · refine ⟨fun r hr => ?_, fun r hr => ?_⟩
    · rw [tk]
      rcases List.mem_cons.mp (pm.mem_iff.mp hr) with rfl | hr
      · exact List.mem_append_right _ List.mem_cons_self
      · exact List.mem_append_left _ (g.fr r hr)
    · rw [(pm.map (·.2)).mem_iff, List.map_cons]
      rw [tk] at hr
      rcases List.mem_append.mp hr with hr | hr
      · exact List.mem_cons_of_mem _ (g.al r hr)
      · rw [List.mem_singleton.mp hr]; exact List.mem_cons_self
abbrev ns0 (w : World) : Obj := { cls := .type "set", dict := none, data := .set #[] 0 (.fresh 0 0 (!w.params.followText "set-order")) }
section
variable {P : Program} {w : World} {A : Around} {E : Value → Shared → Prop} {s : Shared}
theorem SetN.mov {h h' : Heap} {a : Addr} {L : List Rw} {es : Array (Int × Value)} {ep : Nat} {t : SetTable} (R : SetN w h a L es ep t) (ka : ∀ o, h.get? a = some o → h'.get? a = some o) (kt : ∀ r ∈ L, TupK h' r.2 r.1) : SetN w h' a L es ep t := by
  obtain ⟨o, ho, r⟩ := R.at'
  exact { R with at' := ⟨o, ka o ho, r⟩, ks := kt }
theorem setN_new {h : Heap} {a : Addr} (ho : h.get? a = some (ns0 w)) : SetN w h a [] #[] 0 (.fresh 0 0 (!w.params.followText "set-order")) where
  at' := ⟨_, ho, ⟨rfl, rfl, rfl⟩, rfl⟩
  rw := rfl
  tb := ⟨List.Pairwise.nil, rfl, rfl, .inl rfl, fun x hx => (by cases hx), fun i h j hi => (by simp at hi)⟩
  un := List.nodup_nil
  ks := fun p hp => (by cases hp)
  ld := by
    rcases Bool.eq_false_or_eq_true (w.params.followText "set-order") with e | e
    · exact .inl e
    · right; rw [e]; rfl
  rm := by show 0 * 5 < 7 * 3; omega
theorem drawN {I : Addr} {fp wr : List Addr} {G : Array GenState → Array GenState → Prop} {n : Nat} {Pv : Nat → Value → Prop} {St : Nat → Shared → Prop} {R : Result → Shared → Prop} (W : WalksS P w A.in1 I fp wr G n Pv St) (S : Addr) (nf : S ∉ fp) (ks : List Rw) (hn : n = ks.length)
    (U : List NestedKey) (hU : U.length ≤ 76) (hkU : ∀ r ∈ ks, r.2 ∈ U) (val : ∀ i v, Pv i v → ∃ r, ks[i]? = some r ∧ v = r.1) (h0 : Heap) (hk : ∀ r ∈ ks, TupK h0 r.2 r.1) (nS : h0.get? S = none) (nw : ∀ b ∈ wr, h0.get? b = none) (hu : A.in1.units + 8 < cLine) :
    ∀ (m i : Nat) (s : Shared), n - i = m → i ≤ n → St i s → (∀ b o, h0.get? b = some o → s.heap.get? b = some o) → (∃ L es ep t, SetN w s.heap S L es ep t ∧ Took ks i L) →
      (∀ s' L es ep t, Moved (S :: wr) G s s' → SetN w s'.heap S L es ep t → Took ks n L → (∀ b o, h0.get? b = some o → s'.heap.get? b = some o) → R (.ok (.ret .none)) s') →
      codeAny (model P w) A (.builtin "set.update.loop" ⟨[.ref S, .ref I], []⟩) R s := by
  have sw : S ∉ wr := fun z => nf (W.sub _ z)
  have kp : ∀ {s1 s2 : Shared}, Moved wr G s1 s2 → (∀ b o, h0.get? b = some o → s1.heap.get? b = some o) → ∀ b o, h0.get? b = some o → s2.heap.get? b = some o := fun mv k b o e => mv.heap b o (fun z => by rw [nw b z] at e; cases e) (k b o e)
  have tk : ∀ {h1 : Heap}, (∀ b o, h0.get? b = some o → h1.get? b = some o) → ∀ r ∈ ks, TupK h1 r.2 r.1 := fun k r hr => (hk r hr).kept fun b u _ _ e _ => k b u e
  intro m
  induction m with
  | zero =>
    intro i s hm hi st k0 ⟨L, es, ep, t, hS, g⟩ fin
    have : i = n := by omega
    subst this
    refine codeAny_builtin F.entry_set_update_loop ?_
    rw [Around.under_plainId F.plain_set_update_loop _]
    refine wpAny_bind (W.done s _ _ st fun s2 mv => ?_)
    have k2 := kp mv k0
    exact wpAny_pure (fin s2 L es ep t (mv.mono fun b hb => List.mem_cons_of_mem _ hb) (hS.mov (fun o e => mv.heap S o sw e) fun r hr => tk k2 r (List.mem_of_mem_take (g.fr r hr))) g k2)
  | succ m ih =>
    intro i s hm hi st k0 ⟨L, es, ep, t, hS, g⟩ fin
    have lt : i < n := by omega
    refine codeAny_builtin F.entry_set_update_loop ?_
    rw [Around.under_plainId F.plain_set_update_loop _]
    refine wpAny_bind (W.item i s _ _ lt st fun v s2 hv st2 mv => ?_)
    obtain ⟨r, hr, rfl⟩ := val i v hv
    have rin := List.mem_of_getElem? hr
    have k2 := kp mv k0
    have hS2 : SetN w s2.heap S L es ep t := hS.mov (fun o e => mv.heap S o sw e) fun q hq => tk k2 q (List.mem_of_mem_take (g.fr q hq))
    have hx := tk k2 r rin
    have inU : ∀ y ∈ L.map (·.2), y ∈ U := fun y hy => by
      obtain ⟨q, hq, rfl⟩ := List.mem_map.mp hy
      exact hkU q (List.mem_of_mem_take (g.fr q hq))
    show wpAny _ A.in1 (holding [r.1] (setAdd S r.1) >>= _) _ _ s2
    refine wpAny_bind (wpAny_holding ?_)
    unfold setAdd
    refine wpAny_holding ?_
    refine wpAny_bind (pyHash_key r.2 r.1 _ _ _ hx.is (by have := hx.dp; omega) ?_)
    have go : ∀ (b : Bool) (h' : Heap) (L' : List Rw) (es' : Array (Int × Value)) (ep' : Nat) (t' : SetTable), Heap.SameBut S s2.heap h' → SetN w h' S L' es' ep' t' → Took ks (i + 1) L' →
        codeAny (model P w) A (.builtin "set.update.loop" ⟨[.ref S, .ref I], []⟩) R { s2 with heap := h', toks := s2.toks + r.2.draws } := fun b h' L' es' ep' t' sb hS3 g3 => by
      have k3 : ∀ b o, h0.get? b = some o → h'.get? b = some o := fun b o e => (sb.2 b (fun z => by rw [z, nS] at e; cases e)).trans (k2 b o e)
      refine ih (i + 1) _ (by omega) lt (W.frame _ s2 _ _ st2 (Nat.le_add_right _ _) fun b hb o e => ?_) k3 ⟨L', es', ep', t', hS3, g3⟩ fun s4 L4 es4 ep4 t4 mv4 hS4 g4 k4 => ?_
      · rw [sb.2 b (fun z : b = S => nf (by rw [← z]; exact hb))]
        exact e
      · refine fin s4 L4 es4 ep4 t4 (Moved.trans W.gtrans ((mv.mono fun b hb => List.mem_cons_of_mem _ hb).then_heap (Nat.le_add_right _ _) fun b o hb e => ?_) mv4) hS4 g4 k4
        rw [sb.2 b (fun z : b = S => hb (by rw [z]; exact List.mem_cons_self))]
        exact e
    refine addN (s := { s2 with toks := s2.toks + r.2.draws }) hS2 hx (by omega) (fun nin => ?_) fun b h' L' es' ep' t' sb hS3 c => ?_
    · have := pigeon (r.2 :: L.map (·.2)) U (List.nodup_cons.mpr ⟨nin, hS2.un⟩) fun y hy => by
        rcases List.mem_cons.mp hy with rfl | hy
        · exact hkU r rin
        · exact inU y hy
      rw [List.length_cons, List.length_map] at this
      omega
    · exact wpAny_pure ⟨plainId_quiet F.plain_set_update_loop _, go b h' L' es' ep' t' sb hS3 (g.next hr c)⟩
/-- set(xs) -/
theorem setN_call {l : Addr} {items : Array Value} (ks : List Rw) (U : List NestedKey) (hU : U.length ≤ 76) (hkU : ∀ r ∈ ks, r.2 ∈ U) {Q : Value → Shared → Prop} (hh : A.handled = none) (hl : s.heap.IsList l items) (hit : items.toList = ks.map (·.1)) (hk : ∀ r ∈ ks, TupK s.heap r.2 r.1) (hu : A.units + 20 < cLine)
    (fin : ∀ (h' : Heap) (tk : Nat) L es ep t, SetN w h' s.heap.objs.size L es ep t → Took ks ks.length L → (∀ b o, s.heap.get? b = some o → h'.get? b = some o) → Q (.ref s.heap.objs.size) { s with heap := h', toks := tk }) : wpAny (model P w) A (call (.type "set") [.ref l]) Q E s := by
  have sz : items.size = ks.length := by rw [← Array.length_toList, hit, List.length_map]
  have absent : ∀ b, s.heap.objs.size ≤ b → s.heap.get? b = none := fun b hb => by
    cases e : s.heap.get? b with
    | none => rfl
    | some o => exact absurd (Nat.lt_of_lt_of_le (Heap.lt_size e) hb) (Nat.lt_irrefl _)
  have hS : (s.heap.push (ns0 w)).get? s.heap.objs.size = some (ns0 w) := Heap.get?_push_size _ rfl
  obtain ⟨c, tl, hmro⟩ := F.called_set.mro
  have m1 := F.called_set.made
  have m2 := F.called_set.sub
  have m3 := F.called_set.notType
  have m4 := F.called_set.canCreate
  have m5 := F.typeCall_set_1 (.ref l)
  refine wpAny_call (codeAny_of_tree ?_)
  refine wpAny_pure ⟨Code.quiet_builtin _ (by decide +kernel), codeAny_builtin F.entry_type_call ?_⟩
  rw [Around.under_plain (weight_type_call_type "set" [.ref l] []) rfl]
  repeat (any_goals (first | assumption | wp_step))
  refine codeAny_mono (code_set_led1 (.ref l) (E := E) (Q₁ := fun obj s₁ => obj = .ref s.heap.objs.size ∧ s₁ = { s with heap := s.heap.push (ns0 w) }) ⟨rfl, rfl⟩) fun r s₁ hr => ?_
  match r, hr with
  | .error e, hr => exact hr
  | .ok (.ret obj), hr =>
    obtain ⟨rfl, rfl⟩ := hr
    have ht : Shared.TypeIs { s with heap := s.heap.push (ns0 w) } (.ref s.heap.objs.size) "set" := ⟨_, hS, rfl⟩
    have m6 := F.called_set.init.lookup
    have m7 := F.called_set.init.bind (.ref s.heap.objs.size)
    repeat (any_goals (first | assumption | wp_step))
    refine codeAny_mono (codeAny_call_builtin (R := wants (fun r s₂ => r = .none ∧ ∃ h' tk L es ep t, s₂ = { s with heap := h', toks := tk } ∧ SetN w h' s.heap.objs.size L es ep t ∧ Took ks ks.length L ∧ (∀ b o, s.heap.get? b = some o → h'.get? b = some o)) E) F.called_set.init.plain F.entry_set_init (check_set_init_1 ht ?_)) fun r₂ s₂ hr₂ => ?_
    · obtain ⟨ol, hol, hcl, nl, hdl⟩ := hl
      obtain ⟨ocls, odict, odata, oslots⟩ := ol
      simp only at hcl hdl
      subst hcl
      subst hdl
      have hol' := Heap.get?_push_of_some (ns0 w) hol
      have m8 := F.sub_list_set
      have m9 := F.sub_list_frozenset
      have m10 : (Value.type "list" == Value.type "dict") = false := by decide
      have hl1 : (s.heap.push (ns0 w)).IsList l items := ⟨_, hol', rfl, nl, rfl⟩
      have pz : (s.heap.push (ns0 w)).objs.size = s.heap.objs.size + 1 := Heap.size_push ..
      have ll : l < s.heap.objs.size := Heap.lt_size hol
      unfold Builtin.«set.__init__» noKeywords Builtin.Frozenset.updateFrom
      generalize hPI : pyIter = PI
      wp_walk
      subst hPI
      refine wpAny_pyIter_list hl1 ?_
      refine wpAny_bind (wpAny_runValue ?_)
      have h3 : A.in1.in1.in1.handled = none := by simp [hh]
      refine drawN ((Walks.list h3 _ l (by rw [pz]; exact Nat.ne_of_lt (Nat.lt_succ_of_lt ll)) items).toS) s.heap.objs.size (by rw [pz]; simp only [List.mem_cons, List.not_mem_nil, or_false, not_or]; exact ⟨Nat.ne_of_lt (Nat.lt_succ_self _), Nat.ne_of_gt ll⟩) ks sz U hU hkU (fun i v hv => ?_) s.heap hk (absent _ (Nat.le_refl _)) (fun b hb => absent b (by rw [List.mem_singleton.mp hb, pz]; exact Nat.le_succ _)) ?hU2 (items.size - 0) 0 _ (by omega) (Nat.zero_le _)
        ⟨⟨_, Heap.get?_push_size _ rfl, rfl, rfl⟩, (hl1.push _)⟩ (fun b o e => Heap.get?_push_of_some _ (Heap.get?_push_of_some _ e)) ⟨[], #[], 0, _, setN_new (Heap.get?_push_of_some _ hS), Took.nil ks⟩ ?_
      case hU2 => exact (by omega : A.units + 11 < cLine)
      · have q : items.toList[i]? = some v := by rw [Array.getElem?_toList]; exact hv
        rw [hit, List.getElem?_map] at q
        obtain ⟨r, q1, q2⟩ := Option.map_eq_some_iff.mp q
        exact ⟨r, q1, q2.symm⟩
      · intro s' L es ep t mv hS' g kk
        obtain ⟨h', g2, d', tk', os'⟩ := s'
        obtain rfl : g2 = s.gens := mv.gens
        obtain rfl : d' = s.drawn := mv.drawn
        obtain rfl : os' = s.os := mv.os
        rw [sz] at g
        show wpAny _ _ _ _ _ _
        refine wpAny_pure ?_
        show wpAny _ _ (ret Value.none) _ _ _
        exact wpAny_pure ⟨rfl, h', tk', L, es, ep, t, rfl, hS', g, kk⟩
    · match r₂, hr₂ with
      | .error e, hr₂ => exact hr₂
      | .ok (.ret r), hr₂ =>
        obtain ⟨rfl, h', tk, L, es, ep, t, rfl, hS', g, kk⟩ := hr₂
        repeat (any_goals (first | assumption | wp_step))
        exact fin _ _ _ _ _ _ hS' g kk
end
end Eng
namespace Eng
open PySem PySem.Spec PyProof.Rows L2
/-! ### sorted(set(..)): the plain side -/
mutual
def unk : NestedKey → D
  | .none => .non
  | .num i => .int i
  | .text x => .str x
  | .tup ks => .tup (unkL ks)
def unkL : List NestedKey → List D
  | [] => []
  | k :: ks => unk k :: unkL ks
end
mutual
theorem pur_nk : ∀ (d : D), d.pur = true → ∃ n, d.nk = some n ∧ unk n = d
  | .int i, _ => ⟨.num i, rfl, rfl⟩
  | .str x, _ => ⟨.text x, rfl, rfl⟩
  | .tup xs, h => by
    obtain ⟨ns, e1, e2⟩ := purL_nk xs h
    exact ⟨.tup ns, by show (nkL xs).map NestedKey.tup = _; rw [e1]; rfl, by show D.tup (unkL ns) = _; rw [e2]⟩
  | .non, h => by cases h
  | .bl _, h => by cases h
  | .lst _ _, h => by cases h
  | .dct _ _, h => by cases h
theorem purL_nk : ∀ (ds : List D), purL ds = true → ∃ ns, nkL ds = some ns ∧ unkL ns = ds
  | [], _ => ⟨[], rfl, rfl⟩
  | d :: ds, h => by
    have h' : (d.pur && purL ds) = true := h
    rw [Bool.and_eq_true] at h'
    obtain ⟨n, e1, e2⟩ := pur_nk d h'.1
    obtain ⟨ns, e3, e4⟩ := purL_nk ds h'.2
    exact ⟨n :: ns, by unfold nkL; rw [e1, e3], by show unk n :: unkL ns = _; rw [e2, e4]⟩
end
theorem pur_inj {d d' : D} {n : NestedKey} (h : d.pur = true) (h' : d'.pur = true) (e : d.nk = some n) (e' : d'.nk = some n) : d = d' := by
  obtain ⟨m, a1, a2⟩ := pur_nk d h
  obtain ⟨m', b1, b2⟩ := pur_nk d' h'
  rw [e] at a1
  rw [e'] at b1
  cases a1
  cases b1
  rw [← a2, b2]
/-! the order is one -/
theorem leD_total (a b : D) : (leD a b || leD b a) = true := by
  unfold leD PySem.W.dataLe
  show (!PySem.W.dataLt b.py a.py || !PySem.W.dataLt a.py b.py) = true
  rcases Bool.eq_false_or_eq_true (PySem.W.dataLt b.py a.py) with h | h
  · rcases Bool.eq_false_or_eq_true (PySem.W.dataLt a.py b.py) with h2 | h2
    · have := lex_trans (O := itemOrd) _ _ _ h h2
      rw [lex_irrefl] at this
      cases this
    · rw [h2]; simp
  · rw [h]; rfl
theorem leD_trans (a b c : D) (h1 : leD a b = true) (h2 : leD b c = true) : leD a c = true := by
  unfold leD PySem.W.dataLe at *
  have h1' : (!PySem.W.dataLt b.py a.py) = true := h1
  have h2' : (!PySem.W.dataLt c.py b.py) = true := h2
  show (!PySem.W.dataLt c.py a.py) = true
  rw [Bool.not_eq_true'] at *
  rcases Bool.eq_false_or_eq_true (PySem.W.dataLt c.py a.py) with h | h
  · rcases lex_negTrans (O := itemOrd) _ (PySem.W.keyToks b.py) _ h with z | z
    · rw [show PySem.W.dataLt c.py b.py = true from z] at h2'; cases h2'
    · rw [show PySem.W.dataLt b.py a.py = true from z] at h1'; cases h1'
  · exact h
mutual
theorem toks_inj : ∀ (a b : D) (r t : List (Int ⊕ List Nat)), a.pur = true → b.pur = true → PySem.W.alike a.py b.py = true → PySem.W.keyToks a.py ++ r = PySem.W.keyToks b.py ++ t → a = b ∧ r = t
  | .int i, b, r, t, _, hb, ha, e => by
    cases b with
    | int j =>
      have e' : Sum.inl i :: r = Sum.inl j :: t := e
      injection e' with e1 e2
      injection e1 with e1
      exact ⟨by rw [e1], e2⟩
    | _ => simp [D.py, PySem.W.alike] at ha
  | .str x, b, r, t, _, hb, ha, e => by
    cases b with
    | str y =>
      have e' : Sum.inr x.cps.toList :: r = Sum.inr y.cps.toList :: t := e
      injection e' with e1 e2
      injection e1 with e1
      exact ⟨by rw [PySem.W.str_of_cps e1], e2⟩
    | _ => simp [D.py, PySem.W.alike] at ha
  | .tup xs, b, r, t, hp, hb, ha, e => by
    cases b with
    | tup ys =>
      obtain ⟨h1, h2⟩ := toksL_inj xs ys r t hp hb (by simpa [D.py, PySem.W.alike] using ha) e
      exact ⟨by rw [h1], h2⟩
    | _ => simp [D.py, PySem.W.alike] at ha
  | .non, _, _, _, h, _, _, _ => by cases h
  | .bl _, _, _, _, h, _, _, _ => by cases h
  | .lst _ _, _, _, _, h, _, _, _ => by cases h
  | .dct _ _, _, _, _, h, _, _, _ => by cases h
theorem toksL_inj : ∀ (xs ys : List D) (r t : List (Int ⊕ List Nat)), purL xs = true → purL ys = true → PySem.W.alikeAll (pyL xs) (pyL ys) = true → PySem.W.keyToksAll (pyL xs) ++ r = PySem.W.keyToksAll (pyL ys) ++ t → xs = ys ∧ r = t
  | [], [], r, t, _, _, _, e => by
    have e' : Sum.inl 0 :: r = Sum.inl 0 :: t := e
    injection e' with _ e2
    exact ⟨rfl, e2⟩
  | [], y :: ys, r, t, _, _, _, e => by
    have e' : (Sum.inl 0 : Int ⊕ List Nat) :: r = Sum.inl 1 :: ((PySem.W.keyToks y.py ++ PySem.W.keyToksAll (pyL ys)) ++ t) := e
    injection e' with e1
    cases e1
  | x :: xs, [], r, t, _, _, _, e => by
    have e' : (Sum.inl 1 : Int ⊕ List Nat) :: ((PySem.W.keyToks x.py ++ PySem.W.keyToksAll (pyL xs)) ++ r) = Sum.inl 0 :: t := e
    injection e' with e1
    cases e1
  | x :: xs, y :: ys, r, t, hx, hy, ha, e => by
    have hx' : (x.pur && purL xs) = true := hx
    have hy' : (y.pur && purL ys) = true := hy
    rw [Bool.and_eq_true] at hx' hy'
    have ha' := PySem.W.alike_all_cons (x := x.py) (y := y.py) (xs := pyL xs) (ys := pyL ys) ha
    have e' : (Sum.inl 1 : Int ⊕ List Nat) :: ((PySem.W.keyToks x.py ++ PySem.W.keyToksAll (pyL xs)) ++ r) = Sum.inl 1 :: ((PySem.W.keyToks y.py ++ PySem.W.keyToksAll (pyL ys)) ++ t) := e
    injection e' with _ e2
    rw [List.append_assoc, List.append_assoc] at e2
    obtain ⟨h1, h2⟩ := toks_inj x y _ _ hx'.1 hy'.1 ha'.1 e2
    obtain ⟨h3, h4⟩ := toksL_inj xs ys r t hx'.2 hy'.2 ha'.2 h2
    exact ⟨by rw [h1, h3], h4⟩
end
theorem leD_anti {a b : D} (ha : a.pur = true) (hb : b.pur = true) (al : PySem.W.alike a.py b.py = true) (h1 : leD a b = true) (h2 : leD b a = true) : a = b := by
  unfold leD PySem.W.dataLe at h1 h2
  have h1' : (!PySem.W.dataLt b.py a.py) = true := h1
  have h2' : (!PySem.W.dataLt a.py b.py) = true := h2
  rw [Bool.not_eq_true'] at h1' h2'
  have := lex_total (O := itemOrd) _ _ h2' h1'
  exact (toks_inj a b [] [] ha hb al (by rw [List.append_nil, List.append_nil]; exact this)).1
/-! each once -/
theorem dedD_sub : ∀ {ds : List D} {x : D}, x ∈ dedD ds → x ∈ ds
  | _ :: ds, x, h => by
    rcases List.mem_cons.mp h with rfl | h
    · exact List.mem_cons_self
    · exact List.mem_cons_of_mem _ (dedD_sub (List.mem_filter.mp h).1)
theorem dedD_key : ∀ {ds : List D} {x : D}, x ∈ ds → ∃ y ∈ dedD ds, y.nk = x.nk
  | d :: ds, x, h => by
    rcases List.mem_cons.mp h with rfl | h
    · exact ⟨x, List.mem_cons_self, rfl⟩
    · obtain ⟨y, h1, h2⟩ := dedD_key h
      by_cases e : y.nk = d.nk
      · exact ⟨d, List.mem_cons_self, e.symm.trans h2⟩
      · exact ⟨y, List.mem_cons_of_mem _ (List.mem_filter.mpr ⟨h1, decide_eq_true e⟩), h2⟩
theorem dedD_nodup : ∀ (ds : List D), ((dedD ds).map D.nk).Nodup
  | [] => List.nodup_nil
  | d :: ds => by
    unfold dedD
    rw [List.map_cons, List.nodup_cons]
    refine ⟨fun h => ?_, ?_⟩
    · obtain ⟨y, h1, h2⟩ := List.mem_map.mp h
      exact of_decide_eq_true (List.mem_filter.mp h1).2 h2
    · exact List.Nodup.sublist (List.Sublist.map _ List.filter_sublist) (dedD_nodup ds)
theorem dedD_len : ∀ (ds : List D), (dedD ds).length ≤ ds.length
  | [] => Nat.le_refl _
  | d :: ds => by
    have := dedD_len ds
    have h2 := List.length_filter_le (fun e => decide (e.nk ≠ d.nk)) (dedD ds)
    unfold dedD
    rw [List.length_cons, List.length_cons]
    omega
theorem mem_dedD {ds : List D} (hp : ds.all D.pur = true) {x : D} : x ∈ dedD ds ↔ x ∈ ds := by
  refine ⟨dedD_sub, fun h => ?_⟩
  obtain ⟨y, h1, h2⟩ := dedD_key h
  obtain ⟨n, e, _⟩ := pur_nk x (List.all_eq_true.mp hp x h)
  rw [e] at h2
  rw [← pur_inj (List.all_eq_true.mp hp y (dedD_sub h1)) (List.all_eq_true.mp hp x h) h2 e]
  exact h1
theorem dedD_nd (ds : List D) : (dedD ds).Nodup := List.Pairwise.of_map D.nk (fun _ _ h e => h (congrArg D.nk e)) (dedD_nodup ds)
/-- any order of the same things sorts to one list -/
theorem sort_one {a b : List D} (hp : b.all D.pur = true) (al : ∀ x ∈ b, ∀ y ∈ b, PySem.W.alike x.py y.py = true) (pm : a.Perm b) : a.mergeSort leD = b.mergeSort leD := by
  have pa := List.mergeSort_perm a leD
  have pb := List.mergeSort_perm b leD
  refine List.Perm.eq_of_pairwise (le := fun x y => leD x y = true) (fun x y hx hy h1 h2 => ?_) (List.pairwise_mergeSort leD_trans leD_total a) (List.pairwise_mergeSort leD_trans leD_total b) ((pa.trans pm).trans pb.symm)
  have hx' : x ∈ b := pm.mem_iff.mp (pa.mem_iff.mp hx)
  have hy' : y ∈ b := pb.mem_iff.mp hy
  exact leD_anti (List.all_eq_true.mp hp x hx') (List.all_eq_true.mp hp y hy') (al x hx' y hy') h1 h2
theorem perm_unmap {α β : Type} {f : α → β} : ∀ {us vs : List β}, us.Perm vs → ∀ L : List α, vs = L.map f → ∃ L' : List α, L'.Perm L ∧ us = L'.map f := by
  intro us vs h
  induction h with
  | nil =>
    intro L e
    cases L with
    | nil => exact ⟨[], .refl _, rfl⟩
    | cons _ _ => cases e
  | cons x _ ih =>
    intro L e
    cases L with
    | nil => cases e
    | cons a L =>
      injection e with e1 e2
      obtain ⟨L', p, q⟩ := ih L e2
      exact ⟨a :: L', p.cons a, by rw [List.map_cons, ← e1, q]⟩
  | swap x y l =>
    intro L e
    match L, e with
    | a :: b :: L, e =>
      injection e with e1 e2
      injection e2 with e2 e3
      exact ⟨b :: a :: L, .swap _ _ _, by rw [List.map_cons, List.map_cons, ← e1, ← e2, e3]⟩
    | [_], e => injection e with _ e2; cases e2
    | [], e => cases e
  | trans _ _ ih1 ih2 =>
    intro L e
    obtain ⟨L1, p1, q1⟩ := ih2 L e
    obtain ⟨L2, p2, q2⟩ := ih1 L1 q1
    exact ⟨L2, p2.trans p1, q2⟩
end Eng
namespace Eng
open PySem PySem.Spec PyProof.Rows L2
/-! ### sorted(set(xs)): the run -/
mutual
theorem reads_pur {h : Heap} : ∀ (d : D) (u : Value) (as : List Addr), d.pur = true → Reads h u d.py as → as = []
  | .int _, _, _, _, r => by cases r; rfl
  | .str _, _, _, _, r => by cases r; rfl
  | .tup xs, _, _, p, r => by
    cases r with
    | tuple h1 h2 h3 h4 => exact readsL_pur xs _ _ p h4
  | .non, _, _, p, _ => by cases p
  | .bl _, _, _, p, _ => by cases p
  | .lst _ _, _, _, p, _ => by cases p
  | .dct _ _, _, _, p, _ => by cases p
theorem readsL_pur {h : Heap} : ∀ (ds : List D) (us : List Value) (as : List Addr), purL ds = true → ReadsAll h us (pyL ds) as → as = []
  | [], _, _, _, r => by cases r; rfl
  | d :: ds, _, _, p, r => by
    have p' : (d.pur && purL ds) = true := p
    rw [Bool.and_eq_true] at p'
    cases r with
    | cons h1 h2 => rw [reads_pur d _ _ p'.1 h1, readsL_pur ds _ _ p'.2 h2]; rfl
end
theorem each_maps {α : Type} {R : Value → D → Prop} {f : α → Value} {g : α → D} : ∀ {L : List α}, (∀ r ∈ L, R (f r) (g r)) → PySem.W.EachIs R (L.map f) (L.map g)
  | [], _ => .nil
  | r :: L, h => .cons (h r List.mem_cons_self) (each_maps fun q hq => h q (List.mem_cons_of_mem _ hq))
section
variable {X : Cx} {K : PySem.W.Frag} {w : World} {H : Hp} {Fy : Addr → Prop}
theorem rows_of : ∀ {zs : List V} {its : List Value} {xs : List D} {S : List Addr}, Vals zs its → DnL K w H Fy zs xs S → S = [] → (∀ d ∈ xs, ∃ n, dKey d = some n) →
    ∃ ks : List Rw, its = ks.map (·.1) ∧ (∀ r ∈ ks, ∃ v d, d ∈ xs ∧ RelV v r.1 ∧ Dn K w H Fy v d [] ∧ dKey d = some r.2) ∧ ∀ d ∈ xs, ∃ r ∈ ks, dKey d = some r.2
  | _, _, _, _, .nil, .nil, _, _ => ⟨[], rfl, (by intro r hr; cases hr), (by intro r hr; cases hr)⟩
  | _, _, _, _, .cons r rs, .cons (d := d) h hs, e, k => by
    obtain ⟨e1, e2⟩ := List.append_eq_nil_iff.mp e
    subst e1
    obtain ⟨n, hn⟩ := k _ List.mem_cons_self
    obtain ⟨ks, a1, a2, a3⟩ := rows_of rs hs e2 fun x hx => k x (List.mem_cons_of_mem _ hx)
    refine ⟨(_, n) :: ks, by rw [List.map_cons, ← a1], fun q hq => ?_, fun x hx => ?_⟩
    · rcases List.mem_cons.mp hq with rfl | hq
      · exact ⟨_, d, List.mem_cons_self, r, h, hn⟩
      · obtain ⟨v, x, b1, b2⟩ := a2 q hq
        exact ⟨v, x, List.mem_cons_of_mem _ b1, b2⟩
    · rcases List.mem_cons.mp hx with rfl | hx
      · exact ⟨_, List.mem_cons_self, hn⟩
      · obtain ⟨q, b1, b2⟩ := a3 x hx
        exact ⟨q, List.mem_cons_of_mem _ b1, b2⟩
theorem sset_step (hu : X.A.units + 65 < cLine) (hc : X.calm = true) (pins : List (Addr × Obj)) (s : Shared) (σ : L2.St) (H : Hp) (vs : List V) (us : List Value) (Q : VK) (I : Inv X pins σ H s) (r : Vals vs us) (h : rVN X.K X.w (un dSSet) vs H Q) :
    wpAny (model X.prog X.w) X.A (call (.type "set") us) (fun v s1 => wpAny (model X.prog X.w) X.A (call (.builtin "sorted") [v]) (EP X pins σ Q) X.xe s1) X.xe s := by
  obtain ⟨ds, d, Fy, hd, e, q⟩ := h
  match ds with
  | [] => cases e
  | _ :: _ :: _ => cases e
  | [dx] =>
  obtain ⟨x, rfl, hx⟩ := hd.one1
  match dx with
  | .non | .bl _ | .int _ | .str _ | .tup _ | .dct _ _ => cases e
  | .lst o xs =>
  obtain ⟨hf, rfl⟩ := ifs (show (if setTB xs = true then some (D.lst true ((dedD xs).mergeSort leD)) else none) = some d from e)
  obtain ⟨a, zs, rfl, -, h2, r1⟩ := hx.sqL
  obtain ⟨its, rv, hl, hz⟩ := I.list h2
  rw [Vals.ref1 r]
  unfold setTB sortB at hf
  simp only [Bool.and_eq_true, List.all_eq_true, Bool.or_eq_true, decide_eq_true_eq] at hf
  obtain ⟨⟨⟨⟨b1, -⟩, b3⟩, b4⟩, b5⟩ := hf
  obtain ⟨ks, k1, k2, k3⟩ := rows_of rv r1 rfl fun d hd => Option.isSome_iff_exists.mp (b4 d hd).2
  have pure_all : xs.all D.pur = true := List.all_eq_true.mpr fun d hd => (b4 d hd).1.1
  have ukey : ∀ {d : D} {n : NestedKey}, d ∈ xs → dKey d = some n → unk n = d := fun {d n} hd hn => by
    obtain ⟨m, e1, e2⟩ := pur_nk d (b4 d hd).1.1
    rw [(dKey_some hn).1] at e1
    cases e1
    exact e2
  have tk : ∀ r ∈ ks, TupK s.heap r.2 r.1 := fun r hr => by
    obtain ⟨v, d, c1, c2, c3, c4⟩ := k2 r hr
    obtain ⟨e1, e2⟩ := dKey_some c4
    refine ⟨Dn.nested I c3 e1 c2, e2, ?_⟩
    have t1 := (b4 d c1).1.2
    unfold tup1 at t1
    split at t1
    · obtain ⟨b, _, rfl, _⟩ := c3.sqT
      exact ⟨b, c2⟩
    · cases t1
  refine setN_call ks ((dedD xs).filterMap D.nk) (Nat.le_trans (List.length_filterMap_le _ _) b5) (fun r hr => ?_) (I.ok.hd hc) hl.isList (by simpa using k1) tk (by omega) fun h' tk' L es ep t R g kk => ?_
  · obtain ⟨v, d, c1, c2, c3, c4⟩ := k2 r hr
    obtain ⟨y, y1, y2⟩ := dedD_key c1
    exact List.mem_filterMap.mpr ⟨y, y1, y2.trans (dKey_some c4).1⟩
  have lks : ∀ r ∈ L, r ∈ ks := fun r hr => by have := g.fr r hr; rwa [List.take_length] at this
  have kls : ∀ r ∈ ks, r.2 ∈ L.map (·.2) := fun r hr => g.al r (by rwa [List.take_length])
  -- what the rows stand for
  have row : ∀ r ∈ L, ∃ v d, d ∈ xs ∧ RelV v r.1 ∧ Dn X.K X.w H Fy v d [] ∧ dKey d = some r.2 ∧ unk r.2 = d := fun r hr => by
    obtain ⟨v, d, c1, c2, c3, c4⟩ := k2 r (lks r hr)
    exact ⟨v, d, c1, c2, c3, c4, ukey c1 c4⟩
  have pmL : (L.map fun r => unk r.2).Perm (dedD xs) := by
    refine (List.perm_ext_iff_of_nodup ?_ (dedD_nd xs)).mpr fun x => ?_
    · rw [List.nodup_iff_pairwise_ne, List.pairwise_map]
      refine List.Pairwise.imp_of_mem (fun {p q} hp hq ne e => ne ?_) (List.pairwise_map.mp R.un)
      obtain ⟨_, d, -, -, -, c4, c5⟩ := row p hp
      obtain ⟨_, d', -, -, -, c4', c5'⟩ := row q hq
      rw [c5, c5'] at e
      rw [e, c4'] at c4
      exact (Option.some.inj c4).symm
    · rw [mem_dedD pure_all]
      constructor
      · intro hm
        obtain ⟨r, hr, rfl⟩ := List.mem_map.mp hm
        obtain ⟨_, d, c1, -, -, -, c5⟩ := row r hr
        rw [c5]; exact c1
      · intro hm
        obtain ⟨r, hr, c⟩ := k3 x hm
        obtain ⟨r', hr', e'⟩ := List.mem_map.mp (kls r hr)
        exact List.mem_map.mpr ⟨r', hr', by rw [e']; exact ukey hm c⟩
  have lenL : L.length ≤ 76 := by
    have := pmL.length_eq
    rw [List.length_map] at this
    omega
  -- sorted
  obtain ⟨o1, o2, o3, o4⟩ := R.at'
  refine Calls.call_function_entry kind_sorted plain_sorted entry_sorted (args_sorted1 _) ?_
  unfold Builtin.«sorted»
  refine wpAny_bind (m := checkCount "sorted" 1 1 _) (wpAny_pure ?_)
  refine wpAny_bind (collect_set (A := X.A.in1) (I.ok.hd hc) ⟨o1, o2, o3.1, o4⟩ (SetN.fit (s := { s with heap := h', toks := tk' }) R) (by unfold scanBound; rw [SetN.sz (s := { s with heap := h', toks := tk' }) R]; omega) R.tb.ris R.ld fun s1 out kp hz1 g1 os1 pm => ?_)
  have es1 : es.toList.map (·.2) = L.map (·.1) := by
    rw [R.rw]
    unfold rowsN
    rw [List.map_map]
    rfl
  rw [es1] at pm
  obtain ⟨L', pL, rfl⟩ := perm_unmap pm L rfl
  have lenL' : L'.length ≤ 76 := by rw [pL.length_eq]; exact lenL
  have old : ∀ b u, s.heap.get? b = some u → s1.heap.get? b = some u := fun b u e => kp b u (kk b u e)
  refine wpAny_bind (wpAny_newList ?_ (by rw [List.length_map, sizeLine_eq]; omega))
  have hoL : (s1.heap.push (seqObj "list" (L'.map (·.1)).toArray 0)).get? s1.heap.objs.size = some (seqObj "list" (L'.map (·.1)).toArray 0) := Heap.get?_push_size _ rfl
  have bsx : ∀ d ∈ L'.map (fun r => unk r.2), d ∈ xs := fun d hd => dedD_sub ((pL.map _).trans pmL |>.mem_iff.mp hd)
  refine wpAny_bind (wpAny_holding (PySem.W.list_sort_data (s := { s1 with heap := s1.heap.push (seqObj "list" (L'.map (·.1)).toArray 0) }) (enc := D.py) (bs := L'.map fun r => unk r.2) (R := fun u d => ∃ v, RelV v u ∧ Dn X.K X.w H Fy v d []) hoL
    (each_maps fun r hr => ?_) (each_maps fun r hr => ?_) (fun x hx y hy => ?_) (.inl fun x hx => ?_) (by rw [List.length_map, sizeLine_eq]; omega) (fun x hx => ?_) fun fin hfl ef => ?_))
  · obtain ⟨v, d, -, c2, c3, -, c5⟩ := row r (pL.mem_iff.mp hr)
    exact ⟨v, c2, by rw [c5]; exact c3⟩
  · obtain ⟨v, d, c1, c2, c3, c4, c5⟩ := row r (pL.mem_iff.mp hr)
    rw [c5]
    obtain ⟨as, rd⟩ := Dp.reads I d.py v r.1 (c3.dp (b3 d c1).1) c2
    have := reads_pur d _ _ (b4 d c1).1.1 rd
    subst this
    exact ⟨[], PyProof.Rows.Reads.keeps (fun b u e => Heap.get?_push_of_some _ (old b u e)) rd, nno⟩
  · obtain ⟨x, hx', rfl⟩ := List.mem_map.mp hx
    obtain ⟨y, hy', rfl⟩ := List.mem_map.mp hy
    replace hx := hx'
    replace hy := hy'
    exact b1 x (bsx x hx) y (bsx y hy)
  · obtain ⟨x, hx', rfl⟩ := List.mem_map.mp hx
    replace hx := hx'
    have t1 := (b4 x (bsx x hx)).1.2
    unfold tup1 at t1
    split at t1
    · exact ⟨_, _, rfl⟩
    · cases t1
  · have := (b3 x (bsx x hx)).2
    show X.A.units + 1 + 1 + _ < cLine
    omega
  · rw [show (L'.map fun r => unk r.2).mergeSort (PySem.W.dataLe false D.py) = (dedD xs).mergeSort leD from sort_one (List.all_eq_true.mpr fun x hx => List.all_eq_true.mp pure_all x (dedD_sub hx)) (fun x hx y hy => b1 x (dedD_sub hx) y (dedD_sub hy)) ((pL.map _).trans pmL)] at ef
    obtain ⟨ys, y1, y2⟩ := of_each ef
    obtain ⟨c, hc'⟩ := sortedHeap_at (vs := L'.map (·.1)) (out := fin.toArray) hoL
    have hp : s.heap.objs.size ≤ s1.heap.objs.size := by
      exact Nat.le_trans (Nat.le_of_lt (Heap.lt_size o2)) hz1
    have np : H s1.heap.objs.size = none := I.hok.fresh hp
    have kf : ∀ b u, s.heap.get? b = some u → (sortedHeap (s1.heap.push (seqObj "list" (L'.map (·.1)).toArray 0)) s1.heap.objs.size (L'.map (·.1)) fin.toArray).get? b = some u := fun b u e => by
      have e2 := old b u e
      have lt := Heap.lt_size e2
      rw [sortedHeap_old (Nat.ne_of_lt lt) (by rw [size_push']; exact Nat.lt_succ_of_lt lt)]
      exact Heap.get?_push_of_some _ e2
    have hy : ys.length ≤ sizeLine := by rw [y2.length, List.length_mergeSort, sizeLine_eq]; omega
    refine wpAny_pure ⟨_, rfl, ?_⟩
    have J : Inv X pins σ (upd H s1.heap.objs.size (.lst ys)) { s with heap := sortedHeap (s1.heap.push (seqObj "list" (L'.map (·.1)).toArray 0)) s1.heap.objs.size (L'.map (·.1)) fin.toArray, gens := s1.gens, drawn := s1.drawn, toks := s1.toks } :=
      I.call (ch := []) (Un.laid kf hp np) (I.hok.laid kf hp ⟨hy, fin, c, y1, hc'⟩) (by rw [g1]; exact I.bare) (fun _ z => nomatch z)
    have st : ({ s1 with heap := sortedHeap (s1.heap.push (seqObj "list" (L'.map (·.1)).toArray 0)) s1.heap.objs.size (L'.map (·.1)) fin.toArray } : Shared) = { s with heap := sortedHeap (s1.heap.push (seqObj "list" (L'.map (·.1)).toArray 0)) s1.heap.objs.size (L'.map (·.1)) fin.toArray, gens := s1.gens, drawn := s1.drawn, toks := s1.toks } := by
      cases s1
      cases s
      cases os1
      rfl
    exact ⟨.ref s1.heap.objs.size, _, st ▸ J, rfl, q.lst y2 _ np⟩
end
end Eng
namespace Eng
open PySem PySem.Spec PyProof.Rows L2
/-! ### sorted(d): a dict's keys -/
section
variable {prog : Program} {w : World} {A : Around} {E : Value → Shared → Prop} {s : Shared} {T : String} {r d : Addr} {n : Nat} {P : Nat → Value → Prop} {OK : Heap → Prop}
theorem collect_K {Q : List Value → Shared → Prop} (K : PySem.W.KdlSrc prog w T r d n P OK) (hh : A.handled = none) (hok : OK s.heap) (hn : n ≤ sizeLine)
    (fin : ∀ h' tk acc, (∀ b o, s.heap.get? b = some o → h'.get? b = some o) → s.heap.objs.size ≤ h'.objs.size → ItemsOf P acc n → Q acc.toList { s with heap := h', toks := tk }) : wpAny (model prog w) A (collect (.ref r)) Q E s := by
  have lt := K.there _ hok
  unfold collect
  refine wpAny_bind (wpAny_runValue (codeAny_builtin F.entry_proto_collect ?_))
  rw [Around.under_plainId F.plain_proto_collect _]
  refine wpAny_bind (m := newList []) (wpAny_newObj_type ?_)
  refine wpAny_pure ⟨plainId_quiet F.plain_list_iadd _, codeAny_builtin F.entry_list_iadd ?_⟩
  rw [Around.under_plainId F.plain_list_iadd _]
  have hS : (s.heap.push { cls := .type "list", data := .seq #[] }).get? s.heap.objs.size = some { cls := .type "list", data := .seq #[] } := Heap.get?_push_size _ rfl
  show wpAny _ A.in1 (Builtin.List.listExtendWith (.ref s.heap.objs.size) (.ref r) (.ref s.heap.objs.size)) _ _ _
  refine wpAny_mono (PySem.W.kdl_extend (R := fun r s' => ∃ h' tk acc c, r = .ok (.ret (.ref s.heap.objs.size)) ∧ s' = { s with heap := h', toks := tk } ∧ h'.get? s.heap.objs.size = some { cls := .type "list", dict := none, data := .seq acc c, slots := #[] } ∧ (∀ b o, s.heap.get? b = some o → h'.get? b = some o) ∧ ItemsOf P acc n) (s := { s with heap := s.heap.push { cls := .type "list", data := .seq #[] } }) K hh (K.keep _ _ hok fun b _ o e => Heap.get?_push_of_some _ e) s.heap.objs.size (Nat.ne_of_gt lt.1) (Nat.ne_of_gt lt.2) (.ref s.heap.objs.size) 0 hS (fun h' tk acc c kp g it => ⟨h', tk, acc, c, rfl, rfl, g, fun b o e => kp b o (Nat.ne_of_lt (Heap.lt_size e)) (Heap.get?_push_of_some _ e), it⟩) hn) (fun r s' hr => ?_) fun e s' hr => ?_
  · have back : ∀ (r : Result) (s' : Shared), (∃ h' tk acc c, r = .ok (.ret (.ref s.heap.objs.size)) ∧ s' = { s with heap := h', toks := tk } ∧ h'.get? s.heap.objs.size = some { cls := .type "list", dict := none, data := .seq acc c, slots := #[] } ∧ (∀ b o, s.heap.get? b = some o → h'.get? b = some o) ∧ ItemsOf P acc n) →
        (match r with
          | .ok (.ret v) => wpAny (model prog w) A (match v with
              | .ref a => do
                match (← load a).data with
                | .seq xs _ => pure xs.toList
                | _ => unsupported "internal:collect"
              | _ => unsupported "internal:collect") Q E s'
          | .ok _ => False
          | .error e => E e s') := fun r s' ⟨h', tk, acc, c, e1, e2, g, old, it⟩ => by
      subst e1
      subst e2
      refine wpAny_bind (wpAny_load g ?_)
      exact wpAny_pure (fin h' tk acc old (Nat.le_of_lt (Heap.lt_size g)) it)
    match r, hr with
    | .done f, hr => exact back _ _ hr
    | .again c', hr => exact ⟨hr.1, codeAny_mono hr.2 back⟩
  · obtain ⟨_, _, _, _, e1, _⟩ := hr
    cases e1
end
section
variable {X : Cx}
theorem callr_sorted (hu : X.A.units + 65 < cLine) (hc : X.calm = true) : CallR X (.builtin "sorted") (rVN X.K X.w (un dSorted)) := callr_un fun x dx d H Fy Q hx e q => by
  match dx with
  | .lst o xs =>
    obtain ⟨hf, rfl⟩ := ifs (show (if sortB xs = true then some (D.lst true (xs.mergeSort leD)) else none) = some d from e)
    obtain ⟨a, vs, rfl, h1, h2, r1⟩ := hx.sqL
    exact ⟨_, callr_sortD hu, a, vs, xs, Fy, rfl, h2, r1, hf, fun ys p hy np => q.lst hy p np⟩
  | .dct o kvs =>
    obtain ⟨hf, rfl⟩ := ifs (show (if (sortB (kvs.map (·.1)) && (kvs.map (·.1)).all D.pur) = true then some (D.lst true ((kvs.map (·.1)).mergeSort leD)) else none) = some d from e)
    rw [Bool.and_eq_true] at hf
    refine ⟨fun vs H Q => ∃ x o kvs Fy, vs = [x] ∧ Dn X.K X.w H Fy x (.dct o kvs) [] ∧ sortB (kvs.map (·.1)) = true ∧ (kvs.map (·.1)).all D.pur = true ∧ After X.K X.w H Fy (.lst true ((kvs.map (·.1)).mergeSort leD)) Q, ?_, x, o, kvs, Fy, rfl, hx, hf.1, hf.2, q⟩
    clear hx q hf e
    intro pins s σ H vs us Q I r h
    obtain ⟨x, o, kvs, Fy, rfl, hx, hb, hp, q⟩ := h
    obtain ⟨u, rfl, rx⟩ := vals1 r
    obtain ⟨a, ob, es, kn, rfl, ho, k, r1, _⟩ := hx.dict I
    cases rx
    obtain ⟨ep, hdt⟩ := k.dt
    have hsz : es.size = kvs.length := by rw [← r1.length, Array.length_toList]
    unfold sortB at hb
    simp only [Bool.and_eq_true, List.all_eq_true, Bool.or_eq_true, decide_eq_true_eq] at hb hp
    obtain ⟨⟨b1, b2⟩, b3⟩ := hb
    refine Calls.call_function_entry kind_sorted plain_sorted entry_sorted (args_sorted1 _) ?_
    unfold Builtin.«sorted»
    refine wpAny_bind (m := checkCount "sorted" 1 1 _) (wpAny_pure ?_)
    refine wpAny_bind (collect_K (A := X.A.in1) (PySem.KdlSrc.rawDict (es := es) (ep := ep) k.ns) (I.ok.hd hc) ⟨ob, ho, k.ex, hdt⟩ k.sz fun h' tk acc old hz1 it => ?_)
    obtain ⟨vs, rv, hv⟩ : ∃ vs, Vals vs acc.toList ∧ DnL X.K X.w H Fy vs (kvs.map (·.1)) [] := by
      refine vals_of (n := es.size) it.1 (by rw [List.length_map]; omega) fun j u hu => ?_
      obtain ⟨hj, rfl⟩ := it.2 j u hu
      obtain ⟨p, n, hp, hE⟩ := r1.get (i := j) (by rw [Array.getElem?_toList]; exact Array.getElem?_eq_getElem hj)
      obtain ⟨kv, rk, hk⟩ := hE.key
      exact ⟨p.1, kv, by rw [List.getElem?_map, hp]; rfl, rk, hk⟩
    have hl : acc.toList.length ≤ sizeLine := by rw [Array.length_toList, it.1]; exact k.sz
    generalize acc.toList = out at rv hl
    have hk2 := k.sz
    refine wpAny_bind (wpAny_newList ?_ hl)
    have hoL : (h'.push (seqObj "list" out.toArray 0)).get? h'.objs.size = some (seqObj "list" out.toArray 0) := Heap.get?_push_size _ rfl
    refine wpAny_bind (wpAny_holding (PySem.W.list_sort_data (s := { s with heap := h'.push (seqObj "list" out.toArray 0), toks := tk }) (enc := D.py) (bs := kvs.map (·.1)) (R := fun u d => ∃ v, RelV v u ∧ Dn X.K X.w H Fy v d []) hoL
      (each_of rv hv rfl fun v u d _ r h => ⟨v, r, h⟩) (each_of rv hv rfl fun v u d hm r h => ?_) (fun x hx y hy => ?_) ?_ (by rw [List.length_map, ← hsz]; exact k.sz) (fun x hx => ?_) fun fin hfl ef => ?_))
    · obtain ⟨as, rd⟩ := Dp.reads I d.py v u (h.dp (b3 d hm).1) r
      have := reads_pur d _ _ (hp d hm) rd
      subst this
      exact ⟨[], PyProof.Rows.Reads.keeps (fun b u e => Heap.get?_push_of_some _ (old b u e)) rd, nno⟩
    · obtain ⟨x, hx', rfl⟩ := List.mem_map.mp hx
      obtain ⟨y, hy', rfl⟩ := List.mem_map.mp hy
      exact b1 x hx' y hy'
    · rcases b2 with b2 | b2
      · refine .inl fun d hm => ?_
        obtain ⟨x, hx, rfl⟩ := List.mem_map.mp hm
        have := b2 x hx
        unfold tup1 at this
        split at this
        · exact ⟨_, _, rfl⟩
        · cases this
      · refine .inr fun d hm => ?_
        obtain ⟨x, hx, rfl⟩ := List.mem_map.mp hm
        have := b2 x hx
        cases x <;> first | (cases this; done) | exact ⟨fun z => (by cases z), fun xs z => (by cases z)⟩
    · have := (b3 x hx).2
      show X.A.units + 1 + 1 + _ < cLine
      omega
    · obtain ⟨ys, y1, y2⟩ := of_each ef
      obtain ⟨c, hc'⟩ := sortedHeap_at (vs := out) (out := fin.toArray) hoL
      have np : H h'.objs.size = none := I.hok.fresh hz1
      have kf : ∀ b u, s.heap.get? b = some u → (sortedHeap (h'.push (seqObj "list" out.toArray 0)) h'.objs.size out fin.toArray).get? b = some u := fun b u e => by
        have e2 := old b u e
        have lt := Heap.lt_size e2
        rw [sortedHeap_old (Nat.ne_of_lt lt) (by rw [size_push']; exact Nat.lt_succ_of_lt lt)]
        exact Heap.get?_push_of_some _ e2
      have hy : ys.length ≤ sizeLine := by rw [y2.length, List.length_mergeSort, List.length_map, ← hsz]; exact k.sz
      refine wpAny_pure ⟨_, rfl, ?_⟩
      have J : Inv X pins σ (upd H h'.objs.size (.lst ys)) { s with heap := sortedHeap (h'.push (seqObj "list" out.toArray 0)) h'.objs.size out fin.toArray, toks := tk } :=
        I.laid kf hz1 ⟨hy, fin, c, y1, hc'⟩
      exact ⟨.ref h'.objs.size, _, J, rfl, q.lst y2 _ np⟩
  | .non | .bl _ | .int _ | .str _ | .tup _ => cases e
end
end Eng
namespace Eng
open PySem PySem.Spec PyProof.Rows L2
/-! ### enumerate over a tuple -/
theorem tit_ext {h h' : Heap} {it t e : Addr} {i : Nat} (x : h.IsTupleIter it t i) (k : Heap.ExtBut e h h') (ne : it ≠ e) : h'.IsTupleIter it t i := let ⟨o, ho, r⟩ := x; ⟨o, k it o ne ho, r⟩
section
variable {prog : Program} {w : World} {A : Around} {E : Value → Shared → Prop} {s : Shared} {it t e : Addr} {i : Nat} {items : Array Value}
theorem nextOf_tup {x : Value} {Q : Value → Shared → Prop} (a : s.heap.IsTupleIter it t i) (b : s.heap.IsTuple t items) (hx : items[i]? = some x)
    (fin : ∀ h', h'.IsTupleIter it t (i + 1) → Heap.SameBut it s.heap h' → Q x { s with heap := h' }) : wpAny (model prog w) A (Builtin.SmallTypes.nextOf (.ref it)) Q E s := by
  obtain ⟨o, o1, o2, o3⟩ := id a
  obtain ⟨u, u1, u2, m, u3⟩ := b
  unfold Builtin.SmallTypes.nextOf
  refine wpAny_bind (wpAny_callSpecial?_slot (name := Str.ofString "__next__") a.typeIs F.slot_tuple_iterator_next (wpAny_call_entry F.slot_tuple_iterator_next a.typeIs F.entry_tuple_iterator_next ?_ (F.args_tuple_iterator_next_1 _)))
  refine wpAny_bind (m := field (.ref it) 0) (wpAny_field o1 o3 (x := .ref t) rfl ?_)
  rw [if_neg (fun z => Bool.false_ne_true z : ¬ ((Value.ref t == Value.none) = true))]
  refine wpAny_bind (m := field (.ref it) 1) (wpAny_field o1 o3 (x := .int i 0) rfl ?_)
  refine wpAny_bind (m := seqItems? (.ref t)) (wpAny_seqItems u1 u3 ?_)
  simp only [Int.toNat_natCast, hx]
  refine wpAny_bind (wpAny_setField o1 o3 (by simp) (wpAny_pure ⟨x, rfl, wpAny_pure (fin _ ⟨_, Heap.get?_update_self _ o1 (Obj.isFreed_of_fields (Obj.data_mapFields o3 _)), (Obj.cls_mapFields ..).trans o2, ?_⟩ (Heap.SameBut.update ..))⟩))
  rw [Obj.data_mapFields o3]
  simp [rawInt]
theorem nextOf_tup_end {Q : Value → Shared → Prop} (hh : A.handled = none) (a : s.heap.IsTupleIter it t i) (b : s.heap.IsTuple t items) (hx : items[i]? = none)
    (fin : ∀ h' x, Heap.ExtBut it s.heap h' → (∃ o, h'.get? x = some o ∧ o.cls = .type "StopIteration") → E (.ref x) { s with heap := h' }) : wpAny (model prog w) A (Builtin.SmallTypes.nextOf (.ref it)) Q E s := by
  obtain ⟨o, o1, o2, o3⟩ := id a
  obtain ⟨u, u1, u2, m, u3⟩ := b
  unfold Builtin.SmallTypes.nextOf
  refine wpAny_bind (wpAny_callSpecial?_slot (name := Str.ofString "__next__") a.typeIs F.slot_tuple_iterator_next (wpAny_call_entry F.slot_tuple_iterator_next a.typeIs F.entry_tuple_iterator_next ?_ (F.args_tuple_iterator_next_1 _)))
  refine wpAny_bind (m := field (.ref it) 0) (wpAny_field o1 o3 (x := .ref t) rfl ?_)
  rw [if_neg (fun z => Bool.false_ne_true z : ¬ ((Value.ref t == Value.none) = true))]
  refine wpAny_bind (m := field (.ref it) 1) (wpAny_field o1 o3 (x := .int i 0) rfl ?_)
  refine wpAny_bind (m := seqItems? (.ref t)) (wpAny_seqItems u1 u3 ?_)
  simp only [Int.toNat_natCast, hx]
  refine wpAny_bind (wpAny_rule (wpAny_bind (wpAny_setField o1 o3 (by simp) ?_)))
  refine wpAny_bind (m := newExc (.type "StopIteration") []) ?_
  simp only [newExc, newTuple]
  refine wpAny_bind (wpAny_newObj_type ?_ (by size_fits))
  refine wpAny_bind (m := firstArgMember _ _) (wpAny_of_eq (a := Value.none) (by first | rfl | (simp only [firstArgMember]; rfl)) ?_)
  refine wpAny_newObj_type ?_ (by size_fits)
  simp only [raiseNew]
  refine wpAny_bind (wpAny_handled ?_)
  rw [show A.in1.handled = none from hh]
  exact wpAny_bind (wpAny_pure (wpAny_throw (fin _ _ (((Heap.SameBut.update ..).extBut.push _).push _) ⟨_, Heap.get?_push_size _ rfl, rfl⟩)))
theorem enumT_item {x old : Value} {Q : Option Value → Shared → Prop} (he : IsEnum s.heap e it i old) (a : s.heap.IsTupleIter it t i) (b : s.heap.IsTuple t items) (hx : items[i]? = some x) (ne : e ≠ it)
    (fin : ∀ h', IsEnumOut h' e it ((i : Int) + 1) x s.heap.objs.size → h'.IsTupleIter it t (i + 1) → h'.get? s.heap.objs.size = some { cls := .type "tuple", data := .seq #[.int i s.toks, x] } → h'.objs.size = s.heap.objs.size + 1 →
      (∀ b o, b ≠ e → b ≠ it → s.heap.get? b = some o → h'.get? b = some o) → Q (some (.ref s.heap.objs.size)) { s with heap := h', toks := s.toks + 1 }) : wpAny (model prog w) A (pyNext (.ref e)) Q E s := by
  have ty : s.TypeIs (.ref e) "enumerate" := ⟨_, he, rfl⟩
  have lt : e < s.heap.objs.size := Heap.lt_size he
  unfold pyNext
  refine wpAny_bind (wpAny_attempt (wpAny_callSpecial?_slot (name := Str.ofString "__next__") ty F.slot_enumerate_next (wpAny_call_entry F.slot_enumerate_next ty F.entry_enumerate_next ?_ (F.args_enumerate_next_1 _))))
  refine wpAny_bind (m := field (.ref e) 2) (wpAny_field he rfl (x := .ref it) rfl ?_)
  refine wpAny_bind (nextOf_tup a b hx fun h1 a1 s1 => ?_)
  have e1 : IsEnum h1 e it i old := (s1.2 e ne).trans he
  refine wpAny_bind (m := field (.ref e) 3) (wpAny_field e1 rfl (x := rawInt i) rfl ?_)
  refine wpAny_bind (m := field (.ref e) 4) (wpAny_field e1 rfl (x := .none) rfl ?_)
  refine wpAny_bind (m := mkInt i) (wpAny_mkInt ?_)
  refine wpAny_bind (m := setField (.ref e) 3 (rawInt ((i : Int) + 1))) (wpAny_setField_rec e1 (by simp) fun h2 e2 s2 => ?_)
  replace e2 : IsEnum h2 e it ((i : Int) + 1) old := e2
  replace s2 : Heap.SameBut e h1 h2 := s2
  refine wpAny_bind (m := setField (.ref e) 4 .none) (wpAny_setField_rec e2 (by simp) fun h3 e3 s3 => ?_)
  replace e3 : IsEnum h3 e it ((i : Int) + 1) old := e3
  replace s3 : Heap.SameBut e h2 h3 := s3
  refine wpAny_bind (m := newTuple [.int i s.toks, x]) (wpAny_newTuple ?_)
  have sz : h3.objs.size = s.heap.objs.size := by rw [s3.1, s2.1, s1.1]
  have e4 : IsEnum (h3.push { cls := .type "tuple", data := .seq #[.int i s.toks, x] }) e it ((i : Int) + 1) old := Heap.get?_push_of_some _ e3
  have t4 : (h3.push { cls := .type "tuple", data := .seq #[.int i s.toks, x] }).get? s.heap.objs.size = some { cls := .type "tuple", data := .seq #[.int i s.toks, x] } := by rw [← sz]; exact Heap.get?_push_size _ rfl
  have z4 : (h3.push { cls := .type "tuple", data := .seq #[.int i s.toks, x] }).objs.size = s.heap.objs.size + 1 := by rw [Heap.size_push, sz]
  have a4 : (h3.push { cls := .type "tuple", data := .seq #[.int i s.toks, x] }).IsTupleIter it t (i + 1) := by
    obtain ⟨o, ho, r⟩ := tit_ext (tit_ext a1 s2.extBut (Ne.symm ne)) s3.extBut (Ne.symm ne)
    exact ⟨o, Heap.get?_push_of_some _ ho, r⟩
  have k4 : ∀ b o, b ≠ e → b ≠ it → s.heap.get? b = some o → (h3.push { cls := .type "tuple", data := .seq #[.int i s.toks, x] }).get? b = some o := fun b o c1 c2 c3 => Heap.get?_push_of_some _ (s3.extBut b o c1 (s2.extBut b o c1 (s1.extBut b o c2 c3)))
  show wpAny _ _ (Builtin.SmallTypes.ownedTupleIsFree (.ref e) >>= _) _ _ { s with heap := h3.push { cls := .type "tuple", data := .seq #[.int i s.toks, x] }, toks := s.toks + 1 }
  rw [show (h3 : Heap).objs.size = s.heap.objs.size from sz]
  generalize h3.push { cls := .type "tuple", data := .seq #[.int i s.toks, x] } = h4 at e4 t4 z4 a4 k4 ⊢
  refine wpAny_bind ?_
  unfold Builtin.SmallTypes.ownedTupleIsFree
  refine wpAny_bind (wpAny_field e4 rfl (x := .none) rfl (wpAny_pure ?_))
  simp only [if_true]
  refine wpAny_bind (wpAny_rule ?_)
  refine wpAny_bind (wpAny_field e4 rfl (x := old) rfl ?_)
  refine wpAny_bind (wpAny_setField_rec e4 (by simp) fun h5 e5 s5 => ?_)
  replace e5 : IsEnum h5 e it ((i : Int) + 1) x := e5
  replace s5 : Heap.SameBut e h4 h5 := s5
  refine wpAny_bind (m := Builtin.SmallTypes.ownedTupleHandOut (.ref e) (.ref s.heap.objs.size)) ?_
  unfold Builtin.SmallTypes.ownedTupleHandOut
  refine wpAny_bind (wpAny_setField_rec e5 (by simp) fun h6 e6 s6 => ?_)
  replace e6 : IsEnumOut h6 e it ((i : Int) + 1) x s.heap.objs.size := e6
  replace s6 : Heap.SameBut e h5 h6 := s6
  refine wpAny_setField_rec e6 (by simp) fun h7 e7 s7 => ?_
  replace e7 : IsEnumOut h7 e it ((i : Int) + 1) x s.heap.objs.size := e7
  replace s7 : Heap.SameBut e h6 h7 := s7
  refine wpAny_bind (wpAny_letGo (wpAny_pure ⟨_, rfl, wpAny_pure (fin h7 e7 ?_ ?_ ?_ fun b o c1 c2 c3 => ?_)⟩))
  · exact tit_ext (tit_ext (tit_ext a4 s5.extBut (Ne.symm ne)) s6.extBut (Ne.symm ne)) s7.extBut (Ne.symm ne)
  · have nn := Nat.ne_of_gt lt
    exact s7.extBut _ _ nn (s6.extBut _ _ nn (s5.extBut _ _ nn t4))
  · rw [s7.1, s6.1, s5.1, z4]
  · exact s7.extBut b o c1 (s6.extBut b o c1 (s5.extBut b o c1 (k4 b o c1 c2 c3)))
theorem enumT_end {old : Value} {Q : Option Value → Shared → Prop} (hh : A.handled = none) (he : IsEnum s.heap e it i old) (a : s.heap.IsTupleIter it t i) (b : s.heap.IsTuple t items) (hx : items[i]? = none)
    (fin : ∀ h', Heap.ExtBut it s.heap h' → Q none { s with heap := h' }) : wpAny (model prog w) A (pyNext (.ref e)) Q E s := by
  have ty : s.TypeIs (.ref e) "enumerate" := ⟨_, he, rfl⟩
  unfold pyNext
  refine wpAny_bind (wpAny_attempt (wpAny_callSpecial?_slot (name := Str.ofString "__next__") ty F.slot_enumerate_next (wpAny_call_entry F.slot_enumerate_next ty F.entry_enumerate_next ?_ (F.args_enumerate_next_1 _))))
  refine wpAny_bind (m := field (.ref e) 2) (wpAny_field he rfl (x := .ref it) rfl ?_)
  refine wpAny_bind (nextOf_tup_end hh a b hx fun h' x k ⟨o, o1, o2⟩ => ?_)
  exact wpAny_bind (wpAny_isInstance (T := "StopIteration") (b := true) ⟨o, o1, o2⟩ isSubtype_stop (wpAny_pure (fin _ k)))
theorem enumT_new (l : Addr) (items : Array Value) (n : Nat) (dct : Option Addr) (sl : Array (Option Value)) :
    Meets (Builtin.«enumerate.__new__» ⟨[.type "enumerate", .ref l], []⟩) (fun _ R s => s.heap.get? l = some { cls := .type "tuple", dict := dct, data := .seq items n, slots := sl } ∧
      R (.ok (.ret (.ref (s.heap.push { cls := .type "tuple_iterator", data := .fields #[.ref l, .int 0 0] }).objs.size)))
        { s with heap := (s.heap.push { cls := .type "tuple_iterator", data := .fields #[.ref l, .int 0 0] }).push { cls := .type "enumerate", data := .fields #[.none, .bool false, .ref s.heap.objs.size, rawInt 0, .none, .none] } }) :=
  .of_wp fun prog w A R s h => by
    obtain ⟨hp, g, d, tk, os⟩ := s
    obtain ⟨hl, h⟩ := h
    have sub := sub_enumerate
    have hL : Heap.IsTuple (Shared.heap ⟨hp, g, d, tk, os⟩) l items := ⟨_, hl, rfl, n, rfl⟩
    wp_walk using AutoSeq1.wpAny_loadPart' hl
    refine wpAny_stack_any fun st => wpAny_pure ?_
    split
    · rename_i c _ _ _ _ _
      cases (c == Value.type "enumerate")
      · wp_walk using AutoSeq1.wpAny_loadPart' hl, wpAny_pyIter_tuple hL
        exact ⟨_, rfl, h⟩
      · wp_walk using AutoSeq1.wpAny_loadPart' hl, wpAny_pyIter_tuple hL
        exact ⟨_, rfl, h⟩
    · wp_walk using AutoSeq1.wpAny_loadPart' hl, wpAny_pyIter_tuple hL
      exact ⟨_, rfl, h⟩
theorem enumT_call {l : Addr} {Q : Value → Shared → Prop} (hL : s.heap.IsTuple l items)
    (fin : ∀ h', IsEnum h' (s.heap.objs.size + 1) s.heap.objs.size 0 .none → h'.IsTupleIter s.heap.objs.size l 0 → (∀ b o, s.heap.get? b = some o → h'.get? b = some o) → Q (.ref (s.heap.objs.size + 1)) { s with heap := h' }) :
    wpAny (model prog w) A (call (.type "enumerate") [.ref l]) Q E s := by
  obtain ⟨⟨c, dct, dt, sl⟩, hl, hc, n, hd⟩ := hL
  simp only at hc hd
  subst hc
  subst hd
  refine callType_new F.called_enumerate (by decide) (F.typeCall_enumerate_1 _) (F.newCall_enumerate_1 _) (fun obj => F.args_object_init_2 obj _) F.entry_enumerate_new (enumT_new l items n dct sl) ⟨hl, ?_⟩
  have hz : (s.heap.push { cls := .type "tuple_iterator", data := .fields #[.ref l, .int 0 0] }).objs.size = s.heap.objs.size + 1 := Heap.size_push ..
  have he := Heap.get?_push_size (s.heap.push { cls := .type "tuple_iterator", data := .fields #[.ref l, .int 0 0] }) (o := { cls := .type "enumerate", data := .fields #[.none, .bool false, .ref s.heap.objs.size, rawInt 0, .none, .none] }) rfl
  rw [hz] at he
  show _ ∧ _
  rw [hz]
  exact ⟨⟨_, he, rfl⟩, fin _ he ⟨_, Heap.get?_push_of_some _ (Heap.get?_push_size _ rfl), rfl, rfl⟩ fun b o x => Heap.get?_push_of_some _ (Heap.get?_push_of_some _ x)⟩
end
/-- the tuple at a, each item in a new pair -/
def IteT (K : PySem.W.Frag) (a : Addr) : It :=
  ⟨fun i H => ∃ (xs : List V) (x : V), SqT K H a xs ∧ xs[i]? = some x, fun i H v H' => ∃ T x, v = .ref T ∧ H T = none ∧ H' = upd H T (.tup [.int (i : Nat), x]) ∧ ∀ xs, SqT K H a xs → xs[i]? = some x, fun i H => ∃ xs : List V, SqT K H a xs ∧ xs.length ≤ i⟩
theorem turn_enumT {P : Program} {w : World} {K : PySem.W.Frag} {elts : List Expr} {kk : Nat} {tpos : Pos} (a e it : Addr) : Turn P w K (.Tuple elts kk tpos) (IteT K a) [e, it] e (fun i h => (∃ old, IsEnum h e it ((i : Nat) : Int) old) ∧ h.IsTupleIter it a i ∧ e ≠ it) where
  mem := List.mem_cons_self
  obj := fun i h ⟨⟨old, he⟩, ⟨o, ho, hc, hd⟩, _⟩ b hb => by
    rcases List.mem_cons.mp hb with rfl | hb
    · exact ⟨_, he, fun v q => nomatch q⟩
    · rw [List.mem_singleton.mp hb]
      exact ⟨o, ho, fun v q => by rw [hd] at q; cases q⟩
  keep := fun i h h' ⟨⟨old, he⟩, hi, hne⟩ k => ⟨⟨old, k e List.mem_cons_self _ he⟩, hi.at fun o q => k it (by simp) o q, hne⟩
  item := by
    intro X hP hw hK hc i pins s σ H E I hf st hg
    subst hP hw hK
    obtain ⟨⟨old, he⟩, hit, hne⟩ := st
    obtain ⟨xs, x, hq, hx⟩ := hg
    obtain ⟨its, rv, p, hz⟩ := I.tuple hq
    obtain ⟨u, hu, ru⟩ := rv.get hx
    have lte : e < s.heap.objs.size := Heap.lt_size he
    have lti : it < s.heap.objs.size := by obtain ⟨_, q, _⟩ := hit; exact Heap.lt_size q
    refine enumT_item he hit (show s.heap.IsTuple a its.toArray from p) (x := u) (by simpa using hu) hne fun h' ho hit' hT hsz hk => ?_
    refine ⟨_, rfl, wpAny_letOwnedTupleGo_enum (s := { s with heap := h', toks := s.toks + 1 }) ho fun h'' he' sb => ?_⟩
    have hT2 : h''.get? s.heap.objs.size = some { cls := .type "tuple", data := .seq #[.int i s.toks, u] } := (sb.2 _ (Nat.ne_of_gt lte)).trans hT
    have new : ObjOk X.prog X.w (upd H s.heap.objs.size (.tup [.int (i : Nat), x])) h'' s.heap.objs.size (.tup [.int (i : Nat), x]) := ⟨by show 2 ≤ sizeLine; decide, [.int i s.toks, u], .cons ⟨_, rfl⟩ (.cons ru .nil), ⟨_, hT2, rfl, _, rfl⟩⟩
    have I1 : Inv X pins σ (upd H s.heap.objs.size (.tup [.int (i : Nat), x])) { s with heap := h'', toks := s.toks + 1 } := I.turnedNew (ch := [e, it]) (fun b ob hb q => (sb.2 b (fun z => hb (by simp [z]))).trans (hk b ob (fun z => hb (by simp [z])) (fun z => hb (by simp [z])) q)) hf (Nat.le_refl _) new
    refine ⟨.ref s.heap.objs.size, _, I1, rfl, ⟨_, x, rfl, I.hok.fresh (Nat.le_refl _), rfl, fun ys hy => by rw [I.tuple_inj hy hq]; exact hx⟩, ⟨⟨u, ?_⟩, hit'.at fun o q => (sb.2 it (Ne.symm hne)).trans q, hne⟩, fun b hb => ?_⟩
    · rw [show ((i + 1 : Nat) : Int) = (i : Int) + 1 from by omega]; exact he'
    · have hb' : b < s.heap.objs.size := by
        rcases List.mem_cons.mp hb with rfl | z
        · exact lte
        · rw [List.mem_singleton.mp z]; exact lti
      rw [upd_ne (Nat.ne_of_lt hb')]
      exact (hf b hb).1
  done := by
    intro X hP hw hK hc i pins s σ H E I hf st hg
    subst hP hw hK
    obtain ⟨⟨old, he⟩, hit, hne⟩ := st
    obtain ⟨xs, hq, hx⟩ := hg
    obtain ⟨its, rv, p, hz⟩ := I.tuple hq
    obtain ⟨f0, f1, f2, f3, f4, f5⟩ := hf it (by simp)
    have hl := rv.length
    exact enumT_end (I.ok.hd hc) he hit (show s.heap.IsTuple a its.toArray from p) (by simp; omega) fun h' eb => ⟨rfl, I.turned (t' := s.toks) (fun b o hb q => eb b o hb q) f0 f1 f3 f4 f5⟩
  self := fun A i s Q E st h => let ⟨⟨_, he⟩, _⟩ := st; wpAny_pyIter_enum he h
def iEnumS (K : PySem.W.Frag) (ta : TA) : TI := fun σ H R => ta σ H fun vs H1 => ∃ a xs, vs = [.ref a] ∧ (SqL K H1 a xs ∧ R (Ite K a) H1 ∨ SqT K H1 a xs ∧ R (IteT K a) H1)
theorem pi_enumS {X : Cx} {e : Expr} {ta : TA} {p pos tpos : Pos} {elts : List Expr} {kk : Nat} (hg : Gl X "enumerate") (hm : X.mg "enumerate" = none) (ha : PA X [e] ta) (hs : starEach [e] X.env = [(false, eval e X.env)] := by rfl) :
    PI X (.Tuple elts kk tpos) (.Call (.Name "enumerate" p) [e] [] pos) (iEnumS X.K ta) := by
  refine ⟨fun pins s σ H R I h => ?_⟩
  refine Call_ (ld_blt I hg hm boot_enumerate (PyProof.Rows.callWith_type1 (thn (ha.run pos pins s σ H _ I h) fun us s1 ⟨vs, H1, I1, r1, q1⟩ => ?_) hs rfl))
  obtain ⟨a, xs, rfl, q⟩ := q1
  rw [Vals.ref1 r1]
  have two : ∀ b, b ∈ [s1.heap.objs.size + 1, s1.heap.objs.size] → s1.heap.objs.size ≤ b := fun b hb => by
    rcases List.mem_cons.mp hb with rfl | z
    · exact Nat.le_add_right _ _
    · rw [List.mem_singleton.mp z]; exact Nat.le_refl _
  rcases q with ⟨hq, q⟩ | ⟨hq, q⟩
  · obtain ⟨its, rv, p', hz⟩ := I1.list hq
    refine call_enumerate_list p'.isList fun h' he hit hsz hk => wpAny_pyIter_enum he ?_
    have I2 : Inv X pins σ H1 { s1 with heap := h' } := I1.kept (t' := s1.toks) hk
    exact ⟨_, [s1.heap.objs.size + 1, s1.heap.objs.size], _, _, H1, rfl, I2, turn_enum a (s1.heap.objs.size + 1) s1.heap.objs.size, ⟨⟨.none, he⟩, hit, Nat.succ_ne_self _⟩, fun b hb => I1.fpOk (two b hb) (I1.hok.fresh (two b hb)), q⟩
  · obtain ⟨its, rv, p', hz⟩ := I1.tuple hq
    refine enumT_call (show s1.heap.IsTuple a its.toArray from p') fun h' he hit hk => wpAny_pyIter_enum he ?_
    have I2 : Inv X pins σ H1 { s1 with heap := h' } := I1.kept (t' := s1.toks) hk
    exact ⟨_, [s1.heap.objs.size + 1, s1.heap.objs.size], _, _, H1, rfl, I2, turn_enumT a (s1.heap.objs.size + 1) s1.heap.objs.size, ⟨⟨.none, he⟩, hit, Nat.succ_ne_self _⟩, fun b hb => I1.fpOk (two b hb) (I1.hok.fresh (two b hb)), q⟩
theorem walk_enumT {K : PySem.W.Frag} {a : Addr} {xs : List V} : Walk (IteT K a) xs.length (fun H => SqT K H a xs) (YPair (fun i => some (.int (i : Nat))) (fun i => xs[i]?)) := by
  refine ⟨fun i _ hi q => ⟨xs, xs[i], q, by simp [hi]⟩, fun _ q => ⟨xs, q, Nat.le_refl _⟩, fun i H v H' _ q ⟨T, x, h1, h2, h3, h4⟩ => ?_⟩
  exact ⟨T, .int (i : Nat), x, h1, h2, h3, rfl, h4 xs q⟩
end Eng
namespace Eng
open PySem PySem.Spec PyProof.Rows L2

/-! ### walks over data -/
section
variable {K : PySem.W.Frag} {w : World}
structure Kp (H1 : Hp) (Fy : Addr → Prop) (H : Hp) : Prop where
  fz : ∀ b o, H1 b = some o → Fy b → H b = some o
  tp : ∀ b xs, Rd H1 b (.tup xs) → Rd H b (.tup xs)
def WalkD (K : PySem.W.Frag) (w : World) (J : It) (ds : List D) (H1 : Hp) (Fy : Addr → Prop) : Prop :=
  Walk J ds.length (Kp H1 Fy) fun i H x H' => Same H H' ∧ ∃ d, ds[i]? = some d ∧ Dn K w H' (fun a => Fy a ∨ H a = none) x d []
def SFI (K : PySem.W.Frag) (w : World) (ev : Rho → Option (List D × Bool × Rho)) (p : Bool) (Vx : List Nat) (wi : TI) : Prop :=
  ∀ (ρ : Rho) (σ : L2.St) (H : Hp) (F : Foot) (M : Addr → Prop) (ds : List D) (c : Bool) (ρ' : Rho) (R : It → Hp → Prop), Rep K w H M ρ σ F → ev ρ = some (ds, c, ρ') →
    (∀ J H' F' T, Aft K w M H F ρ p σ H' ρ' F' T → WalkD K w J ds H' (fun a => (a ∈ T ∨ Al M T F' Vx a) ∧ H' a ≠ none) → (c = true → WalkD K w J ds H' fun a => a ∈ T) → R J H') → wi σ H R
theorem Kp.carry {H1 H : Hp} {Fy : Addr → Prop} (k : Kp H1 Fy H) {v : V} {d : D} (h : Dn K w H1 Fy v d []) : Dn K w H (fun a => Fy a ∨ H a = none) v d [] :=
  h.carry ⟨k.tp, fun b o e f => ⟨k.fz b o e f, .inl f⟩, fun _ _ _ => nno⟩
theorem Kp.rd {H1 H : Hp} {Fy : Addr → Prop} (k : Kp H1 Fy H) {a : Addr} {vs : List V} (h : Rd H1 a (.lst vs)) (f : Fy a) : Rd H a (.lst vs) := h.imp (fun e => k.fz _ _ e f) fun ⟨o, e⟩ => ⟨o, k.fz _ _ e f⟩
theorem walkD_list {a : Addr} {vs : List V} {ds : List D} {H1 : Hp} {Fy : Addr → Prop} (h : Rd H1 a (.lst vs)) (f : Fy a) (r : DnL K w H1 Fy vs ds []) : WalkD K w (Itl K a) ds H1 Fy := by
  have := (walk_list (K := K) (a := a) (xs := vs)).mono (G' := Kp H1 Fy) (Y' := fun i H x H' => Same H H' ∧ ∃ d, ds[i]? = some d ∧ Dn K w H' (fun a => Fy a ∨ H a = none) x d []) (fun H k => .inl (k.rd h f)) fun i H x H' _ k ⟨e, hx⟩ => by
    subst e
    obtain ⟨d, ed, hd⟩ := r.item' hx
    exact ⟨Same.refl _, d, ed, k.carry hd⟩
  rw [r.length] at this
  exact this
theorem Kp.sqF {H1 H : Hp} {Fy : Addr → Prop} (k : Kp H1 Fy H) {a : Addr} {vs : List V} (h : LsF K H1 Fy a vs) : SqL K H a vs := h.imp (fun z => k.rd z.1 z.2) id
theorem walkD_listF {a : Addr} {vs : List V} {ds : List D} {H1 : Hp} {Fy : Addr → Prop} (h : LsF K H1 Fy a vs) (r : DnL K w H1 Fy vs ds []) : WalkD K w (Itl K a) ds H1 Fy := by
  have := (walk_list (K := K) (a := a) (xs := vs)).mono (G' := Kp H1 Fy) (Y' := fun i H x H' => Same H H' ∧ ∃ d, ds[i]? = some d ∧ Dn K w H' (fun a => Fy a ∨ H a = none) x d []) (fun H k => k.sqF h) fun i H x H' _ k ⟨e, hx⟩ => by
    subst e
    obtain ⟨d, ed, hd⟩ := r.item' hx
    exact ⟨Same.refl _, d, ed, k.carry hd⟩
  rw [r.length] at this
  exact this
theorem walkD_tup {a : Addr} {vs : List V} {ds : List D} {H1 : Hp} {Fy : Addr → Prop} (h : SqT K H1 a vs) (r : DnL K w H1 Fy vs ds []) : WalkD K w (Itt K a) ds H1 Fy := by
  have := (walk_tup (K := K) (a := a) (xs := vs)).mono (G' := Kp H1 Fy) (Y' := fun i H x H' => Same H H' ∧ ∃ d, ds[i]? = some d ∧ Dn K w H' (fun a => Fy a ∨ H a = none) x d []) (fun H k => h.imp (k.tp _ _) id) fun i H x H' _ k ⟨e, hx⟩ => by
    subst e
    obtain ⟨d, ed, hd⟩ := r.item' hx
    exact ⟨Same.refl _, d, ed, k.carry hd⟩
  rw [r.length] at this
  exact this
theorem walkD_str {z : Str} {H1 : Hp} {Fy : Addr → Prop} : WalkD K w (Its z) (z.cps.toList.map fun c => D.str ⟨#[c]⟩) H1 Fy := by
  have := (walk_str (z := z)).mono (G' := Kp H1 Fy) (Y' := fun i H x H' => Same H H' ∧ ∃ d, (z.cps.toList.map fun c => D.str ⟨#[c]⟩)[i]? = some d ∧ Dn K w H' (fun a => Fy a ∨ H a = none) x d []) (fun H k => trivial) fun i H x H' _ k ⟨e, c, hc, ex⟩ => by
    subst e; subst ex
    exact ⟨Same.refl _, .str ⟨#[c]⟩, by rw [List.getElem?_map, Array.getElem?_toList, hc]; rfl, .str _⟩
  rw [show z.cps.size = (z.cps.toList.map fun c => D.str ⟨#[c]⟩).length by simp] at this
  exact this
theorem walkD_rangeC {lo c : Int} {n : Nat} {H1 : Hp} {Fy : Addr → Prop} : WalkD K w (Itc lo c n) ((List.range n).map fun (k : Nat) => D.int (lo + k * c)) H1 Fy := by
  have := (walk_rangeC (lo := lo) (c := c) (n := n)).mono (G' := Kp H1 Fy) (Y' := fun i H x H' => Same H H' ∧ ∃ d, ((List.range n).map fun (k : Nat) => D.int (lo + k * c))[i]? = some d ∧ Dn K w H' (fun a => Fy a ∨ H a = none) x d []) (fun H k => trivial) fun i H x H' hi k ⟨e, ex⟩ => by
    subst e; subst ex
    exact ⟨Same.refl _, .int (lo + i * c), by rw [List.getElem?_map, List.getElem?_range hi]; rfl, .int _⟩
  rw [show WalkD K w _ _ _ _ = Walk _ _ _ _ from rfl, List.length_map, List.length_range]
  exact this
theorem walkD_range {lo : Int} {n : Nat} {H1 : Hp} {Fy : Addr → Prop} : WalkD K w (L2.Itr lo n) ((List.range n).map fun (k : Nat) => D.int (lo + k * 1)) H1 Fy := by
  have := (walk_range (lo := lo) (n := n)).mono (G' := Kp H1 Fy) (Y' := fun i H x H' => Same H H' ∧ ∃ d, ((List.range n).map fun (k : Nat) => D.int (lo + k * 1))[i]? = some d ∧ Dn K w H' (fun a => Fy a ∨ H a = none) x d []) (fun H k => trivial) fun i H x H' hi k ⟨e, ex⟩ => by
    subst e; subst ex
    exact ⟨Same.refl _, .int (lo + i * 1), by rw [List.getElem?_map, List.getElem?_range hi]; rfl, by rw [Int.mul_one]; exact .int _⟩
  rw [show WalkD K w _ _ _ _ = Walk _ _ _ _ from rfl, List.length_map, List.length_range]
  exact this
end

/-! ### what a for walks: a value of any kind -/
def iOf (K : PySem.W.Frag) (te : TE) : TI := fun σ H R => te σ H fun x H1 => (∃ a xs, x = .ref a ∧ SqL K H1 a xs ∧ R (Itl K a) H1) ∨ (∃ a xs, x = .ref a ∧ SqT K H1 a xs ∧ R (Itt K a) H1) ∨ ∃ z, x = .str z ∧ R (Its z) H1
theorem pi_of {X : Cx} {tg l : Expr} {te : TE} (hl : PE X l te) : PI X tg l (iOf X.K te) := by
  refine ⟨fun pins s σ H R I h => thn (hl.run pins s σ H _ I h) fun v s1 ⟨x, H1, I1, r1, q1⟩ => ?_⟩
  rcases q1 with ⟨a, xs, rfl, hq, q⟩ | ⟨a, xs, rfl, hq, q⟩ | ⟨z, rfl, q⟩
  · cases r1
    obtain ⟨its, rv, p, hz⟩ := I1.list hq
    exact wpAny_pyIter_list p.isList (pi_one (tk := s1.toks) I1 _ (turn_list a _) ⟨_, Heap.get?_push_size _ rfl, rfl, rfl⟩ q)
  · cases r1
    obtain ⟨its, rv, p, hz⟩ := I1.tuple hq
    exact wpAny_pyIter_tuple (show s1.heap.IsTuple a its.toArray from p) (pi_one (tk := s1.toks) I1 _ (turn_tuple a _) ⟨_, Heap.get?_push_size _ rfl, rfl, rfl⟩ q)
  · obtain ⟨t, rfl⟩ := r1
    by_cases hz : z.cps.all (· < 128) = true
    · exact wpAny_pyIter_ascii hz (pi_one (tk := s1.toks) I1 _ (turn_str _ z t "str_ascii_iterator" (.inl rfl)) ⟨_, Heap.get?_push_size _ rfl, rfl, rfl⟩ q)
    · exact wpAny_pyIter_wide (by simpa using hz) (pi_one (tk := s1.toks) I1 _ (turn_str _ z t "str_iterator" (.inr rfl)) ⟨_, Heap.get?_push_size _ rfl, rfl, rfl⟩ q)
section
variable {K : PySem.W.Frag} {w : World} {e : Rho → Option (D × Rho)} {p : Bool} {Vx : List Nat} {te : TE}
theorem Dn.tracked {H : Hp} {Fy : Addr → Prop} {v : V} {d : D} {S : List Addr} (h : Dn K w H Fy v d S) : Dn K w H (fun a => Fy a ∧ H a ≠ none) v d S := h.carry ⟨fun _ _ q => q, fun b o e f => ⟨e, f, some_ne e⟩, fun _ _ e _ => e⟩
theorem Dn.walkFz {M : Addr → Prop} {H : Hp} {F : Foot} {T : List Addr} {v : V} {d : D} (h : Dn K w H (Al M T F Vx) v d T) : Dn K w H (fun a => (a ∈ T ∨ Al M T F Vx a) ∧ H a ≠ none) v d.frz [] := Dn.tracked (h.frz (fun a f => .inr f) fun a f => .inl f)
theorem Dn.walkCl {M : Addr → Prop} {H : Hp} {F : Foot} {T : List Addr} {v : V} {d : D} (h : Dn K w H (Al M T F Vx) v d T) (c : d.clean = true) : Dn K w H (fun a => a ∈ T) v d.frz [] := (h.clean (Fz' := fun _ => False) c).frz (fun a f => f.elim) fun a f => f
theorem sfi_of (he : SF K w e p Vx te) : SFI K w (fun ρ => (e ρ).bind fun q => (walked q.1.frz).map fun ds => (ds, q.1.clean, q.2)) p Vx (iOf K te) := by
  intro ρ σ H F M ds c ρ' R Rp h q
  obtain ⟨⟨d, ρ1⟩, e1, h⟩ := Option.bind_eq_some_iff.mp h
  obtain ⟨ds', e2, h⟩ := Option.map_eq_some_iff.mp h
  cases h
  refine he ρ σ H F M d ρ1 _ Rp e1 fun v H1 F1 T A hd => ?_
  have h1 := hd.walkFz
  have h2 := hd.walkCl
  generalize d.clean = c at h2 q
  generalize d.frz = d' at h1 h2 e2
  match d' with
  | .lst o xs =>
    cases e2
    cases h1 with
    | lstF hr r =>
      refine .inl ⟨_, _, rfl, hr.sq, q _ H1 F1 T A (walkD_listF hr r) fun hc => ?_⟩
      cases h2 hc with
      | lstF hr' r' => exact walkD_listF hr' r'
  | .tup xs =>
    cases e2
    cases h1 with
    | tup hr r =>
      refine .inr (.inl ⟨_, _, rfl, hr, q _ H1 F1 T A (walkD_tup hr r) fun hc => ?_⟩)
      cases h2 hc with
      | tup hr' r' => exact walkD_tup hr' r'
  | .str z =>
    cases e2
    cases h1
    exact .inr (.inr ⟨z, rfl, q _ H1 F1 T A walkD_str fun _ => walkD_str⟩)
  | .non | .bl _ | .int _ | .dct _ _ => cases e2
/-! range -/
theorem rangeD_some {lo hi st : Int} {ds : List D} (h : rangeD lo hi st = some ds) : (-(2 ^ 62) ≤ lo ∧ lo < 2 ^ 62 ∧ -(2 ^ 62) ≤ hi ∧ hi < 2 ^ 62 ∧ 0 < st ∧ st < 2 ^ 29) ∧ ds = (List.range ((hi - lo + st - 1) / st).toNat).map fun (k : Nat) => D.int (lo + k * st) := by
  unfold rangeD at h
  split at h
  · exact ⟨by assumption, (Option.some.inj h).symm⟩
  · cases h
theorem Aft.walkAny {M : Addr → Prop} {H H1 : Hp} {F F1 : Foot} {ρ ρ1 : Rho} {σ : L2.St} {T : List Addr} {J : It} {ds : List D} {c : Bool} (h : ∀ Fy, WalkD K w J ds H1 Fy) {R : It → Hp → Prop} (A : Aft K w M H F ρ p σ H1 ρ1 F1 T)
    (q : ∀ J H' F' T, Aft K w M H F ρ p σ H' ρ1 F' T → WalkD K w J ds H' (fun a => (a ∈ T ∨ Al M T F' Vx a) ∧ H' a ≠ none) → (c = true → WalkD K w J ds H' fun a => a ∈ T) → R J H') : R J H1 := q J H1 F1 T A (h _) fun _ => h _
def iRng (ta : TA) : TI := fun σ H R => ta σ H fun vs H1 =>
  (∃ j : Int, vs = [.int j] ∧ -(2 ^ 62) ≤ j ∧ j < 2 ^ 62 ∧ R (L2.Itr 0 j.toNat) H1) ∨ (∃ i j : Int, vs = [.int i, .int j] ∧ (-(2 ^ 62) ≤ i ∧ i < 2 ^ 62 ∧ -(2 ^ 62) ≤ j ∧ j < 2 ^ 62) ∧ R (L2.Itr i (j - i).toNat) H1) ∨
  (∃ (i j c : Int) (n : Nat), vs = [.int i, .int j, .int c] ∧ RgC i j c n ∧ R (Itc i c n) H1)
end
section
variable {K : PySem.W.Frag} {w : World} {es : Rho → Option (List D × Rho)} {p : Bool} {Vx : List Nat} {ts : TA}
theorem rgc_up {lo hi st : Int} (h : -(2 ^ 62) ≤ lo ∧ lo < 2 ^ 62 ∧ -(2 ^ 62) ≤ hi ∧ hi < 2 ^ 62 ∧ 0 < st ∧ st < 2 ^ 29) : RgC lo hi st ((hi - lo + st - 1) / st).toNat := by
  obtain ⟨a1, a2, a3, a4, a5, a6⟩ := h
  have hd : (hi - lo + st - 1) / st = (hi - lo - 1) / st + 1 := by
    rw [show hi - lo + st - 1 = (hi - lo - 1) + st * 1 by omega, Int.add_mul_ediv_left _ _ (by omega)]
  refine ⟨by omega, by omega, ?_, ?_⟩
  · unfold Builtin.Range.small Builtin.Range.rangeSize
    rw [if_pos (show st > 0 by omega)]
    have hm : st * ((hi - lo - 1) / st) ≤ hi - lo - 1 := Int.mul_ediv_self_le (by omega)
    have hm2 : lo < hi → 0 ≤ (hi - lo - 1) / st := fun h => Int.ediv_nonneg (by omega) (by omega)
    have hm3 : lo < hi → (hi - lo - 1) / st ≤ hi - lo - 1 := fun h => Int.ediv_le_self _ (by omega)
    have hm4 : ((hi - lo - 1) / st + 1) * st = st * ((hi - lo - 1) / st) + st := by rw [Int.add_mul, Int.mul_comm, Int.one_mul]
    have hm5 : lo < hi → 0 ≤ st * ((hi - lo - 1) / st) := fun h => Int.mul_nonneg (by omega) (hm2 h)
    simp only [Builtin.Range.rangeFitsLong, Bool.and_eq_true, Bool.or_eq_true, decide_eq_true_eq, beq_iff_eq, if_pos (show st > 0 by omega)]
    split <;> omega
  · unfold Builtin.Range.rangeSize
    rw [if_pos (by omega)]
    split
    · have : 0 ≤ (hi - lo - 1) / st := Int.ediv_nonneg (by omega) (by omega)
      omega
    · have : (hi - lo - 1) / st < 0 := Int.ediv_neg_of_neg_of_pos (by omega) (by omega)
      omega
theorem div1 (a : Int) : ((a - 0 + 1 - 1) / 1).toNat = a.toNat := by rw [Int.ediv_one]; congr 1; omega
theorem div1' (a b : Int) : ((a - b + 1 - 1) / 1).toNat = (a - b).toNat := by rw [Int.ediv_one]; congr 1; omega
theorem rangeDs_some {d ds : List D} (h : rangeDs d = some ds) : (∃ b, d = [.int b] ∧ rangeD 0 b 1 = some ds) ∨ (∃ a b, d = [.int a, .int b] ∧ rangeD a b 1 = some ds) ∨ ∃ a b c, d = [.int a, .int b, .int c] ∧ rangeD a b c = some ds := by
  unfold rangeDs at h
  split at h
  · exact .inl ⟨_, rfl, h⟩
  · exact .inr (.inl ⟨_, _, rfl, h⟩)
  · exact .inr (.inr ⟨_, _, _, rfl, h⟩)
  · cases h
theorem sfi_range (hs : SFs K w es p Vx ts) : SFI K w (fun ρ => (es ρ).bind fun q => (rangeDs q.1).map fun ds => (ds, true, q.2)) p Vx (iRng ts) := by
  intro ρ σ H F M ds c ρ' R Rp h q
  obtain ⟨⟨d, ρ1⟩, e1, h⟩ := Option.bind_eq_some_iff.mp h
  obtain ⟨ds', e2, h⟩ := Option.map_eq_some_iff.mp h
  cases h
  refine hs ρ σ H F M d ρ1 _ Rp e1 fun vs H1 F1 T A hd => ?_
  rcases rangeDs_some (show rangeDs d = some ds from e2) with ⟨b, rfl, e⟩ | ⟨a, b, rfl, e⟩ | ⟨a, b, c, rfl, e⟩
  · obtain ⟨hb, rfl⟩ := rangeD_some e
    cases hd with
    | cons h1 h2 =>
      cases h1; cases h2
      refine .inl ⟨b, rfl, hb.2.2.1, hb.2.2.2.1, Aft.walkAny (Vx := Vx) (fun Fy => ?_) A q⟩
      rw [div1]
      exact walkD_range
  · obtain ⟨hb, rfl⟩ := rangeD_some e
    cases hd with
    | cons h1 h2 =>
      cases h1
      cases h2 with
      | cons h3 h4 =>
        cases h3; cases h4
        refine .inr (.inl ⟨a, b, rfl, ⟨hb.1, hb.2.1, hb.2.2.1, hb.2.2.2.1⟩, Aft.walkAny (Vx := Vx) (fun Fy => ?_) A q⟩)
        rw [div1']
        exact walkD_range
  · obtain ⟨hb, rfl⟩ := rangeD_some e
    cases hd with
    | cons h1 h2 =>
      cases h1
      cases h2 with
      | cons h3 h4 =>
        cases h3
        cases h4 with
        | cons h5 h6 =>
          cases h5; cases h6
          exact .inr (.inr ⟨a, b, c, _, rfl, rgc_up hb, Aft.walkAny (Vx := Vx) (fun Fy => walkD_rangeC) A q⟩)
end
end Eng
namespace Eng
open PySem PySem.Spec PyProof.Rows L2 RT
section
variable {K : PySem.W.Frag} {w : World}
theorem DnL.carryK {H1 H : Hp} {Fy : Addr → Prop} (k : Kp H1 Fy H) {v : List V} {d : List D} (h : DnL K w H1 Fy v d []) : DnL K w H (fun a => Fy a ∨ H a = none) v d [] :=
  h.carry ⟨k.tp, fun b o e f => ⟨k.fz b o e f, .inl f⟩, fun _ _ _ => nno⟩
theorem Dn.grow {H H' : Hp} {Fy : Addr → Prop} {v : V} {d : D} (s : Same H H') (h : Dn K w H (fun a => Fy a ∨ H a = none) v d []) : Dn K w H' (fun a => Fy a ∨ H a = none) v d [] :=
  h.carry (Carry.same s fun _ _ _ f => f)
theorem pair_new {H : Hp} {Fy : Addr → Prop} {T : Addr} {x y : V} {d e : D} (nT : H T = none) (hx : Dn K w H (fun a => Fy a ∨ H a = none) x d []) (hy : Dn K w H (fun a => Fy a ∨ H a = none) y e []) :
    Dn K w (upd H T (.tup [x, y])) (fun a => Fy a ∨ H a = none) (.ref T) (.tup [d, e]) [] :=
  .tup (.inl (.inl upd_same)) (DnL.cons (S := []) (S' := []) (hx.grow (Same.updN nT)) (DnL.cons (S := []) (S' := []) (hy.grow (Same.updN nT)) .nil))
theorem walkD_enum {a : Addr} {vs : List V} {ds : List D} {H1 : Hp} {Fy : Addr → Prop} (h : LsF K H1 Fy a vs) (r : DnL K w H1 Fy vs ds []) : WalkD K w (Ite K a) (ds.mapIdx fun i x => .tup [.int i, x]) H1 Fy := by
  have := (walk_enum (K := K) (a := a) (xs := vs)).mono (G' := Kp H1 Fy) (Y' := fun i H x H' => Same H H' ∧ ∃ d, (ds.mapIdx fun i x => D.tup [.int i, x])[i]? = some d ∧ Dn K w H' (fun a => Fy a ∨ H a = none) x d [])
    (fun H k => k.sqF h) fun i H x H' _ k ⟨T, u, v, ex, nT, eH, hu, hv⟩ => by
    subst ex eH
    cases hu
    obtain ⟨d, ed, hd⟩ := r.item' hv
    exact ⟨Same.updN nT, .tup [.int i, d], by rw [List.getElem?_mapIdx, ed]; rfl, pair_new nT (.int i) (k.carry hd)⟩
  rw [r.length] at this
  rw [show WalkD K w _ _ _ _ = Walk _ _ _ _ from rfl, List.length_mapIdx]
  exact this
theorem walkD_enumT {a : Addr} {vs : List V} {ds : List D} {H1 : Hp} {Fy : Addr → Prop} (h : SqT K H1 a vs) (r : DnL K w H1 Fy vs ds []) : WalkD K w (IteT K a) (ds.mapIdx fun i x => .tup [.int i, x]) H1 Fy := by
  have := (walk_enumT (K := K) (a := a) (xs := vs)).mono (G' := Kp H1 Fy) (Y' := fun i H x H' => Same H H' ∧ ∃ d, (ds.mapIdx fun i x => D.tup [.int i, x])[i]? = some d ∧ Dn K w H' (fun a => Fy a ∨ H a = none) x d [])
    (fun H k => h.imp (k.tp _ _) id) fun i H x H' _ k ⟨T, u, v, ex, nT, eH, hu, hv⟩ => by
    subst ex eH
    cases hu
    obtain ⟨d, ed, hd⟩ := r.item' hv
    exact ⟨Same.updN nT, .tup [.int i, d], by rw [List.getElem?_mapIdx, ed]; rfl, pair_new nT (.int i) (k.carry hd)⟩
  rw [r.length] at this
  rw [show WalkD K w _ _ _ _ = Walk _ _ _ _ from rfl, List.length_mapIdx]
  exact this
theorem walkD_zip {a b : Addr} {vs us : List V} {ds es : List D} {H1 : Hp} {Fy : Addr → Prop} (h : LsF K H1 Fy a vs) (r : DnL K w H1 Fy vs ds []) (h' : LsF K H1 Fy b us) (r' : DnL K w H1 Fy us es []) :
    WalkD K w (Itz K a b) ((ds.zip es).map fun p => .tup [p.1, p.2]) H1 Fy := by
  have := (walk_zip (K := K) (a := a) (b := b) (xs := vs) (ys := us) (n := min ds.length es.length) (by rw [r.length, r'.length])).mono (G' := Kp H1 Fy) (Y' := fun i H x H' => Same H H' ∧ ∃ d, ((ds.zip es).map fun p => D.tup [p.1, p.2])[i]? = some d ∧ Dn K w H' (fun a => Fy a ∨ H a = none) x d [])
    (fun H k => ⟨k.sqF h, k.sqF h'⟩) fun i H x H' _ k ⟨T, u, v, ex, nT, eH, hu, hv⟩ => by
    subst ex eH
    obtain ⟨d, ed, hd⟩ := r.item' hu
    obtain ⟨e, ee, he⟩ := r'.item' hv
    refine ⟨Same.updN nT, .tup [d, e], ?_, pair_new nT (k.carry hd) (k.carry he)⟩
    rw [List.getElem?_map, (List.getElem?_zip_eq_some (z := (d, e))).mpr ⟨ed, ee⟩]; rfl
  rw [show WalkD K w _ _ _ _ = Walk _ _ _ _ from rfl, List.length_map, List.length_zip]
  exact this
theorem walkD_rev {a : Addr} {vs : List V} {ds : List D} {H1 : Hp} {Fy : Addr → Prop} (h : LsF K H1 Fy a vs) (r : DnL K w H1 Fy vs ds []) : WalkD K w (Itv K a vs.length) ds.reverse H1 Fy := by
  have := (walk_rev (K := K) (a := a) (xs := vs)).mono (G' := Kp H1 Fy) (Y' := fun i H x H' => Same H H' ∧ ∃ d, ds.reverse[i]? = some d ∧ Dn K w H' (fun a => Fy a ∨ H a = none) x d []) (fun H k => k.sqF h) fun i H x H' hi k ⟨e, hx⟩ => by
    subst e
    obtain ⟨d, ed, hd⟩ := r.item' hx
    exact ⟨Same.refl _, d, by rw [List.getElem?_reverse (by rw [← r.length]; exact hi), ← r.length]; exact ed, k.carry hd⟩
  rw [show WalkD K w _ _ _ _ = Walk _ _ _ _ from rfl, List.length_reverse, ← r.length]
  exact this
theorem walk_revT {a : Addr} {xs : List V} : Walk (ItvT K a xs.length) xs.length (fun H => SqT K H a xs) (fun i H x H' => H' = H ∧ xs[xs.length - 1 - i]? = some x) :=
  ⟨fun i _ hi q => ⟨hi, xs, xs[xs.length - 1 - i]'(by omega), q, List.getElem?_eq_getElem _⟩, fun _ _ => Nat.le_refl _, fun _ _ _ _ _ q y => ⟨y.1, y.2 xs q⟩⟩
theorem walkD_revT {a : Addr} {vs : List V} {ds : List D} {H1 : Hp} {Fy : Addr → Prop} (h : SqT K H1 a vs) (r : DnL K w H1 Fy vs ds []) : WalkD K w (ItvT K a vs.length) ds.reverse H1 Fy := by
  have := (walk_revT (K := K) (a := a) (xs := vs)).mono (G' := Kp H1 Fy) (Y' := fun i H x H' => Same H H' ∧ ∃ d, ds.reverse[i]? = some d ∧ Dn K w H' (fun a => Fy a ∨ H a = none) x d []) (fun H k => h.imp (k.tp _ _) id) fun i H x H' hi k ⟨e, hx⟩ => by
    subst e
    obtain ⟨d, ed, hd⟩ := r.item' hx
    exact ⟨Same.refl _, d, by rw [List.getElem?_reverse (by rw [← r.length]; exact hi), ← r.length]; exact ed, k.carry hd⟩
  rw [show WalkD K w _ _ _ _ = Walk _ _ _ _ from rfl, List.length_reverse, ← r.length]
  exact this
end
section
variable {K : PySem.W.Frag} {w : World} {e e' : Rho → Option (D × Rho)} {p p' : Bool} {Vx Vy : List Nat} {te te' : TE}
theorem sfi_enum (he : SF K w e p Vx te) : SFI K w (fun ρ => (e ρ).bind fun q => (enumD q.1.frz).map fun ds => (ds, q.1.clean, q.2)) p Vx (iEnumS K (tCons te tNil)) := by
  intro ρ σ H F M ds c ρ' R Rp h q
  obtain ⟨⟨d, ρ1⟩, e1, h⟩ := Option.bind_eq_some_iff.mp h
  obtain ⟨ds', e2, h⟩ := Option.map_eq_some_iff.mp h
  cases h
  refine he ρ σ H F M d ρ1 _ Rp e1 fun v H1 F1 T A hd => ?_
  have h1 := hd.walkFz
  have h2 := hd.walkCl
  generalize d.clean = c at h2 q
  generalize d.frz = d' at h1 h2 e2
  match d' with
  | .lst o xs =>
    cases e2
    cases h1 with
    | lstF hr r =>
      refine ⟨_, _, rfl, .inl ⟨hr.sq, q _ H1 F1 T A (walkD_enum hr r) fun hc => ?_⟩⟩
      cases h2 hc with
      | lstF hr' r' => exact walkD_enum hr' r'
  | .tup xs =>
    cases e2
    cases h1 with
    | tup hr r =>
      refine ⟨_, _, rfl, .inr ⟨hr, q _ H1 F1 T A (walkD_enumT hr r) fun hc => ?_⟩⟩
      cases h2 hc with
      | tup hr' r' => exact walkD_enumT hr' r'
  | .non | .bl _ | .int _ | .str _ | .dct _ _ => cases e2
theorem sfi_rev (he : SF K w e p Vx te) : SFI K w (fun ρ => (e ρ).bind fun q => (revD q.1.frz).map fun ds => (ds, q.1.clean, q.2)) p Vx (iRevA K te) := by
  intro ρ σ H F M ds c ρ' R Rp h q
  obtain ⟨⟨d, ρ1⟩, e1, h⟩ := Option.bind_eq_some_iff.mp h
  obtain ⟨ds', e2, h⟩ := Option.map_eq_some_iff.mp h
  cases h
  refine he ρ σ H F M d ρ1 _ Rp e1 fun v H1 F1 T A hd => ?_
  have h1 := hd.walkFz
  have h2 := hd.walkCl
  generalize d.clean = c at h2 q
  generalize d.frz = d' at h1 h2 e2
  match d' with
  | .lst o xs =>
    cases e2
    cases h1 with
    | lstF hr r =>
      refine ⟨_, _, rfl, .inl ⟨hr.sq, q _ H1 F1 T A (walkD_rev hr r) fun hc => ?_⟩⟩
      cases h2 hc with
      | lstF hr' r' =>
        have := r'.length
        have e3 := r.length
        rw [e3, ← this]
        exact walkD_rev hr' r'
  | .tup xs =>
    cases e2
    cases h1 with
    | tup hr r =>
      refine ⟨_, _, rfl, .inr ⟨hr, q _ H1 F1 T A (walkD_revT hr r) fun hc => ?_⟩⟩
      cases h2 hc with
      | tup hr' r' =>
        have := r'.length
        have e3 := r.length
        rw [e3, ← this]
        exact walkD_revT hr' r'
  | .non | .bl _ | .int _ | .str _ | .dct _ _ => cases e2
theorem sfi_zip (he : SF K w e p Vx te) (he' : SF K w e' p' Vy te') :
    SFI K w (fun ρ => (e ρ).bind fun q => chk (p' || q.1.clean) ((e' q.2).bind fun r => (zipD q.1.frz r.1.frz).map fun ds => (ds, q.1.clean && r.1.clean, r.2))) (p && p') (Vx ++ Vy) (iZip K (tCons te (tCons te' tNil))) := by
  intro ρ σ H F M ds c ρ' R Rp h q
  obtain ⟨⟨x, ρ1⟩, e1, h⟩ := Option.bind_eq_some_iff.mp h
  obtain ⟨hc, h⟩ := chk_some h
  obtain ⟨⟨y, ρ2⟩, e2, h⟩ := Option.bind_eq_some_iff.mp h
  obtain ⟨ds', e3, h⟩ := Option.map_eq_some_iff.mp h
  cases h
  refine he ρ σ H F M x ρ1 _ Rp e1 fun v H1 F1 T1 A hx => he' ρ1 σ H1 F1 _ y ρ2 _ A.rep e2 fun u H2 F2 T2 B hy => ?_
  have C := A.trans B
  have hx' := hx.hand A B (fun _ z => z) (V2 := Vy) (by simpa using hc)
  have hy' : Dn K w H2 (Al M (T1 ++ T2) F2 (Vx ++ Vy)) u y T2 := hy.hand2
  have a1 : Dn K w H2 (fun a => (a ∈ T1 ++ T2 ∨ Al M (T1 ++ T2) F2 (Vx ++ Vy) a) ∧ H2 a ≠ none) v x.frz [] := Dn.tracked (hx'.frz (fun a f => .inr f) fun a f => .inl (List.mem_append_left _ f))
  have a2 : Dn K w H2 (fun a => (a ∈ T1 ++ T2 ∨ Al M (T1 ++ T2) F2 (Vx ++ Vy) a) ∧ H2 a ≠ none) u y.frz [] := Dn.tracked (hy'.frz (fun a f => .inr f) fun a f => .inl (List.mem_append_right _ f))
  have b1 : x.clean = true → Dn K w H2 (fun a => a ∈ T1 ++ T2) v x.frz [] := fun c => (hx'.clean (Fz' := fun _ => False) c).frz (fun a f => f.elim) fun a f => List.mem_append_left _ f
  have b2 : y.clean = true → Dn K w H2 (fun a => a ∈ T1 ++ T2) u y.frz [] := fun c => (hy'.clean (Fz' := fun _ => False) c).frz (fun a f => f.elim) fun a f => List.mem_append_right _ f
  generalize x.clean = cx at b1 q
  generalize y.clean = cy at b2 q
  generalize x.frz = x' at a1 b1 e3
  generalize y.frz = y' at a2 b2 e3
  match x', y' with
  | .lst o xs, .lst o' ys =>
    cases e3
    cases a1 with
    | lstF hr r =>
      cases a2 with
      | lstF hr' r' =>
        refine ⟨_, _, _, _, rfl, hr.sq, hr'.sq, q _ H2 F2 (T1 ++ T2) C (walkD_zip hr r hr' r') fun hc => ?_⟩
        simp only [Bool.and_eq_true] at hc
        cases b1 hc.1 with
        | lstF h1 h3 =>
          cases b2 hc.2 with
          | lstF h4 h6 => exact walkD_zip h1 h3 h4 h6
  | .lst _ _, .non | .lst _ _, .bl _ | .lst _ _, .int _ | .lst _ _, .str _ | .lst _ _, .tup _ | .lst _ _, .dct _ _ => cases e3
  | .non, _ | .bl _, _ | .int _, _ | .str _, _ | .tup _, _ | .dct _ _, _ => cases e3
end
end Eng
namespace Eng
open PySem PySem.Spec PyProof.Rows L2 RT
section
variable {K : PySem.W.Frag} {w : World} {H H' : Hp} {M : Addr → Prop} {ρ : Rho} {σ : L2.St} {F : Foot}
/-! ### storing into a slot -/
def Foot.set (F : Foot) (i : Nat) (S : List Addr) : Foot := fun j => if j = i then S else F j
theorem Foot.set_same {F : Foot} {i : Nat} {S : List Addr} : F.set i S i = S := if_pos rfl
theorem Foot.set_ne {F : Foot} {i j : Nat} {S : List Addr} (h : j ≠ i) : F.set i S j = F j := if_neg h
def Al0 (M : Addr → Prop) (S : List Addr) (F : Foot) (a : Addr) : Prop := ¬ M a ∧ a ∉ S ∧ ∀ j, a ∉ F j
theorem Rep.set {v : V} {d : D} {S : List Addr} (R : Rep K w H (fun a => M a ∨ a ∈ S) ρ σ F) (h : Dn K w H (Al0 M S F) v d S) (nd : S.Nodup) (hS : ∀ a ∈ S, ¬ M a) {i : Nat} (hi : i < ρ.length) :
    Rep K w H M (ρ.set i (some d)) (σ.set i (some v)) (F.set i S) := by
  refine ⟨by rw [List.length_set, List.length_set]; exact R.len, fun j e he => ?_, fun j he => ?_, fun j => ?_, fun j k a h1 h2 => ?_, fun j a ha m => ?_, fun a m => R.dom a (.inl m)⟩
  · by_cases hj : i = j
    · subst hj
      rw [get0_set_same hi] at he
      cases he
      refine ⟨v, by rw [List.getElem?_set_self (by rw [← R.len]; exact hi)], ?_⟩
      rw [Foot.set_same]
      refine h.keyFz fun a f => ⟨f.1, fun k hk => ?_⟩
      by_cases hk' : k = i
      · subst hk'; rw [Foot.set_same] at hk; exact f.2.1 hk
      · rw [Foot.set_ne hk'] at hk; exact f.2.2 k hk
    · rw [get0_set_ne hj] at he
      obtain ⟨u, eu, hu⟩ := R.den j e he
      refine ⟨u, by rw [List.getElem?_set_ne hj]; exact eu, ?_⟩
      rw [Foot.set_ne (Ne.symm hj)]
      refine hu.keyFz fun a f => ⟨fun m => f.1 (.inl m), fun k hk => ?_⟩
      by_cases hk' : k = i
      · subst hk'; rw [Foot.set_same] at hk; exact f.1 (.inr hk)
      · rw [Foot.set_ne hk'] at hk; exact f.2 k hk
  · by_cases hj : i = j
    · subst hj; rw [get0_set_same hi] at he; cases he
    · rw [get0_set_ne hj] at he
      rw [Foot.set_ne (Ne.symm hj)]
      exact R.un j he
  · by_cases hj : j = i
    · subst hj; rw [Foot.set_same]; exact nd
    · rw [Foot.set_ne hj]; exact R.nd j
  · by_cases hj : j = i
    · by_cases hk : k = i
      · rw [hj, hk]
      · subst hj
        rw [Foot.set_same] at h1
        rw [Foot.set_ne hk] at h2
        exact absurd (.inr h1) (R.hM k a h2)
    · rw [Foot.set_ne hj] at h1
      by_cases hk : k = i
      · subst hk
        rw [Foot.set_same] at h2
        exact absurd (.inr h2) (R.hM j a h1)
      · rw [Foot.set_ne hk] at h2
        exact R.dis j k a h1 h2
  · by_cases hj : j = i
    · subst hj
      rw [Foot.set_same] at ha
      exact hS a ha m
    · rw [Foot.set_ne hj] at ha
      exact R.hM j a ha (.inl m)
/-- of a list, one after another -/
theorem Rep.setAll : ∀ {is : List Nat} {vs : List V} {ds : List D} {S : List Addr} {ρ : Rho} {σ : L2.St} {F : Foot}, Rep K w H (fun a => M a ∨ a ∈ S) ρ σ F → DnL K w H (Al0 M S F) vs ds S → S.Nodup → (∀ a ∈ S, ¬ M a) → is.length = ds.length → (∀ i ∈ is, i < ρ.length) →
    ∃ F', Rep K w H M (setAll is ds ρ) (is.zip vs |>.foldl (fun σ p => σ.set p.1 (some p.2)) σ) F' ∧ ∀ j a, a ∈ F' j → a ∈ F j ∨ a ∈ S
  | [], _, _, _, ρ, σ, F, R, h, _, _, hl, _ => by
    cases h with
    | nil => exact ⟨F, R.weak fun a m => .inl m, fun j a ha => .inl ha⟩
    | cons _ _ => simp at hl
  | i :: is, _, _, _, ρ, σ, F, R, h, nd, hS, hl, hi => by
    cases h with
    | nil => simp at hl
    | @cons v vs d ds S1 S2 h1 h2 =>
      have nd' := List.nodup_append.mp nd
      have R1 : Rep K w H (fun a => (M a ∨ a ∈ S2) ∨ a ∈ S1) ρ σ F := R.weak fun a m => by
        rcases m with (m | m) | m
        · exact .inl m
        · exact .inr (List.mem_append_right _ m)
        · exact .inr (List.mem_append_left _ m)
      have R2 := R1.set (h1.keyFz fun a f => ⟨fun m => m.elim f.1 fun z => f.2.1 (List.mem_append_right _ z), fun z => f.2.1 (List.mem_append_left _ z), f.2.2⟩) nd'.1
        (fun a ha m => m.elim (hS a (List.mem_append_left _ ha)) fun z => nd'.2.2 a ha a z rfl) (hi i List.mem_cons_self)
      have h2' : DnL K w H (Al0 M S2 (F.set i S1)) vs ds S2 := h2.keyFz fun a f => ⟨f.1, fun z => f.2.1 (List.mem_append_right _ z), fun j hj => by
        by_cases e : j = i
        · subst e; rw [Foot.set_same] at hj; exact f.2.1 (List.mem_append_left _ hj)
        · rw [Foot.set_ne e] at hj; exact f.2.2 j hj⟩
      obtain ⟨F', R3, hF⟩ := Rep.setAll R2 h2' nd'.2.1 (fun a ha => hS a (List.mem_append_right _ ha)) (by simpa using hl) fun k hk => by rw [List.length_set]; exact hi k (List.mem_cons_of_mem _ hk)
      refine ⟨F', R3, fun j a ha => ?_⟩
      rcases hF j a ha with z | z
      · by_cases e : j = i
        · subst e; rw [Foot.set_same] at z; exact .inr (List.mem_append_left _ z)
        · rw [Foot.set_ne e] at z; exact .inl z
      · exact .inr (List.mem_append_right _ z)
/-! ### a value kept -/
def Foot.frz (F : Foot) (vs : List Nat) : Foot := fun j => if j ∈ vs then [] else F j
theorem Foot.frz_sub {F : Foot} {vs : List Nat} {j : Nat} {a : Addr} (h : a ∈ F.frz vs j) : a ∈ F j ∧ j ∉ vs := by
  unfold Foot.frz at h
  split at h
  · cases h
  · exact ⟨h, by assumption⟩
theorem get0_frzAt (vs : List Nat) (ρ : Rho) (i : Nat) : get0 (frzAt vs ρ) i = if i ∈ vs then (get0 ρ i).map D.frz else get0 ρ i := by
  unfold get0 frzAt
  rw [List.getElem?_mapIdx]
  cases ρ[i]? with
  | none => simp
  | some o =>
    by_cases h : i ∈ vs
    · simp only [if_pos h, Option.map_some, Option.join_some]
    · simp only [if_neg h, Option.map_some, Option.join_some]
theorem frzAt_length (vs : List Nat) (ρ : Rho) : (frzAt vs ρ).length = ρ.length := by unfold frzAt; rw [List.length_mapIdx]
theorem Rep.frz (R : Rep K w H M ρ σ F) (vs : List Nat) : Rep K w H M (frzAt vs ρ) σ (F.frz vs) := by
  refine ⟨by rw [frzAt_length]; exact R.len, fun i d e => ?_, fun i e => ?_, fun i => ?_, fun i j a h1 h2 => R.dis i j a (Foot.frz_sub h1).1 (Foot.frz_sub h2).1, fun i a h => R.hM i a (Foot.frz_sub h).1, R.dom⟩
  · rw [get0_frzAt] at e
    have up : ∀ a, Fz M F a → Fz M (F.frz vs) a := fun a f => ⟨f.1, fun j hj => f.2 j (Foot.frz_sub hj).1⟩
    by_cases hi : i ∈ vs
    · rw [if_pos hi] at e
      obtain ⟨d0, e0, rfl⟩ := Option.map_eq_some_iff.mp e
      obtain ⟨v, ev, hd⟩ := R.den i d0 e0
      refine ⟨v, ev, ?_⟩
      rw [show F.frz vs i = [] from if_pos hi]
      exact hd.frz up fun a ha => ⟨R.hM i a ha, fun j hj => by
        obtain ⟨h1, h2⟩ := Foot.frz_sub hj
        rw [R.dis i j a ha h1] at hi
        exact h2 hi⟩
    · rw [if_neg hi] at e
      obtain ⟨v, ev, hd⟩ := R.den i d e
      refine ⟨v, ev, ?_⟩
      rw [show F.frz vs i = F i from if_neg hi]
      exact hd.keyFz up
  · rw [get0_frzAt] at e
    by_cases hi : i ∈ vs
    · exact if_pos hi
    · rw [if_neg hi] at e
      rw [show F.frz vs i = F i from if_neg hi]
      exact R.un i e
  · unfold Foot.frz
    split
    · exact List.nodup_nil
    · exact R.nd i
def keptF (vs : List Nat) (c : Bool) (F : Foot) : Foot := if c = true then F else F.frz vs
theorem keptF_sub {F : Foot} {vs : List Nat} {c : Bool} {j : Nat} {a : Addr} (h : a ∈ keptF vs c F j) : a ∈ F j := by
  unfold keptF at h
  split at h
  · exact h
  · exact (Foot.frz_sub h).1
theorem Rep.kept (R : Rep K w H M ρ σ F) (vs : List Nat) (c : Bool) : Rep K w H M (kept vs c ρ) σ (keptF vs c F) := by
  unfold Eng.kept keptF
  split
  · exact R
  · exact R.frz vs
theorem kept_length (vs : List Nat) (c : Bool) (ρ : Rho) : (kept vs c ρ).length = ρ.length := by
  unfold kept
  split
  · rfl
  · exact frzAt_length vs ρ
theorem Dn.kept {v : V} {d : D} {S T : List Addr} {Vx : List Nat} (h : Dn K w H (Al M T F Vx) v d S) : Dn K w H (Al0 M T (keptF Vx d.clean F)) v d S := by
  by_cases c : d.clean = true
  · exact h.clean c
  · refine h.keyFz fun a f => ⟨f.1, f.2.1, fun j hj => ?_⟩
    unfold keptF at hj
    rw [if_neg c] at hj
    obtain ⟨h1, h2⟩ := Foot.frz_sub hj
    exact f.2.2 j h2 h1
/-! ### slots forgotten -/
def killF (vs : List Nat) (F : Foot) : Foot := F.frz vs
theorem kill_length : ∀ (vs : List Nat) (ρ : Rho), (kill vs ρ).length = ρ.length
  | [], _ => rfl
  | i :: r, ρ => by rw [kill, List.length_set, kill_length r ρ]
theorem get0_set_none {ρ : Rho} {i j : Nat} : get0 (ρ.set i none) j = if j = i then none else get0 ρ j := by
  by_cases h : i = j
  · subst h
    rw [if_pos rfl]
    unfold get0
    rw [List.getElem?_set]
    split
    · split <;> rfl
    · exact absurd rfl (by assumption)
  · rw [if_neg (Ne.symm h)]
    exact get0_set_ne h
theorem get0_kill : ∀ (vs : List Nat) (ρ : Rho) (i : Nat), get0 (kill vs ρ) i = if i ∈ vs then none else get0 ρ i
  | [], _, _ => by rw [if_neg (by simp)]; rfl
  | k :: r, ρ, i => by
    rw [kill, get0_set_none, get0_kill r ρ i]
    by_cases h : i = k
    · rw [if_pos h, if_pos (by rw [h]; exact List.mem_cons_self)]
    · rw [if_neg h]
      by_cases h' : i ∈ r
      · rw [if_pos h', if_pos (List.mem_cons_of_mem _ h')]
      · rw [if_neg h', if_neg fun z => (List.mem_cons.mp z).elim h h']
theorem wipe_get : ∀ (vs : List Nat) (σ : L2.St) (i : Nat), i ∉ vs → (wipe σ vs)[i]? = σ[i]?
  | [], _, _, _ => rfl
  | v :: r, σ, i, h => by
    have h1 : v ≠ i := fun e => h (by rw [e]; exact List.mem_cons_self)
    rw [wipe, List.getElem?_set_ne h1]
    exact wipe_get r σ i fun z => h (List.mem_cons_of_mem _ z)
theorem Rep.kill (R : Rep K w H M ρ σ F) (vs : List Nat) : Rep K w H M (kill vs ρ) (wipe σ vs) (killF vs F) := by
  refine ⟨by rw [kill_length, wipe_length]; exact R.len, fun i d e => ?_, fun i e => ?_, fun i => ?_, fun i j a h1 h2 => R.dis i j a (Foot.frz_sub h1).1 (Foot.frz_sub h2).1, fun i a h => R.hM i a (Foot.frz_sub h).1, R.dom⟩
  · rw [get0_kill] at e
    by_cases hi : i ∈ vs
    · rw [if_pos hi] at e; cases e
    · rw [if_neg hi] at e
      obtain ⟨v, ev, hd⟩ := R.den i d e
      refine ⟨v, by rw [wipe_get vs σ i hi]; exact ev, ?_⟩
      rw [show killF vs F i = F i from if_neg hi]
      exact hd.keyFz fun a f => ⟨f.1, fun j hj => f.2 j (Foot.frz_sub hj).1⟩
  · rw [get0_kill] at e
    by_cases hi : i ∈ vs
    · exact if_pos hi
    · rw [if_neg hi] at e
      rw [show killF vs F i = F i from if_neg hi]
      exact R.un i e
  · unfold killF Foot.frz
    split
    · exact List.nodup_nil
    · exact R.nd i
/-- back to the slots as they were: what is known stands in both -/
theorem Rep.unwipe {vs : List Nat} (R : Rep K w H M ρ (wipe σ vs) F) : Rep K w H M ρ σ F :=
  ⟨by rw [R.len, wipe_length], fun i d e => let ⟨v, ev, hd⟩ := R.den i d e; ⟨v, (wipe_some ev).1, hd⟩, R.un, R.nd, R.dis, R.hM, R.dom⟩
theorem wipe_set (σ : L2.St) (i : Nat) (o : Option V) : ∀ vs : List Nat, wipe (σ.set i o) vs = if i ∈ vs then wipe σ vs else (wipe σ vs).set i o
  | [] => by rw [if_neg (by simp)]; rfl
  | v :: vs => by
    show (wipe (σ.set i o) vs).set v none = _
    rw [wipe_set σ i o vs]
    by_cases h : i ∈ vs
    · rw [if_pos h, if_pos (List.mem_cons_of_mem _ h)]; rfl
    · rw [if_neg h]
      by_cases e : i = v
      · subst e
        rw [if_pos List.mem_cons_self, List.set_set]; rfl
      · rw [if_neg fun z => (List.mem_cons.mp z).elim e h]
        show ((wipe σ vs).set i o).set v none = ((wipe σ vs).set v none).set i o
        exact List.set_comm _ _ e
theorem wipe_wipe (σ : L2.St) : ∀ (vs us : List Nat), (∀ v ∈ us, v ∈ vs) → wipe (wipe σ us) vs = wipe σ vs
  | vs, [], _ => rfl
  | vs, u :: us, h => by
    rw [show wipe σ (u :: us) = (wipe σ us).set u none from rfl, wipe_set, if_pos (h u List.mem_cons_self)]
    exact wipe_wipe σ vs us fun v hv => h v (List.mem_cons_of_mem _ hv)
end
end Eng
namespace Eng
open PySem PySem.Spec PyProof.Rows L2 RT
section
variable {K : PySem.W.Frag} {w : World}
theorem Rep.set' {H : Hp} {M : Addr → Prop} {ρ : Rho} {σ : L2.St} {F : Foot} {v : V} {d : D} {S : List Addr} (R : Rep K w H (fun a => M a ∨ a ∈ S) ρ σ F) (h : Dn K w H (Al0 M S F) v d S) (nd : S.Nodup) (hS : ∀ a ∈ S, ¬ M a) (i : Nat) :
    ∃ F', Rep K w H M (ρ.set i (some d)) (σ.set i (some v)) F' ∧ (∀ j a, a ∈ F' j → a ∈ F j ∨ a ∈ S) ∧ ∀ j, j ≠ i → F' j = F j := by
  by_cases hi : i < ρ.length
  · refine ⟨_, R.set h nd hS hi, fun j a ha => ?_, fun j hj => Foot.set_ne hj⟩
    by_cases e : j = i
    · subst e; rw [Foot.set_same] at ha; exact .inr ha
    · rw [Foot.set_ne e] at ha; exact .inl ha
  · refine ⟨F, ?_, fun j a ha => .inl ha, fun _ _ => rfl⟩
    rw [List.set_eq_of_length_le (by omega), List.set_eq_of_length_le (by rw [← R.len]; omega)]
    exact R.weak fun a m => .inl m
/-- a target takes a frozen value -/
def BT (K : PySem.W.Frag) (w : World) (tg : Tgt) (g : TG) : Prop := ∀ (v : V) (d : D) (ρ ρ' : Rho) (σ : L2.St) (H : Hp) (F : Foot) (M : Addr → Prop) (Q : L2.St → Hp → Prop), Rep K w H M ρ σ F → Dn K w H (Al0 M [] F) v d [] → bindT tg d ρ = some ρ' →
  (∀ σ' F', Rep K w H M ρ' σ' F' → (∀ j a, a ∈ F' j → a ∈ F j) → (∀ j, j ∉ tg.slots → F' j = F j) → wipe σ' tg.slots = wipe σ tg.slots → (∀ j, j ∉ tg.slots → σ'[j]? = σ[j]?) → Q σ' H) → g v σ H Q
theorem bt_nm (i : Nat) : BT K w (.nm i) (gName i) := by
  intro v d ρ ρ' σ H F M Q R h e q
  cases e
  obtain ⟨F', R', h1, h2⟩ := Rep.set' (S := []) (R.weak fun a m => m.elim id nno) h List.nodup_nil (fun _ => nno) i
  refine q _ F' R' (fun j a ha => (h1 j a ha).elim id nno) (fun j hj => h2 j fun z => hj (by rw [z]; exact List.mem_singleton_self _)) ?_ fun j hj => List.getElem?_set_ne fun z => hj (by rw [z]; exact List.mem_singleton_self _)
  show wipe (σ.set i (some v)) [i] = wipe σ [i]
  rw [wipe_set, if_pos (List.mem_singleton_self i)]
def gNames : List Nat → TGs
  | [] => gNil
  | i :: r => gCons (gName i) (gNames r)
theorem gNames_go : ∀ {is : List Nat} {xs : List V} {σ : L2.St} {H : Hp} {Q : L2.St → Hp → Prop}, is.length = xs.length → Q ((is.zip xs).foldl (fun σ p => σ.set p.1 (some p.2)) σ) H → gNames is xs σ H Q
  | [], [], _, _, _, _, q => ⟨rfl, q⟩
  | [], _ :: _, _, _, _, h, _ => by simp at h
  | _ :: _, [], _, _, _, h, _ => by simp at h
  | i :: is, x :: xs, σ, H, Q, h, q => ⟨x, xs, rfl, gNames_go (is := is) (xs := xs) (by simpa using h) q⟩
theorem fold_wipe : ∀ (is : List Nat) (xs : List V) (σ : L2.St) (vs : List Nat), (∀ i ∈ is, i ∈ vs) → wipe ((is.zip xs).foldl (fun σ p => σ.set p.1 (some p.2)) σ) vs = wipe σ vs
  | [], _, _, _, _ => rfl
  | _ :: _, [], _, _, _ => rfl
  | i :: is, x :: xs, σ, vs, h => by
    rw [List.zip_cons_cons, List.foldl_cons, fold_wipe is xs _ vs fun k hk => h k (List.mem_cons_of_mem _ hk), wipe_set, if_pos (h i List.mem_cons_self)]
theorem fold_keep : ∀ (is : List Nat) (xs : List V) (σ : L2.St) (j : Nat), j ∉ is → ((is.zip xs).foldl (fun σ p => σ.set p.1 (some p.2)) σ)[j]? = σ[j]?
  | [], _, _, _, _ => rfl
  | _ :: _, [], _, _, _ => rfl
  | i :: is, x :: xs, σ, j, h => by
    rw [List.zip_cons_cons, List.foldl_cons, fold_keep is xs _ j fun z => h (List.mem_cons_of_mem _ z), List.getElem?_set_ne (show i ≠ j from fun e => h (e ▸ List.mem_cons_self))]
theorem bindAll : ∀ {is : List Nat} {vs : List V} {ds : List D} {ρ : Rho} {σ : L2.St} {F : Foot} {H : Hp} {M : Addr → Prop}, Rep K w H M ρ σ F → DnL K w H (Al0 M [] F) vs ds [] → is.length = ds.length →
    ∃ F', Rep K w H M (setAll is ds ρ) ((is.zip vs).foldl (fun σ p => σ.set p.1 (some p.2)) σ) F' ∧ (∀ j a, a ∈ F' j → a ∈ F j) ∧ ∀ j, j ∉ is → F' j = F j
  | [], _, _, _, _, F, _, _, R, h, _ => by
    generalize hS : ([] : List Addr) = S at h
    cases h with
    | nil => exact ⟨F, R, fun _ _ h => h, fun _ _ => rfl⟩
    | cons _ _ => contradiction
  | i :: is, vs, ds, ρ, σ, F, H, M, R, h, hl => by
    match ds with
    | [] => simp at hl
    | d :: ds =>
      obtain ⟨v, vs', rfl, h1, h2⟩ := h.uncons
      obtain ⟨F1, R1, s1, e1⟩ := Rep.set' (S := []) (R.weak fun a m => m.elim id nno) h1 List.nodup_nil (fun _ => nno) i
      obtain ⟨F2, R2, s2, e2⟩ := bindAll (is := is) R1 (h2.keyFz fun a f => ⟨f.1, nno, fun j hj => (s1 j a hj).elim (f.2.2 j) nno⟩) (by simpa using hl)
      refine ⟨F2, R2, fun j a ha => (s1 j a (s2 j a ha)).elim id nno, fun j hj => ?_⟩
      rw [e2 j fun z => hj (List.mem_cons_of_mem _ z), e1 j fun z => hj (by rw [z]; exact List.mem_cons_self)]
theorem bt_tp (is : List Nat) : BT K w (.tp is) (gTup K is.length (gNames is)) := by
  intro v d ρ ρ' σ H F M Q R h e q
  match d with
  | .tup xs =>
    change (if xs.length = is.length then some (setAll is xs ρ) else none) = some ρ' at e
    split at e
    · rename_i hl
      cases e
      obtain ⟨a, vs, rfl, hT, r⟩ := h.sqT
      obtain ⟨F', R', s1, e1⟩ := bindAll (is := is) R r hl.symm
      exact ⟨a, vs, rfl, hT, by rw [r.length, hl], gNames_go (by rw [r.length, hl]) (q _ F' R' s1 e1 (fold_wipe is vs σ is fun _ h => h) fun j hj => fold_keep is vs σ j hj)⟩
    · cases e
  | .non | .bl _ | .int _ | .str _ | .lst _ _ | .dct _ _ => cases e
/-! ### a comprehension -/
structure Cs (K : PySem.W.Frag) (w : World) (M : Addr → Prop) (H : Hp) (F : Foot) (pur : Bool) (sl : List Nat) (σ : L2.St) (H' : Hp) (ρ' : Rho) (F' : Foot) (T : List Addr) : Prop where
  rep : Rep K w H' (fun a => M a ∨ a ∈ T) ρ' σ F'
  keep : ∀ b o, H b = some o → (∀ i, b ∉ F i) → H' b = some o
  fresh : ∀ a, (a ∈ T ∨ ∃ i, a ∈ F' i) → (∃ i, a ∈ F i) ∨ H a = none
  nd : T.Nodup
  tM : ∀ a ∈ T, ¬ M a
  pur : pur = true → Same H H' ∧ (∀ a ∈ T, H a = none) ∧ ∀ j, j ∉ sl → F' j = F j
theorem Rep.same {H H' : Hp} {M : Addr → Prop} {ρ : Rho} {σ : L2.St} {F : Foot} (R : Rep K w H M ρ σ F) (s : Same H H') : Rep K w H' M ρ σ F :=
  (R.grow (T := []) s (fun _ => nno) fun _ => nno).weak fun a h => .inl h
/-- an untouchable thing is changed: the environment doesn't see it -/
theorem Rep.updM {H : Hp} {M : Addr → Prop} {ρ : Rho} {σ : L2.St} {F : Foot} (R : Rep K w H M ρ σ F) {a : Addr} {vs : List V} {o : HO} (h : H a = some (.lst vs)) (m : M a) : Rep K w (upd H a o) M ρ σ F := by
  have ne : ∀ b, ¬ M b → b ≠ a := fun b hb e => hb (e ▸ m)
  refine ⟨R.len, fun i d e => ?_, R.un, R.nd, R.dis, R.hM, fun b mb => ?_⟩
  · obtain ⟨v, ev, hd⟩ := R.den i d e
    refine ⟨v, ev, hd.carry ⟨fun b xs q => ?_, fun b o' q f => ⟨by rw [upd_ne (ne b f.1)]; exact q, f⟩, fun b o' q hb => by rw [upd_ne (ne b (R.hM i b hb))]; exact q⟩⟩
    have hb : b ≠ a := fun e => by subst e; rcases q with q | ⟨_, q⟩ <;> (rw [h] at q; cases q)
    exact q.imp (fun q => by rw [upd_ne hb]; exact q) fun ⟨o', q⟩ => ⟨o', by rw [upd_ne hb]; exact q⟩
  · by_cases e : b = a
    · subst e; rw [upd_same]; exact fun z => by cases z
    · rw [upd_ne e]; exact R.dom b mb
theorem Aft.sub {M : Addr → Prop} {H H1 : Hp} {F F1 : Foot} {ρ ρ1 : Rho} {p : Bool} {σ : L2.St} {T : List Addr} (A : Aft K w M H F ρ p σ H1 ρ1 F1 T) {b : Addr} {o : HO} (h : H b = some o) (hf : ∀ i, b ∉ F i) : H1 b = some o ∧ (∀ i, b ∉ F1 i) ∧ b ∉ T :=
  ⟨A.keep b o h hf, A.notF1 h hf, fun z => by
    rcases A.fresh b (.inl z) with ⟨i, hi⟩ | e
    · exact hf i hi
    · rw [h] at e; cases e⟩
end
end Eng
namespace Eng
open PySem PySem.Spec PyProof.Rows L2 RT
section
variable {K : PySem.W.Frag} {w : World}
/-- a comprehension's state at a turn -/
structure PvC (K : PySem.W.Frag) (w : World) (M : Addr → Prop) (H1 : Hp) (Fk : Foot) (pur : Bool) (tg : Tgt) (ec : Rho → Option (Bool × Rho)) (ee : Rho → Option (D × Rho)) (U : List Nat) (σw : L2.St) (D0 : Addr) (ds : List D) (res : List D × Rho) (i : Nat) (H : Hp) (ρi : Rho) (Fi : Foot) (acc : List V) (outs : List D) (Ta : List Addr) (rest : List D × Rho) : Prop where
  cs : Cs K w M H1 Fk pur tg.slots σw H ρi Fi (D0 :: Ta)
  at' : H D0 = some (.lst acc)
  len : outs.length ≤ i
  den : DnL K w H (Al M (D0 :: Ta) Fi U) acc outs Ta
  cl : pur = true ∨ cleanL outs = true
  ev : compL tg ec ee pur (ds.drop i) ρi = some rest
  r1 : outs ++ rest.1 = res.1
  r2 : rest.2 = res.2
theorem cleanL_app : ∀ (xs ys : List D), cleanL (xs ++ ys) = (cleanL xs && cleanL ys)
  | [], _ => rfl
  | x :: xs, ys => by rw [List.cons_append]; simp only [cleanL]; rw [cleanL_app xs ys, Bool.and_assoc]
theorem DnL.snoc {H : Hp} {Fy : Addr → Prop} {v : V} {d : D} {T : List Addr} (h2 : Dn K w H Fy v d T) : ∀ {vs : List V} {ds : List D} {S : List Addr}, DnL K w H Fy vs ds S → DnL K w H Fy (vs ++ [v]) (ds ++ [d]) (S ++ T)
  | _, _, _, .nil => by
    have := DnL.cons h2 (DnL.nil (K := K) (w := w) (H := H) (Fz := Fy))
    rw [List.append_nil] at this
    exact this
  | _, _, _, .cons h r => by
    rw [List.append_assoc]
    exact .cons h (DnL.snoc h2 r)
variable {M : Addr → Prop} {H1 H H' : Hp} {Fk Fi : Foot} {pur : Bool} {sl : List Nat} {σw : L2.St} {ρi : Rho} {Ta : List Addr}
theorem Cs.same (C : Cs K w M H1 Fk pur sl σw H ρi Fi Ta) (s : Same H H') : Cs K w M H1 Fk pur sl σw H' ρi Fi Ta :=
  ⟨C.rep.same s, fun b o e h => s _ _ (C.keep b o e h), C.fresh, C.nd, C.tM, fun h => let ⟨a, b, c⟩ := C.pur h; ⟨a.trans s, b, c⟩⟩
theorem Cs.notT (C : Cs K w M H1 Fk pur sl σw H ρi Fi Ta) {b : Addr} {o : HO} (h : H1 b = some o) (hf : ∀ i, b ∉ Fk i) : b ∉ Ta ∧ ∀ i, b ∉ Fi i := by
  refine ⟨fun z => ?_, fun i z => ?_⟩
  · rcases C.fresh b (.inl z) with ⟨i, hi⟩ | e
    · exact hf i hi
    · rw [h] at e; cases e
  · rcases C.fresh b (.inr ⟨i, z⟩) with ⟨i, hi⟩ | e
    · exact hf i hi
    · rw [h] at e; cases e
/-- a turn that gives nothing, or a value in hand -/
theorem Cs.turn {D0 : Addr} {acc : List V} (C : Cs K w M H1 Fk pur sl σw H ρi Fi (D0 :: Ta)) (hD : H1 D0 = none) {ρ1 ρ2 : Rho} {σ2 : L2.St} {F1 F2 : Foot} {H2 : Hp} {T2 : List Addr} {p : Bool} (hp : pur = true → p = true)
    (s1 : ∀ j a, a ∈ F1 j → a ∈ Fi j) (s2 : ∀ j, j ∉ sl → F1 j = Fi j) (hσ : wipe σ2 sl = σw) (A : Aft K w (fun a => M a ∨ a ∈ D0 :: Ta) H F1 ρ1 p σ2 H2 ρ2 F2 T2) (hacc : H D0 = some (.lst acc)) (o : HO) :
    Cs K w M H1 Fk pur sl σw (upd H2 D0 o) (kill sl ρ2) (killF sl F2) (D0 :: (Ta ++ T2)) := by
  have k1 : ∀ b, (b ∈ T2 ∨ ∃ i, b ∈ F2 i) → (∃ i, b ∈ Fi i) ∨ H b = none := fun b h => (A.fresh b h).imp (fun ⟨i, hi⟩ => ⟨i, s1 i b hi⟩) id
  have hD2 : H2 D0 = some (.lst acc) := A.keep D0 _ hacc fun i hi => C.rep.hM i D0 (s1 i D0 hi) (.inr List.mem_cons_self)
  refine ⟨?_, fun b o' e h => ?_, fun a h => ?_, ?_, fun a ha => ?_, fun h => ?_⟩
  · have R := (Rep.updM (o := o) (A.rep.weak (M' := fun a => M a ∨ a ∈ D0 :: (Ta ++ T2)) fun a h => ?_) hD2 (.inr List.mem_cons_self)).kill sl
    · rw [hσ] at R; exact R
    · rcases h with h | h
      · exact .inl (.inl h)
      · rcases List.mem_cons.mp h with h | h
        · exact .inl (.inr (by rw [h]; exact List.mem_cons_self))
        · exact (List.mem_append.mp h).imp (fun z => .inr (List.mem_cons_of_mem _ z)) id
  · have hb := C.notT e h
    rw [upd_ne (fun z => by subst z; rw [hD] at e; cases e)]
    exact A.keep b o' (C.keep b o' e h) fun i hi => hb.2 i (s1 i b hi)
  · have back : (a ∈ T2 ∨ ∃ i, a ∈ F2 i) → (∃ i, a ∈ Fk i) ∨ H1 a = none := fun h => by
      rcases k1 a h with h | h
      · exact C.fresh a (.inr h)
      · cases e : H1 a with
        | none => exact .inr rfl
        | some o' =>
          by_cases hf : ∃ i, a ∈ Fk i
          · exact .inl hf
          · rw [C.keep a o' e fun i hi => hf ⟨i, hi⟩] at h; cases h
    rcases h with h | ⟨i, h⟩
    · rcases List.mem_cons.mp h with h | h
      · exact .inr (by rw [h]; exact hD)
      · rcases List.mem_append.mp h with h | h
        · exact C.fresh a (.inl (List.mem_cons_of_mem _ h))
        · exact back (.inl h)
    · exact back (.inr ⟨i, (Foot.frz_sub h).1⟩)
  · refine List.nodup_cons.mpr ⟨fun z => ?_, List.nodup_append.mpr ⟨(List.nodup_cons.mp C.nd).2, A.nd, fun a h1 b h2 e => ?_⟩⟩
    · rcases List.mem_append.mp z with z | z
      · exact (List.nodup_cons.mp C.nd).1 z
      · exact A.tM D0 z (.inr List.mem_cons_self)
    · subst e; exact A.tM a h2 (.inr (List.mem_cons_of_mem _ h1))
  · rcases List.mem_cons.mp ha with h | h
    · subst h; exact C.tM a List.mem_cons_self
    · rcases List.mem_append.mp h with h | h
      · exact C.tM a (List.mem_cons_of_mem _ h)
      · exact fun m => A.tM a h (.inl m)
  · obtain ⟨b1, b2, b3⟩ := C.pur h
    obtain ⟨a1, a2, a3, a4⟩ := A.pur (hp h)
    refine ⟨fun b o' e => ?_, fun a ha => ?_, fun j hj => ?_⟩
    · rw [upd_ne (fun z => by subst z; rw [hD] at e; cases e)]
      exact a3 _ _ (b1 _ _ e)
    · rcases List.mem_cons.mp ha with h | h
      · subst h; exact hD
      · rcases List.mem_append.mp h with h | h
        · exact b2 a (List.mem_cons_of_mem _ h)
        · exact b1.free (a4 a h)
    · rw [show killF sl F2 j = F2 j from if_neg hj, a2, s2 j hj, b3 j hj]
theorem sf_comp {ei : Rho → Option (List D × Bool × Rho)} {ec : Rho → Option (Bool × Rho)} {ee : Rho → Option (D × Rho)} {pi pc pe : Bool} {Vi Ve Vc : List Nat} {wi : TI} {tg : Tgt} {g : TG} {tt : TT} {te : TE}
    (hI : SFI K w ei pi Vi wi) (hc : SFT K w ec pc tt) (he : SF K w ee pe Ve te) (hb : BT K w tg g) :
    SF K w (fun ρ => (ei ρ).bind fun p => chk ((pe && pc) || p.2.1) ((compL tg ec ee (pe && pc) p.1 (kill tg.slots (kept Vi p.2.1 p.2.2))).bind fun r => chk (fits p.1.length) (some (.lst true r.1, if (pe && pc) = true then p.2.2 else r.2))))
      (pe && pi && pc) (Vi ++ (Ve ++ (Vc ++ tg.slots))) (tLc wi g tt te tg.slots) := by
  intro ρ σ H F M d ρ' Q R h q
  obtain ⟨⟨ds, c, ρ1⟩, e1, h⟩ := Option.bind_eq_some_iff.mp h
  obtain ⟨hpc, h⟩ := chk_some h
  obtain ⟨res, e2, h⟩ := Option.bind_eq_some_iff.mp h
  obtain ⟨hfit, h⟩ := chk_some h
  simp only at hpc e2 hfit h
  have hfit' : ds.length ≤ sizeLine := of_decide_eq_true hfit
  refine hI ρ σ H F M ds c ρ1 _ R e1 fun J H1 F1 T1 A w1 w2 => ?_
  intro D0 hD
  generalize hpur : (pe && pc) = pur at hpc e2 h
  generalize hFk : killF tg.slots (keptF Vi c F1) = Fk
  have Fk1 : ∀ j a, a ∈ Fk j → a ∈ F1 j := fun j a z => by subst hFk; exact keptF_sub (Foot.frz_sub z).1
  have R1 : Rep K w H1 M (kill tg.slots (kept Vi c ρ1)) (wipe σ tg.slots) Fk := by
    rw [← hFk]
    exact ((A.rep.weak fun a m => .inl m).kept Vi c).kill tg.slots
  -- the walk, in one form
  have hw : ∃ Fy : Addr → Prop, WalkD K w J ds H1 Fy ∧ ∀ a, Fy a → ¬ M a ∧ (∀ i, a ∉ Fk i) ∧ H1 a ≠ none := by
    by_cases hcc : c = true
    · refine ⟨_, w2 hcc, fun a ha => ⟨A.tM a ha, fun i hi => A.rep.hM i a (Fk1 i a hi) (.inr ha), A.rep.dom a (.inr ha)⟩⟩
    · refine ⟨_, w1, fun a ha => ⟨ha.1.elim (A.tM a) fun z => z.1, fun i hi => ?_, ha.2⟩⟩
      rcases ha.1 with z | z
      · exact A.rep.hM i a (Fk1 i a hi) (.inr z)
      · subst hFk
        obtain ⟨h1, h2⟩ := Foot.frz_sub hi
        unfold keptF at h1
        rw [if_neg hcc] at h1
        obtain ⟨h3, h4⟩ := Foot.frz_sub h1
        exact z.2.2 i h4 h3
  obtain ⟨Fy, hw, hFy⟩ := hw
  generalize hV : Vi ++ (Ve ++ (Vc ++ tg.slots)) = V at q ⊢
  have VI : ∀ j ∈ Vi, j ∈ V := fun j hj => by rw [← hV]; exact List.mem_append_left _ hj
  have VE : ∀ j ∈ Ve, j ∈ V := fun j hj => by rw [← hV]; exact List.mem_append_right _ (List.mem_append_left _ hj)
  have VS : ∀ j ∈ tg.slots, j ∈ V := fun j hj => by rw [← hV]; exact List.mem_append_right _ (List.mem_append_right _ (List.mem_append_right _ hj))
  refine lc_it hw (fun i H => ∃ ρi Fi acc outs Ta rest, PvC K w M H1 Fk pur tg ec ee V (wipe σ tg.slots) D0 ds res i H ρi Fi acc outs Ta rest) ?_ (fun i Hc _ ⟨ρi, Fi, acc, outs, Ta, rest, P⟩ => ?_) (fun i x Hc H' hi ⟨ρi, Fi, acc, outs, Ta, rest, P⟩ ⟨sm, dx, ed, hx⟩ => ?_) fun Hc ⟨ρi, Fi, acc, outs, Ta, rest, P⟩ => ?_
  · refine ⟨_, Fk, [], [], [], res, ⟨?_, upd_same, Nat.zero_le _, .nil, .inr rfl, by rw [List.drop_zero]; exact e2, List.nil_append _, rfl⟩⟩
    have s : Same H1 (upd H1 D0 (.lst [])) := Same.updN hD
    refine ⟨R1.grow (T := [D0]) s (fun a z => by rw [List.mem_singleton.mp z]; exact hD) fun a z => by rw [List.mem_singleton.mp z, upd_same]; exact fun e => (by cases e), fun b o e _ => s _ _ e, fun a h => h.elim (fun z => .inr (by rw [List.mem_singleton.mp z]; exact hD)) .inl, List.nodup_cons.mpr ⟨nno, List.nodup_nil⟩, fun a z m => ?_, fun _ => ⟨s, fun a z => by rw [List.mem_singleton.mp z]; exact hD, fun _ _ => rfl⟩⟩
    rw [List.mem_singleton.mp z] at m
    exact R1.dom D0 m hD
  · refine ⟨fun b o e f => P.cs.keep b o e (hFy b f).2.1, fun b xs r => ?_⟩
    rcases r with r | ⟨o, r⟩
    · exact .inl (P.cs.keep b _ r fun i hi => R1.notup (.inl r) i hi)
    · exact .inr ⟨o, P.cs.keep b _ r fun i hi => R1.notup (.inr ⟨o, r⟩) i hi⟩
  · -- a turn
    have C := P.cs.same sm
    have eD : ds.drop i = dx :: ds.drop (i + 1) := by
      have hl := (List.getElem?_eq_some_iff.mp ed).1
      rw [List.drop_eq_getElem_cons hl, (List.getElem?_eq_some_iff.mp ed).2]
    have ev := P.ev
    rw [eD] at ev
    obtain ⟨ρ2, eb, ev⟩ := Option.bind_eq_some_iff.mp ev
    obtain ⟨⟨t, ρ3⟩, et, ev⟩ := Option.bind_eq_some_iff.mp ev
    simp only at ev
    have hx' : Dn K w H' (Al0 (fun a => M a ∨ a ∈ D0 :: Ta) [] Fi) x dx [] := hx.keyFz fun a f => by
      rcases f with f | f
      · obtain ⟨f1, f2, f3⟩ := hFy a f
        obtain ⟨o, e⟩ := ne_some f3
        have := P.cs.notT e f2
        exact ⟨fun m => m.elim f1 this.1, nno, this.2⟩
      · exact ⟨fun m => P.cs.rep.dom a m f, nno, fun j hj => P.cs.rep.thereN hj f⟩
    refine hb x dx ρi ρ2 (wipe σ tg.slots) H' Fi _ _ C.rep hx' eb fun σ2 F2 R2 b1 b2 b3 b4 => ?_
    have b3' : wipe σ2 tg.slots = wipe σ tg.slots := b3.trans (wipe_wipe σ tg.slots tg.slots fun _ h => h)
    refine ⟨b3', hc ρ2 σ2 H' F2 _ t ρ3 _ R2 et fun H3 F3 A3 => ?_⟩
    have hD' : H' D0 = some (.lst acc) := sm _ _ P.at'
    have hpP : pur = true → pe = true ∧ pc = true := fun z => by rw [← hpur] at z; simpa using z
    have den0 : DnL K w H' (Al M (D0 :: Ta) Fi V) acc outs Ta := P.den.carry (Carry.same sm fun _ _ _ f => f)
    have dTa : ∀ b ∈ Ta, b ≠ D0 := fun b hb e => (List.nodup_cons.mp C.nd).1 (e ▸ hb)
    -- the list so far at a later state
    have later : ∀ {p : Bool} {ρ4 : Rho} {F4 : Foot} {H4 : Hp} {T2 : List Addr} (o : HO), (pur = true → p = true) → Aft K w (fun a => M a ∨ a ∈ D0 :: Ta) H' F2 ρ2 p σ2 H4 ρ4 F4 T2 → DnL K w (upd H4 D0 o) (Al M (D0 :: (Ta ++ T2)) (killF tg.slots F4) V) acc outs Ta := fun {p ρ4 F4 H4 T2} o hp B => by
      have own : ∀ b o', H' b = some o' → b ∈ Ta → upd H4 D0 o b = some o' := fun b o' e hb => by
        rw [upd_ne (dTa b hb)]
        exact B.keep b o' e fun j hj => C.rep.hM j b (b1 j b hj) (.inr (List.mem_cons_of_mem _ hb))
      have tups : ∀ b xs, Rd H' b (.tup xs) → Rd (upd H4 D0 o) b (.tup xs) := fun b xs r => by
        have hb : b ≠ D0 := fun e => by subst e; rcases r with r | ⟨_, r⟩ <;> (rw [hD'] at r; cases r)
        have hnf : ∀ j, b ∉ F2 j := R2.notup r
        refine r.imp (fun r => by rw [upd_ne hb]; exact B.keep _ _ r hnf) fun ⟨o', r⟩ => ⟨o', by rw [upd_ne hb]; exact B.keep _ _ r hnf⟩
      rcases P.cl with z | z
      · obtain ⟨_, a2, a3, a4⟩ := B.pur (hp z)
        refine den0.carry ⟨tups, fun b o' e f => ⟨?_, f.1, fun m => ?_, fun j hj hb => ?_⟩, own⟩
        · rw [upd_ne fun e => f.2.1 (by rw [e]; exact List.mem_cons_self)]
          exact a3 _ _ e
        · rcases List.mem_cons.mp m with m | m
          · exact f.2.1 (by rw [m]; exact List.mem_cons_self)
          · rcases List.mem_append.mp m with m | m
            · exact f.2.1 (List.mem_cons_of_mem _ m)
            · rw [a4 b m] at e; cases e
        · have := (Foot.frz_sub hb).1
          rw [a2] at this
          exact f.2.2 j hj (b1 j b this)
      · exact (den0.clean (Fz' := fun _ => False) z).carry ⟨tups, fun _ _ _ f => f.elim, own⟩
    cases t with
    | false =>
      rw [if_neg (by simp)] at ev
      have hE : upd H3 D0 (.lst acc) = H3 := by
        funext b
        by_cases e : b = D0
        · subst e; rw [upd_same, A3.keep b _ hD' fun j hj => C.rep.hM j b (b1 j b hj) (.inr List.mem_cons_self)]
        · rw [upd_ne e]
      have C' := C.turn hD (p := pc) (fun z => (hpP z).2) b1 b2 b3' A3 hD' (.lst acc)
      have L' := later (.lst acc) (fun z => (hpP z).2) A3
      rw [List.append_nil] at C' L'
      rw [hE] at C' L'
      exact ⟨_, _, acc, outs, Ta, rest, ⟨C', A3.keep _ _ hD' fun j hj => C.rep.hM j D0 (b1 j D0 hj) (.inr List.mem_cons_self), Nat.le_succ_of_le P.len, L', P.cl, ev, P.r1, P.r2⟩⟩
    | true =>
      rw [if_pos rfl] at ev
      obtain ⟨⟨dy, ρ4⟩, ee', ev⟩ := Option.bind_eq_some_iff.mp ev
      obtain ⟨hcl, ev⟩ := chk_some ev
      obtain ⟨rest', er, ev⟩ := Option.map_eq_some_iff.mp ev
      rw [if_pos rfl]
      refine he ρ3 σ2 H3 F3 _ dy ρ4 _ (A3.rep.weak fun a m => .inl m) ee' fun y H4 F4 T2 A4 hy => ?_
      have B := A3.then A4
      have hpB : pur = true → (pc && pe) = true := fun z => by rw [(hpP z).1, (hpP z).2]; rfl
      have hD4 : H4 D0 = some (.lst acc) := B.keep D0 _ hD' fun j hj => C.rep.hM j D0 (b1 j D0 hj) (.inr List.mem_cons_self)
      have C' := C.turn hD hpB b1 b2 b3' B hD' (.lst (acc ++ [y]))
      have L' := later (.lst (acc ++ [y])) hpB B
      have Y' : Dn K w (upd H4 D0 (.lst (acc ++ [y]))) (Al M (D0 :: (Ta ++ T2)) (killF tg.slots F4) V) y dy T2 := by
        refine hy.carry ⟨fun b xs r => ?_, fun b o e f => ⟨?_, fun m => f.1 (.inl m), fun m => ?_, fun j hj hb => ?_⟩, fun b o e hb => ?_⟩
        · have hb : b ≠ D0 := fun e => by subst e; rcases r with r | ⟨_, r⟩ <;> (rw [hD4] at r; cases r)
          exact r.imp (fun r => by rw [upd_ne hb]; exact r) fun ⟨o', r⟩ => ⟨o', by rw [upd_ne hb]; exact r⟩
        · rw [upd_ne fun z => f.1 (.inr (by rw [z]; exact List.mem_cons_self))]; exact e
        · rcases List.mem_cons.mp m with m | m
          · exact f.1 (.inr (by rw [m]; exact List.mem_cons_self))
          · rcases List.mem_append.mp m with m | m
            · exact f.1 (.inr (List.mem_cons_of_mem _ m))
            · exact f.2.1 m
        · exact f.2.2 j (fun z => hj (VE j z)) (Foot.frz_sub hb).1
        · rw [upd_ne fun z => A4.tM b hb (.inr (by rw [z]; exact List.mem_cons_self))]; exact e
      refine ⟨acc, hD4, ?_, ⟨_, _, acc ++ [y], outs ++ [dy], Ta ++ T2, rest', ⟨C', upd_same, by rw [List.length_append]; exact Nat.succ_le_succ P.len, DnL.snoc Y' L', ?_, er, ?_, ?_⟩⟩⟩
      · rw [P.den.length]
        exact Nat.lt_of_le_of_lt P.len (Nat.lt_of_lt_of_le hi hfit')
      · rcases P.cl with z | z
        · exact .inl z
        · cases hz : pur with
          | true => exact .inl rfl
          | false =>
            refine .inr ?_
            rw [cleanL_app, z]
            rw [hz] at hcl
            simp only [Bool.false_or] at hcl
            simp [cleanL, hcl]
      · have := P.r1
        rw [← ev] at this
        rw [List.append_assoc]; exact this
      · have := P.r2
        rw [← ev] at this
        exact this
  · -- the end
    have ev := P.ev
    rw [List.drop_length] at ev
    have er : rest = ([], ρi) := (Option.some.inj ev).symm
    subst er
    have r1 : outs = res.1 := by have := P.r1; rw [List.append_nil] at this; exact this
    have r2 : ρi = res.2 := P.r2
    injection h with h
    injection h with h1 h2
    subst h1
    rw [← r1] at q
    have hden := P.den
    by_cases hp : pur = true
    · rw [if_pos hp] at h2
      subst h2
      obtain ⟨c1, c2, c3⟩ := P.cs.pur hp
      refine q (.ref D0) Hc F1 (D0 :: Ta) ?_ (.lstO P.at' (hden.keyFz fun a f => ⟨f.1, f.2.1, fun j hj hb => f.2.2 j hj ?_⟩))
      · have := A.drop.op c1 P.cs.nd c2 fun a ha => P.cs.rep.dom a (.inr ha)
        exact ⟨this.rep, this.keep, this.fresh, this.nd, this.tM, fun h => this.pur (by simp only [Bool.and_eq_true] at h; exact h.1.2)⟩
      · rw [c3 j fun z => hj (VS j z), ← hFk, show killF tg.slots (keptF Vi c F1) j = keptF Vi c F1 j from if_neg fun z => hj (VS j z)]
        unfold keptF
        split
        · exact hb
        · rw [show F1.frz Vi j = F1 j from if_neg fun z => hj (VI j z)]; exact hb
    · rw [if_neg hp] at h2
      rw [← r2] at h2
      subst h2
      have hcl : cleanL outs = true := P.cl.resolve_left hp
      refine q (.ref D0) Hc Fi (D0 :: Ta) ⟨P.cs.rep.unwipe, fun b o e hf => ?_, fun a h => ?_, P.cs.nd, P.cs.tM, fun h => ?_⟩ (.lstO P.at' (hden.clean hcl))
      · have h1 := A.keep b o e hf
        exact P.cs.keep b o h1 fun i hi => A.notF1 e hf i (Fk1 i b hi)
      · rcases P.cs.fresh a h with ⟨i, hi⟩ | e
        · exact A.fresh a (.inr ⟨i, Fk1 i a hi⟩)
        · exact A.back e
      · simp only [Bool.and_eq_true] at h
        rw [h.1.1, h.2] at hpur
        exact absurd hpur.symm hp
end
end Eng
namespace Eng
open PySem PySem.Spec PyProof.Rows L2 RT
section
variable {K : PySem.W.Frag} {w : World} {M : Addr → Prop} {H H1 : Hp} {F F1 : Foot} {ρ ρ1 : Rho} {p q : Bool} {σ : L2.St} {T : List Addr}
theorem Aft.wk (h : q = true → p = true) (A : Aft K w M H F ρ p σ H1 ρ1 F1 T) : Aft K w M H F ρ q σ H1 ρ1 F1 T := ⟨A.rep, A.keep, A.fresh, A.nd, A.tM, fun z => A.pur (h z)⟩
theorem Aft.r0 (A : Aft K w M H F ρ p σ H1 ρ1 F1 []) : Rep K w H1 M ρ1 σ F1 := A.rep.weak fun a h => .inl h
theorem Dn.lV {v : V} {d : D} {Va Vb : List Nat} {S : List Addr} (h : Dn K w H (Al M T F Va) v d S) (hv : ∀ i ∈ Va, i ∈ Vb) : Dn K w H (Al M T F Vb) v d S := h.keyFz fun a f => ⟨f.1, f.2.1, fun j hj => f.2.2 j fun z => hj (hv j z)⟩
theorem and_l {a b : Bool} : (a && b) = true → a = true := fun z => by simp only [Bool.and_eq_true] at z; exact z.1
theorem and_r {a b : Bool} : (a && b) = true → b = true := fun z => by simp only [Bool.and_eq_true] at z; exact z.2
theorem Aft.drop0 (A : Aft K w M H F ρ p σ H1 ρ1 F1 T) : Rep K w H1 M ρ1 σ F1 := A.drop.r0
end
section
variable {K : PySem.W.Frag} {w : World} {ea eb ec : Rho → Option (D × Rho)} {et eu : Rho → Option (Bool × Rho)} {pa pb pc : Bool} {Va Vb Vc : List Nat} {ta tb tc : TE} {tt tu : TT}
theorem dBool_some {d : D} {b : Bool} (h : dBool d = some b) : d = .bl b := by
  cases d <;> first | cases h | skip
  rfl
theorem Dn.bl' {H : Hp} {Fy : Addr → Prop} {v : V} {b : Bool} {T : List Addr} (h : Dn K w H Fy v (.bl b) T) : v = .bl b ∧ T = [] := by
  generalize hd : D.bl b = d at h
  cases h <;> cases hd
  exact ⟨rfl, rfl⟩
theorem sf_and (ha : SF K w ea pa Va ta) (hb : SF K w eb pb Vb tb) : SF K w (fun ρ => (ea ρ).bind fun r => (dBool r.1).bind fun b => if b = true then eb r.2 else some (.bl false, r.2)) (pa && pb) (Va ++ Vb) (tAndV ta tb) := by
  intro ρ σ H F M d ρ' Q R h q
  obtain ⟨⟨x, ρ1⟩, e1, h⟩ := Option.bind_eq_some_iff.mp h
  obtain ⟨b, e2, h⟩ := Option.bind_eq_some_iff.mp h
  have := dBool_some e2
  simp only at this
  subst this
  refine ha ρ σ H F M _ ρ1 _ R e1 fun v H1 F1 T1 A hv => ?_
  obtain ⟨rfl, rfl⟩ := hv.bl'
  refine ⟨b, rfl, ?_⟩
  cases b with
  | true => exact iteT (hb ρ1 σ H1 F1 M d ρ' Q A.r0 (by simpa using h) fun v H2 F2 T B hd => q v H2 F2 T (A.then B) (hd.lV fun i hi => List.mem_append_right _ hi))
  | false =>
    simp only [Bool.false_eq_true, if_false, Option.some.injEq, Prod.mk.injEq] at h
    obtain ⟨rfl, rfl⟩ := h
    exact iteF (q (.bl false) H1 F1 [] (A.wk and_l) (.bl false))
theorem sf_or (ha : SF K w ea pa Va ta) (hb : SF K w eb pb Vb tb) : SF K w (fun ρ => (ea ρ).bind fun r => (dBool r.1).bind fun b => if b = true then some (.bl true, r.2) else eb r.2) (pa && pb) (Va ++ Vb) (tOrV ta tb) := by
  intro ρ σ H F M d ρ' Q R h q
  obtain ⟨⟨x, ρ1⟩, e1, h⟩ := Option.bind_eq_some_iff.mp h
  obtain ⟨b, e2, h⟩ := Option.bind_eq_some_iff.mp h
  have := dBool_some e2
  simp only at this
  subst this
  refine ha ρ σ H F M _ ρ1 _ R e1 fun v H1 F1 T1 A hv => ?_
  obtain ⟨rfl, rfl⟩ := hv.bl'
  refine ⟨b, rfl, ?_⟩
  cases b with
  | false => exact iteF (hb ρ1 σ H1 F1 M d ρ' Q A.r0 (by simpa using h) fun v H2 F2 T B hd => q v H2 F2 T (A.then B) (hd.lV fun i hi => List.mem_append_right _ hi))
  | true =>
    simp only [if_true, Option.some.injEq, Prod.mk.injEq] at h
    obtain ⟨rfl, rfl⟩ := h
    exact iteT (q (.bl true) H1 F1 [] (A.wk and_l) (.bl true))
theorem sft_and (ha : SFT K w et pa tt) (hb : SFT K w eu pb tu) : SFT K w (fun ρ => (et ρ).bind fun r => if r.1 = true then eu r.2 else some (false, r.2)) (pa && pb) (tAnd tt tu) := by
  intro ρ σ H F M d ρ' Q R h q
  obtain ⟨⟨b, ρ1⟩, e1, h⟩ := Option.bind_eq_some_iff.mp h
  refine ha ρ σ H F M b ρ1 _ R e1 fun H1 F1 A => ?_
  cases b with
  | true => exact iteT (hb ρ1 σ H1 F1 M d ρ' Q A.r0 (by simpa using h) fun H2 F2 B => q H2 F2 (A.then B))
  | false =>
    simp only [Bool.false_eq_true, if_false, Option.some.injEq, Prod.mk.injEq] at h
    obtain ⟨rfl, rfl⟩ := h
    exact iteF (q H1 F1 (A.wk and_l))
theorem sft_or (ha : SFT K w et pa tt) (hb : SFT K w eu pb tu) : SFT K w (fun ρ => (et ρ).bind fun r => if r.1 = true then some (true, r.2) else eu r.2) (pa && pb) (tOr tt tu) := by
  intro ρ σ H F M d ρ' Q R h q
  obtain ⟨⟨b, ρ1⟩, e1, h⟩ := Option.bind_eq_some_iff.mp h
  refine ha ρ σ H F M b ρ1 _ R e1 fun H1 F1 A => ?_
  cases b with
  | false => exact iteF (hb ρ1 σ H1 F1 M d ρ' Q A.r0 (by simpa using h) fun H2 F2 B => q H2 F2 (A.then B))
  | true =>
    simp only [if_true, Option.some.injEq, Prod.mk.injEq] at h
    obtain ⟨rfl, rfl⟩ := h
    exact iteT (q H1 F1 (A.wk and_l))
theorem sft_not (ha : SFT K w et pa tt) : SFT K w (fun ρ => (et ρ).map fun r => (!r.1, r.2)) pa (tNot tt) := by
  intro ρ σ H F M d ρ' Q R h q
  obtain ⟨⟨b, ρ1⟩, e1, h⟩ := Option.map_eq_some_iff.mp h
  cases h
  exact ha ρ σ H F M b ρ1 _ R e1 fun H1 F1 A => q H1 F1 A
/-- a value's truth -/
def rT (K : PySem.W.Frag) (w : World) : V → Hp → (Bool → Hp → Prop) → Prop := fun x H Q => ∃ dx b Fy, Dn K w H Fy x dx [] ∧ dTruth dx = some b ∧ Q b H
def tTru (K : PySem.W.Frag) (w : World) (ta : TE) : TT := fun σ H Q => ta σ H fun x H1 => rT K w x H1 Q
def tNotR (K : PySem.W.Frag) (w : World) (ta : TE) : TE := fun σ H Q => ta σ H fun x H1 => rT K w x H1 fun b H2 => Q (.bl (!b)) H2
theorem sft_tru (ha : SF K w ea pa Va ta) : SFT K w (fun ρ => (ea ρ).bind tru) pa (tTru K w ta) := by
  intro ρ σ H F M b ρ' Q R h q
  obtain ⟨⟨x, ρ1⟩, e1, h⟩ := Option.bind_eq_some_iff.mp h
  obtain ⟨t, e2, h⟩ := Option.map_eq_some_iff.mp h
  cases h
  exact ha ρ σ H F M x ρ1 _ R e1 fun v H1 F1 T1 A hv => ⟨_, b, _, A.letgo (fun _ z => z) hv, e2, q H1 F1 A.drop⟩
theorem sf_not (ha : SF K w ea pa Va ta) : SF K w (one ea fun d => (dTruth d).map fun t => .bl (!t)) pa Va (tNotR K w ta) := by
  intro ρ σ H F M d ρ' Q R h q
  obtain ⟨⟨x, ρ1⟩, e1, h⟩ := Option.bind_eq_some_iff.mp h
  obtain ⟨d', e2, h⟩ := Option.map_eq_some_iff.mp h
  obtain ⟨t, e3, e4⟩ := Option.map_eq_some_iff.mp e2
  subst e4
  cases h
  exact ha ρ σ H F M x ρ1 _ R e1 fun v H1 F1 T1 A hv => ⟨_, t, _, A.letgo (fun _ z => z) hv, e3, q (.bl (!t)) H1 F1 [] A.drop (.bl (!t))⟩
theorem sf_neg (ha : SF K w ea pa Va ta) : SF K w (one ea dNeg) pa Va (tUn (rU fun i => .int (-i)) ta) :=
  sf_one ha fun x dx H Fy d Q h e q => by
    cases dx <;> first | cases e | skip
    cases h
    exact ⟨_, rfl, q _ H [] (Same.refl _) (.int _) List.nodup_nil fun _ => nno⟩
/-- a < b < c -/
theorem three_ok {r r' : R2} {f g : D → D → Option Bool} (ha : SF K w ea pa Va ta) (hb : SF K w eb pb Vb tb) (hc : SF K w ec pc Vc tc) (hr : VB2 K w r f) (hr' : VB2 K w r' g) (hpb : pb = true) (hpc : pc = true)
    {ρ ρ' : Rho} {σ : L2.St} {H : Hp} {F : Foot} {M : Addr → Prop} {b : Bool} {Q : VK} (R : Rep K w H M ρ σ F) (h : three ea eb ec true f g ρ = some (b, ρ')) (q : ∀ H' F', Aft K w M H F ρ (pa && (pb && pc)) σ H' ρ' F' [] → Q (.bl b) H') : tChain r r' ta tb tc σ H Q := by
  obtain ⟨⟨x, ρ1⟩, e1, h⟩ := Option.bind_eq_some_iff.mp h
  obtain ⟨_, h⟩ := chk_some h
  obtain ⟨⟨y, ρ2⟩, e2, h⟩ := Option.bind_eq_some_iff.mp h
  obtain ⟨t, e3, h⟩ := Option.bind_eq_some_iff.mp h
  refine sf_pair ha hb R e1 (by rw [hpb]; rfl) e2 fun v u H2 F2 C h1 h2 => ?_
  refine hr v u _ _ H2 _ t _ h1 h2 e3 ⟨t, rfl, ?_⟩
  cases t with
  | false =>
    simp only [Bool.false_eq_true, if_false, Option.some.injEq, Prod.mk.injEq] at h
    obtain ⟨rfl, rfl⟩ := h
    exact iteF (q H2 F2 (C.wk fun z => by rw [hpb, hpc] at z; rw [hpb]; simpa using z))
  | true =>
    simp only [if_true] at h
    obtain ⟨⟨z, ρ3⟩, e4, h⟩ := Option.bind_eq_some_iff.mp h
    obtain ⟨s, e5, h⟩ := Option.map_eq_some_iff.mp h
    cases h
    refine iteT (hc ρ2 σ H2 F2 M z ρ3 _ C.r0 e4 fun v3 H3 F3 T3 B h3 => ?_)
    obtain ⟨_, eF, s3, n3⟩ := B.pur hpc
    have h2' : Dn K w H3 (fun a => Al M [] F2 (Va ++ Vb) a) u y.frz [] := h2.carry (Carry.same s3 fun _ _ _ f => f)
    have h2'' : Dn K w H3 (Al M [] F3 (Va ++ Vb ++ Vc)) u y.frz [] := h2'.keyFz fun a f => ⟨f.1, f.2.1, fun j hj => by rw [eF]; exact f.2.2 j fun z => hj (List.mem_append_left _ z)⟩
    have h3' : Dn K w H3 (Al M [] F3 (Va ++ Vb ++ Vc)) v3 z.frz [] := (B.letgo (fun _ z => z) h3).lV fun i hi => List.mem_append_right _ hi
    exact hr' u v3 _ _ H3 _ b Q h2'' h3' e5 (q H3 F3 ((C.then B.drop).wk fun z => by rw [hpb, hpc] at z ⊢; simpa using z))
theorem sf_three {r r' : R2} {f g : D → D → Option Bool} (ha : SF K w ea pa Va ta) (hb : SF K w eb pb Vb tb) (hc : SF K w ec pc Vc tc) (hr : VB2 K w r f) (hr' : VB2 K w r' g) :
    SF K w (fun ρ => (three ea eb ec (pb && pc) f g ρ).map fun r => (.bl r.1, r.2)) (pa && pb && pc) (Va ++ (Vb ++ Vc)) (tChain r r' ta tb tc) := by
  intro ρ σ H F M d ρ' Q R h q
  obtain ⟨⟨b, ρ1⟩, e1, h⟩ := Option.map_eq_some_iff.mp h
  cases h
  have hp : (pb && pc) = true := by
    obtain ⟨_, _, h⟩ := Option.bind_eq_some_iff.mp e1
    exact (chk_some h).1
  rw [hp] at e1
  refine three_ok ha hb hc hr hr' (and_l hp) (and_r hp) R e1 fun H' F' A => q _ H' F' [] (A.wk fun z => by rw [← Bool.and_assoc]; exact z) (.bl b)
theorem sft_three {r r' : R2} {f g : D → D → Option Bool} (ha : SF K w ea pa Va ta) (hb : SF K w eb pb Vb tb) (hc : SF K w ec pc Vc tc) (hr : VB2 K w r f) (hr' : VB2 K w r' g) :
    SFT K w (three ea eb ec (pb && pc) f g) (pa && pb && pc) (tTest (tChain r r' ta tb tc)) := by
  intro ρ σ H F M b ρ' Q R h q
  have hp : (pb && pc) = true := by
    obtain ⟨_, _, h⟩ := Option.bind_eq_some_iff.mp h
    exact (chk_some h).1
  rw [hp] at h
  exact three_ok ha hb hc hr hr' (and_l hp) (and_r hp) R h fun H' F' A => ⟨b, rfl, q H' F' (A.wk fun z => by rw [← Bool.and_assoc]; exact z)⟩
/-- a slice's bounds -/
def SFO (K : PySem.W.Frag) (w : World) (ev : Rho → Option (Option Int × Rho)) (p : Bool) (t : TO) : Prop :=
  ∀ (ρ : Rho) (σ : L2.St) (H : Hp) (F : Foot) (M : Addr → Prop) (o : Option Int) (ρ' : Rho) (Q : Option Int → Hp → Prop), Rep K w H M ρ σ F → ev ρ = some (o, ρ') →
    (∀ H' F', Aft K w M H F ρ p σ H' ρ' F' [] → Q o H') → t σ H Q
theorem sfo_none : SFO K w (fun ρ => some (none, ρ)) true tNoPart := by
  intro ρ σ H F M o ρ' Q R h q
  cases h
  exact q H F (Aft.refl R)
theorem sfo_some (ha : SF K w ea pa Va ta) : SFO K w (one ea dInt?) pa (tPart ta) := by
  intro ρ σ H F M o ρ' Q R h q
  obtain ⟨⟨x, ρ1⟩, e1, h⟩ := Option.bind_eq_some_iff.mp h
  obtain ⟨d', e2, h⟩ := Option.map_eq_some_iff.mp h
  cases h
  refine ha ρ σ H F M x ρ1 _ R e1 fun v H1 F1 T1 A hv => ?_
  have hv' := A.letgo (fun _ z => z) hv
  generalize x.frz = y at hv' e2
  cases y <;> first | cases e2 | skip
  cases hv'
  exact ⟨_, rfl, q H1 F1 A.drop⟩
theorem sf_slc {el eh : Rho → Option (Option Int × Rho)} {pl ph : Bool} {Vl Vh : List Nat} {tl th : TO} {r : V → Option Int → Option Int → Hp → VK → Prop} (ha : SF K w ea pa Va ta) (hl : SFO K w el pl tl) (hh : SFO K w eh ph th)
    (hr : ∀ (x : V) (dx : D) (lo hi : Option Int) (H : Hp) (Fy : Addr → Prop) (d : D) (Q : VK), Dn K w H Fy x dx [] → dCut lo hi dx = some d → After K w H Fy d Q → r x lo hi H Q) :
    SF K w (fun ρ => (ea ρ).bind fun p => chk ((pl && ph) || p.1.clean) ((el p.2).bind fun l => (eh l.2).bind fun h => (dCut l.1 h.1 p.1.frz).map fun d => (d, h.2))) (pa && pl && ph) (Va ++ (Vl ++ Vh)) (tSl r ta tl th) := by
  intro ρ σ H F M d ρ' Q R h q
  obtain ⟨⟨x, ρ1⟩, e1, h⟩ := Option.bind_eq_some_iff.mp h
  obtain ⟨hc, h⟩ := chk_some h
  obtain ⟨⟨lo, ρ2⟩, e2, h⟩ := Option.bind_eq_some_iff.mp h
  obtain ⟨⟨hi, ρ3⟩, e3, h⟩ := Option.bind_eq_some_iff.mp h
  obtain ⟨d', e4, h⟩ := Option.map_eq_some_iff.mp h
  cases h
  refine ha ρ σ H F M x ρ1 _ R e1 fun v H1 F1 T1 A hv => hl ρ1 σ H1 F1 _ lo ρ2 _ A.rep e2 fun H2 F2 B => hh ρ2 σ H2 F2 _ hi ρ3 _ B.r0 e3 fun H3 F3 C => ?_
  have BC := B.then C
  have AC := A.trans BC
  have hv' := hv.hand A BC (fun _ z => z) (V2 := Vl ++ Vh) (by simpa using hc)
  rw [List.append_nil] at AC hv'
  have hv2 := AC.letgo (fun _ z => z) hv'
  refine hr v _ lo hi H3 _ d Q hv2 e4 fun z H4 T s hd nd hT => ?_
  obtain ⟨A', D'⟩ := end_op AC.drop s hd nd hT
  exact q z H4 F3 T (A'.wk fun z => by rw [← Bool.and_assoc]; exact z) D'
/-- what a method's receiver is, by data -/
def tyD (T : String) (d : D) : Bool := match d with
  | .str _ => decide (T = "str")
  | .lst _ _ => decide (T = "list")
  | .dct _ _ => decide (T = "dict")
  | _ => false
def tyR (K : PySem.W.Frag) (w : World) (T : String) (x : V) (H : Hp) : Prop := ∃ d Fy, Dn K w H Fy x d [] ∧ tyD T d = true
def tBD (K : PySem.W.Frag) (w : World) (T : String) (r : V → List V → Hp → VK → Prop) (to : TE) (t : TA) : TE := fun σ H Q => to σ H fun x H1 => tyR K w T x H1 ∧ t σ H1 fun xs H2 => r x xs H2 Q
/-- o.m(..) -/
theorem sf_meth {es : Rho → Option (List D × Rho)} {ts : TA} {r : V → List V → Hp → VK → Prop} {g : D → List D → Option D} {T : String} (ha : SF K w ea pa Va ta) (hs : SFs K w es pb Vb ts)
    (hty : ∀ (x : V) (dx : D) (ds : List D) (d : D) (H : Hp) (Fy : Addr → Prop), Dn K w H Fy x dx [] → g dx ds = some d → tyD T dx = true) (hr : ∀ (x : V) (dx : D) (xs : List V) (ds : List D) (H : Hp) (Fy : Addr → Prop) (d : D) (Q : VK), Dn K w H Fy x dx [] → DnL K w H Fy xs ds [] → g dx ds = some d → After K w H Fy d Q → r x xs H Q) :
    SF K w (meth ea es pb g) (pa && pb) (Va ++ Vb) (tBD K w T r ta ts) := by
  intro ρ σ H F M d ρ' Q R h q
  obtain ⟨⟨x, ρ1⟩, e1, h⟩ := Option.bind_eq_some_iff.mp h
  obtain ⟨hc, h⟩ := chk_some h
  obtain ⟨⟨ys, ρ2⟩, e2, h⟩ := Option.bind_eq_some_iff.mp h
  obtain ⟨d', e4, h⟩ := Option.map_eq_some_iff.mp h
  cases h
  refine ha ρ σ H F M x ρ1 _ R e1 fun v H1 F1 T1 A hv => ⟨⟨_, _, A.letgo (fun _ z => z) hv, hty v _ _ d H1 _ (A.letgo (fun _ z => z) hv) e4⟩, hs ρ1 σ H1 F1 _ ys ρ2 _ A.rep e2 fun us H2 F2 T2 B hu => ?_⟩
  have C := A.trans B
  have hv' := C.letgo (fun a ha => List.mem_append_left _ ha) (hv.hand A B (fun _ z => z) (V2 := Vb) (by simpa using hc))
  have hu' := C.letgoL (fun a ha => List.mem_append_right _ ha) (hu.hand2 (M := M) (T1 := T1) (V1 := Va))
  refine hr v _ us _ H2 _ d Q hv' hu' e4 fun z H4 T s hd nd hT => ?_
  obtain ⟨A', D'⟩ := end_op C.drop s hd nd hT
  exact q z H4 F2 T A' D'
/-- isinstance(a, T) -/
theorem sf_isi {ty : Ty} {r : List V → Hp → VK → Prop} (ha : SF K w ea pa Va ta) (hr : ∀ (x : V) (d : D) (H : Hp) (Fy : Addr → Prop) (Q : VK), Dn K w H Fy x d [] → Q (.bl (dIsi ty d)) H → r [x, .ty ty.py] H Q) :
    SF K w (one ea fun d => some (.bl (dIsi ty d))) pa Va (tCB r (tCons ta (tCons (tC (.ty ty.py)) tNil))) := by
  intro ρ σ H F M d ρ' Q R h q
  obtain ⟨⟨x, ρ1⟩, e1, h⟩ := Option.bind_eq_some_iff.mp h
  obtain ⟨d', e4, h⟩ := Option.map_eq_some_iff.mp h
  cases h
  cases e4
  exact ha ρ σ H F M x ρ1 _ R e1 fun v H1 F1 T1 A hv => hr v _ H1 _ Q (A.letgo (fun _ z => z) hv) (q _ H1 F1 [] A.drop (.bl _))
end
end Eng
namespace Eng
open PySem PySem.Spec PyProof.Rows L2 RT
/-! ### a def's promise by its function on data -/
abbrev DFn := List D → Option (D × List (Option D))
def spD (K : PySem.W.Frag) (w : World) (n : Nat) (io : List Nat) (F : DFn) : Sp := fun vs H Q _ => vs.length = n ∧ ∃ (ds : List D) (M : Addr → Prop) (G : Foot) (d : D) (outs : List (Option D)),
  Rep K w H M (ds.map some) (vs.map some) G ∧ F ds = some (d, outs) ∧ (∀ i, i ∉ io → G i = [] ∧ get0 outs i = none) ∧
  ∀ v H' G' T, Aft K w M H G (ds.map some) false (vs.map some) H' outs G' T → Dn K w H' (Al M T G' []) v d T → Q v H'
section
variable {K : PySem.W.Frag} {w : World}
theorem get0_map_some {ds : List D} {i : Nat} {d : D} (h : get0 (ds.map some) i = some d) : ds[i]? = some d := by
  have := get0_some h
  rw [List.getElem?_map] at this
  cases e : ds[i]? with
  | none => rw [e] at this; cases this
  | some x => rw [e] at this; cases this; rfl
theorem get0_map_none {ds : List D} {i : Nat} (h : get0 (ds.map some) i = none) : ds[i]? = none := by
  unfold get0 at h
  rw [List.getElem?_map] at h
  cases e : ds[i]? with
  | none => rfl
  | some x => rw [e] at h; cases h
/-- frozen arguments as an environment -/
theorem Rep.args {H : Hp} {Fy : Addr → Prop} {vs : List V} {ds : List D} (h : DnL K w H Fy vs ds []) : Rep K w H (fun a => ¬ Fy a ∧ H a ≠ none) (ds.map some) (vs.map some) (fun _ => []) := by
  refine ⟨by rw [List.length_map, List.length_map, h.length], fun i d e => ?_, fun _ _ => rfl, fun _ => List.nodup_nil, fun _ _ _ => nno, fun _ _ => nno, fun a m => m.2⟩
  obtain ⟨v, ev, hd⟩ := h.item (get0_map_some e)
  exact ⟨v, by rw [List.getElem?_map, ev]; rfl, hd.keyFz fun a f => ⟨fun m => m.1 f, fun _ => nno⟩⟩
theorem von_call {n : Nat} {F : DFn} {E : XK} (hF : ∀ ds d outs, F ds = some (d, outs) → ds.length = n ∧ ∀ i, get0 outs i = none) : VON K w (fun xs H Q => spD K w n [] F (xs ++ []) H Q E) (fun ds => (F ds).map (·.1)) := by
  intro xs ds H Fy d Q h e q
  obtain ⟨⟨d', outs⟩, e1, e2⟩ := Option.map_eq_some_iff.mp e
  cases e2
  obtain ⟨hn, ho⟩ := hF ds _ _ e1
  rw [List.append_nil]
  refine ⟨by rw [h.length, hn], ds, _, fun _ => [], _, outs, Rep.args h, e1, fun i _ => ⟨rfl, ho i⟩, fun v H' G' T A hv => ?_⟩
  refine q v H' T (fun b o hb => A.keep b o hb fun _ => nno) (hv.keyFz fun a f => ⟨?_, f.2.1⟩) A.nd fun a ha => (A.fresh a (.inl ha)).elim (fun ⟨_, z⟩ => nno z) id
  by_cases hf : Fy a
  · exact .inl hf
  · refine .inr ?_
    cases ha : H a with
    | none => rfl
    | some o => exact absurd ⟨hf, some_ne ha⟩ f.1
end
end Eng
namespace Eng
open PySem PySem.Spec PyProof.Rows L2 RT
/-! ### the setting: the program, the module's names, the defs' functions -/
structure Cfg where
  P : Program
  w : World
  K : PySem.W.Frag
  mg : Str → Option Value
  base : Heap
  n : Nat
  S : Sem0
  fns : List (Str × Nat × List Nat)
  gls : List Str
/-- a block's scope -/
structure Sco where
  sc : Scope
  fn : Str → Bool
  N : List Str
structure Gd (c : Cfg) (s : Sco) (X : Cx) : Prop where
  hP : X.prog = c.P
  hw : X.w = c.w
  hK : X.K = c.K
  hmg : X.mg = c.mg
  hbase : X.base = c.base
  hN : X.N = s.N
  hsc : X.env.scope = s.sc
  hfn : X.fn = s.fn
  calm : X.calm = true
  room : Room c.n X.A
  nd : X.N.Nodup
/-- the built-in names that are used as such -/
def blts : List Str := ["isinstance", "len", "range", "tuple", "list", "int", "str", "enumerate", "zip", "reversed", "max", "min", "sorted", "set", "dict", "bool"]
structure Cfg.Ok (c : Cfg) : Prop where
  call : ∀ f n io, c.fns.lookup f = some (n, io) → C8.Cal c.P c.w c.K c.mg c.base c.n f (spD c.K c.w n io (c.S.call f)) [] ∧ (∀ ds d outs, c.S.call f ds = some (d, outs) → ds.length = n ∧ ∀ i, i ∉ io → get0 outs i = none)
  glob : ∀ x d, c.S.glob x = some d → ∃ v u, c.mg x = some u ∧ RelV v u ∧ ∀ H Fy, Dn c.K c.w H Fy v d []
  blt : ∀ x ∈ blts, c.mg x = none
/-! ### names -/
def dbg (x : Str) : Bool := x == ("__debug__" : Str) || x == ("__classdict__" : Str) || x == ("__name__" : Str)
def visB (s : Sco) (x : Str) : Bool := (decide (s.sc.names.lookup x = some .local) || decide (s.sc.names.lookup x = some .cell) || decide (s.sc.names.lookup x = some .free)) && !dbg x
def locB (s : Sco) (x : Str) : Bool := decide (s.sc.names.lookup x = some .local) || (decide (s.sc.names.lookup x = some .cell) && s.fn x)
def glB (s : Sco) (x : Str) : Bool := decide (s.sc.names.lookup x = some .globalImplicit) && !dbg x
def slot (s : Sco) (i : Nat) (x : Str) : Bool := decide (s.N[i]? = some x)
theorem dbg_ok {x : Str} (h : dbg x = false) : (x == ("__debug__" : Str)) = false ∧ (x == ("__classdict__" : Str)) = false ∧ x ≠ "__name__" := by
  simp only [dbg, Bool.or_eq_false_iff] at h
  exact ⟨h.1.1, h.1.2, fun e => by rw [e] at h; exact absurd h.2 (by decide)⟩
section
variable {c : Cfg} {s : Sco} {X : Cx} {x : Str} {i : Nat}
theorem visB_ok (h : visB s x = true) : (s.sc.names.lookup x = some .local ∨ s.sc.names.lookup x = some .cell ∨ s.sc.names.lookup x = some .free) ∧ dbg x = false := by
  simp only [visB, Bool.and_eq_true, Bool.or_eq_true, decide_eq_true_eq, Bool.not_eq_true'] at h
  exact ⟨h.1.elim (fun z => z.elim .inl fun z => .inr (.inl z)) fun z => .inr (.inr z), h.2⟩
theorem Gd.vis (g : Gd c s X) (h : visB s x = true) : Vis X.env.scope x := by
  rw [g.hsc]
  exact (visB_ok h).1
theorem Gd.slot (g : Gd c s X) (h : slot s i x = true) : X.N[i]? = some x := by
  rw [g.hN]
  exact of_decide_eq_true h
theorem Gd.gl (g : Gd c s X) (h : glB s x = true) : Gl X x ∧ dbg x = false := by
  simp only [glB, Bool.and_eq_true, decide_eq_true_eq, Bool.not_eq_true'] at h
  refine ⟨?_, h.2⟩
  show X.env.scope.names.lookup x = _
  rw [g.hsc]
  exact h.1
theorem Gd.loc (g : Gd c s X) (h : locB s x = true) : Loc X.env.scope x ∧ (X.fn x = true ∨ X.env.scope.names.lookup x = some .local) := by
  simp only [locB, Bool.or_eq_true, Bool.and_eq_true, decide_eq_true_eq] at h
  rw [g.hsc, g.hfn]
  rcases h with h | h
  · exact ⟨.inl h, .inr h⟩
  · exact ⟨.inr h.1, .inl h.2⟩
theorem Gd.mg0 (ok : c.Ok) (g : Gd c s X) (h : x ∈ blts) : X.mg x = none := by rw [g.hmg]; exact ok.blt x h
theorem Gd.hu (g : Gd c s X) : X.A.units + 65 < cLine := by have := g.room.un; omega
theorem Gd.hu9 (g : Gd c s X) : X.A.units + 9 < cLine := by have := g.room.un; omega
end
/-! ### judgements -/
def GE (c : Cfg) (s : Sco) (e : Ex) (x : Expr) : Prop := ∃ t, (∀ X, Gd c s X → PE X x t) ∧ SF c.K c.w (evE c.S e) e.pure e.vars t
def GT (c : Cfg) (s : Sco) (e : Ex) (x : Expr) : Prop := ∃ t, (∀ X, Gd c s X → PT X x t) ∧ SFT c.K c.w (evT c.S e) e.pure t
def GEs (c : Cfg) (s : Sco) (es : Exs) (xs : List Expr) : Prop := ∃ t, (∀ X, Gd c s X → PA X xs t) ∧ SFs c.K c.w (evEs c.S es) es.pure es.vars t
def GO (c : Cfg) (s : Sco) (o : Ox) (x : Option Expr) : Prop := ∃ t, (∀ X, Gd c s X → PO X x t) ∧ SFO c.K c.w (evO c.S o) o.pure t
def GC (c : Cfg) (s : Sco) (o : Ox) (xs : List Expr) : Prop := ∃ t, (∀ X, Gd c s X → PTs X xs t) ∧ SFT c.K c.w (evC c.S o) o.pure t
def GI (c : Cfg) (s : Sco) (it : Eng.Itr) (tg iter : Expr) : Prop := ∃ t, (∀ X, Gd c s X → PI X tg iter t) ∧ SFI c.K c.w (evI c.S it) it.pure it.vars t ∧ ∀ env x, foldedSetIterable iter env x = pure x
def GG (c : Cfg) (s : Sco) (t : Tgt) (x : Expr) : Prop := ∃ g, (∀ X, Gd c s X → PG X x g) ∧ BT c.K c.w t g
section
variable {K : PySem.W.Frag} {w : World} {p : Bool} {Vx : List Nat}
theorem SF.cg {ev ev' : Rho → Option (D × Rho)} {t : TE} (s : SF K w ev' p Vx t) (h : ∀ ρ, ev ρ = ev' ρ) : SF K w ev p Vx t := by
  have : ev = ev' := funext h
  rw [this]; exact s
theorem SFT.cg {ev ev' : Rho → Option (Bool × Rho)} {t : TT} (s : SFT K w ev' p t) (h : ∀ ρ, ev ρ = ev' ρ) : SFT K w ev p t := by
  have : ev = ev' := funext h
  rw [this]; exact s
theorem SFs.cg {ev ev' : Rho → Option (List D × Rho)} {t : TA} (s : SFs K w ev' p Vx t) (h : ∀ ρ, ev ρ = ev' ρ) : SFs K w ev p Vx t := by
  have : ev = ev' := funext h
  rw [this]; exact s
theorem SFO.cg {ev ev' : Rho → Option (Option Int × Rho)} {t : TO} (s : SFO K w ev' p t) (h : ∀ ρ, ev ρ = ev' ρ) : SFO K w ev p t := by
  have : ev = ev' := funext h
  rw [this]; exact s
theorem SFI.cg {ev ev' : Rho → Option (List D × Bool × Rho)} {t : TI} (s : SFI K w ev' p Vx t) (h : ∀ ρ, ev ρ = ev' ρ) : SFI K w ev p Vx t := by
  have : ev = ev' := funext h
  rw [this]; exact s
end
/-! ### truth of a plain value -/
def plainT (x : Expr) : Bool := match x with
  | .Name _ _ => true | .Constant _ _ _ => true | .BinOp _ _ _ _ => true | .Subscript _ _ _ => true | .Call _ _ _ _ => true
  | _ => false
theorem trR {X : Cx} : TruR X (rT X.K X.w) := trr
theorem plainT_ok {x : Expr} (h : plainT x = true) (env : Env) : ∀ whole, isTrue x env whole = (do let v ← whole; standAt x.pos; holding [v] (truthy v)) := by
  intro whole
  cases x <;> first | (cases h; done) | rfl
theorem pt_tru {X : Cx} {x : Expr} {ta : TE} (ha : PE X x ta) (h : plainT x = true) : PT X x (tTru X.K X.w ta) := by
  refine ⟨fun pins s σ H Q I hw => ?_⟩
  exact isTrue_plain (thn (ha.run pins s σ H _ I hw) fun v s1 ⟨x, H1, I1, r1, q1⟩ => trR pins s1 σ H1 x v Q I1 r1 q1) (plainT_ok h X.env _)
theorem pe_notR {X : Cx} {a : Expr} {ta : TE} {pos : Pos} (ha : PE X a ta) : PE X (.UnaryOp .Not a pos) (tNotR X.K X.w ta) := by
  refine ⟨fun pins s σ H Q I h => ?_⟩
  refine UnaryOp_ (thn (ha.run pins s σ H _ I h) fun v s1 ⟨x, H1, I1, r1, q1⟩ => ?_)
  exact not_of (thn (trR pins s1 σ H1 x v _ I1 r1 q1) fun c s2 ⟨H2, I2, q2⟩ => ⟨.bl (!c), H2, I2, rfl, q2⟩)
/-! ### rules -/
section
variable {c : Cfg} {s : Sco} {a b d : Ex} {x y z : Expr} {nm : Str} {i : Nat} {pos : Pos}
theorem ge_var (h1 : slot s i nm = true) (h2 : visB s nm = true) : GE c s (.var i) (.Name nm pos) :=
  ⟨_, fun X g => pe_var (g.slot h1) (g.vis h2) (dbg_ok (visB_ok h2).2).1 (dbg_ok (visB_ok h2).2).2.1, sf_var.cg fun ρ => by rw [evE]⟩
theorem ge_mov (h1 : slot s i nm = true) (h2 : visB s nm = true) : GE c s (.mov i) (.Name nm pos) :=
  ⟨_, fun X g => pe_var (g.slot h1) (g.vis h2) (dbg_ok (visB_ok h2).2).1 (dbg_ok (visB_ok h2).2).2.1, sf_mov.cg fun ρ => by rw [evE]⟩
theorem ge_con {v : V} {dd : D} (h : ∀ X, PE X x (tC v)) (h0 : ∀ H Fy, Dn c.K c.w H Fy v dd []) : GE c s (.con dd) x :=
  ⟨_, fun X _ => h X, (sf_con h0).cg fun ρ => by rw [evE]⟩
theorem sf_glo {S : Sem0} {K : PySem.W.Frag} {w : World} {xs : Str} {v : V} (h : ∀ d, S.glob xs = some d → ∀ H Fy, Dn K w H Fy v d []) : SF K w (fun ρ => (S.glob xs).map fun d => (d, ρ)) true [] (tC v) := by
  intro ρ σ H F M d ρ' Q R e q
  obtain ⟨d0, e1, e2⟩ := Option.map_eq_some_iff.mp e
  cases e2
  exact q v H F [] (Aft.refl R) (h _ e1 _ _)
theorem ge_glo (ok : c.Ok) (h1 : glB s nm = true) (hd : (c.S.glob nm).isSome = true) : GE c s (.glo nm) (.Name nm pos) := by
  obtain ⟨d, e⟩ := Option.isSome_iff_exists.mp hd
  obtain ⟨v, u, hm, r, hv⟩ := ok.glob nm d e
  refine ⟨tC v, fun X g => pe_glob (g.gl h1).1 (by rw [g.hmg]; exact hm) r (dbg_ok (g.gl h1).2).1, (sf_glo (v := v) fun d' e' => ?_).cg fun ρ => by rw [evE]⟩
  rw [e] at e'; cases e'
  exact hv
theorem ge_bin (o : Bop) (ha : GE c s a x) (hb : GE c s b y) : GE c s (.bin o a b) (.BinOp x o.py y pos) := by
  obtain ⟨ta, a1, a2⟩ := ha
  obtain ⟨tb, b1, b2⟩ := hb
  refine ⟨_, fun X g => pe_op (r := rV2 c.K c.w (dBin o)) ?_ (a1 X g) (b1 X g), (sf_two a2 b2 vo2).cg fun ρ => by rw [evE]⟩
  rw [← g.hK, ← g.hw]; exact opr_bin o
theorem Gd.cmp {X : Cx} (g : Gd c s X) (o : Cop) : OpR X (compareOp o.py) (rB2 c.K c.w (dCmp o)) := by
  rw [← g.hK, ← g.hw]; exact opr_cmp g.hu (opr_dcin g.hu9) (opr_dcnotin g.hu9) o
/-- not a display of a set -/
def noSetX (x : Expr) : Bool := match x with
  | .Set _ _ _ => false
  | _ => true
theorem noSetX_ok {x : Expr} (h : noSetX x = true) (op : CmpOp) : behindInMarks op x = false := by
  cases x <;> first | (cases h; done) | rfl
theorem ge_cmp (o : Cop) (ha : GE c s a x) (hb : GE c s b y) (hy : noSetX y = true) : GE c s (.cmp o a b) (.Compare x [o.py] [y] pos) := by
  obtain ⟨ta, a1, a2⟩ := ha
  obtain ⟨tb, b1, b2⟩ := hb
  exact ⟨_, fun X g => pe_cmpR (g.cmp o) (a1 X g) (b1 X g) (noSetX_ok hy _), (sf_twoB a2 b2 vb2).cg fun ρ => by rw [evE]⟩
theorem gt_cmp (o : Cop) (ha : GE c s a x) (hb : GE c s b y) (hy : noSetX y = true) : GT c s (.cmp o a b) (.Compare x [o.py] [y] pos) := by
  obtain ⟨ta, a1, a2⟩ := ha
  obtain ⟨tb, b1, b2⟩ := hb
  exact ⟨_, fun X g => pt_cmpR (g.cmp o) (a1 X g) (b1 X g) (noSetX_ok hy _), (sft_two a2 b2 vb2).cg fun ρ => by rw [evT]⟩
theorem last_ok {o p : CmpOp} {y z : Expr} (hz : noSetX z = true) : lastMarks [o, p] [y, z] = false := noSetX_ok hz p
theorem ge_cmp2 (o p : Cop) (ha : GE c s a x) (hb : GE c s b y) (hd : GE c s d z) (hz : noSetX z = true) : GE c s (.cmp2 o p a b d) (.Compare x [o.py, p.py] [y, z] pos) := by
  obtain ⟨ta, a1, a2⟩ := ha
  obtain ⟨tb, b1, b2⟩ := hb
  obtain ⟨td, d1, d2⟩ := hd
  exact ⟨_, fun X g => pe_chain (g.cmp o) (g.cmp p) (a1 X g) (b1 X g) (d1 X g) (last_ok hz), (sf_three a2 b2 d2 vb2 vb2).cg fun ρ => by rw [evE]⟩
theorem gt_cmp2 (o p : Cop) (ha : GE c s a x) (hb : GE c s b y) (hd : GE c s d z) (hz : noSetX z = true) : GT c s (.cmp2 o p a b d) (.Compare x [o.py, p.py] [y, z] pos) := by
  obtain ⟨ta, a1, a2⟩ := ha
  obtain ⟨tb, b1, b2⟩ := hb
  obtain ⟨td, d1, d2⟩ := hd
  exact ⟨_, fun X g => pt_chain (g.cmp o) (g.cmp p) (a1 X g) (b1 X g) (d1 X g) (last_ok hz), (sft_three a2 b2 d2 vb2 vb2).cg fun ρ => by rw [evT]⟩
theorem ge_neg (ha : GE c s a x) : GE c s (.neg a) (.UnaryOp .USub x pos) := by
  obtain ⟨ta, a1, a2⟩ := ha
  exact ⟨_, fun X g => pe_un un_neg (a1 X g), (sf_neg a2).cg fun ρ => by rw [evE]⟩
theorem ge_not (ha : GE c s a x) : GE c s (.not a) (.UnaryOp .Not x pos) := by
  obtain ⟨ta, a1, a2⟩ := ha
  exact ⟨_, fun X g => by rw [← g.hK, ← g.hw]; exact pe_notR (a1 X g), (sf_not a2).cg fun ρ => by rw [evE]⟩
theorem gt_not (ha : GT c s a x) : GT c s (.not a) (.UnaryOp .Not x pos) := by
  obtain ⟨ta, a1, a2⟩ := ha
  exact ⟨_, fun X g => pt_not (a1 X g), (sft_not a2).cg fun ρ => by rw [evT]⟩
theorem ge_ife (ht : GT c s d z) (ha : GE c s a x) (hb : GE c s b y) : GE c s (.ife d a b) (.IfExp z x y pos) := by
  obtain ⟨ta, a1, a2⟩ := ha
  obtain ⟨tb, b1, b2⟩ := hb
  obtain ⟨td, d1, d2⟩ := ht
  exact ⟨_, fun X g => pe_ifExp (d1 X g) (a1 X g) (b1 X g), ((sf_if d2 a2 b2).mono fun i hi => List.mem_append_right _ hi).cg fun ρ => by rw [evE]⟩
def plainIxB (x : Expr) : Bool := match x with
  | .Slice _ _ _ _ => false
  | _ => true
theorem plainIx_ok {x : Expr} (h : plainIxB x = true) : PlainIx x := by
  intro o i
  cases x <;> first | (cases h; done) | rfl
theorem ge_sub (ha : GE c s a x) (hb : GE c s b y) (hy : plainIxB y = true) : GE c s (.sub a b) (.Subscript x y pos) := by
  obtain ⟨ta, a1, a2⟩ := ha
  obtain ⟨tb, b1, b2⟩ := hb
  refine ⟨_, fun X g => pe_ix (r := rV2 c.K c.w dSub) ?_ (a1 X g) (b1 X g) (plainIx_ok hy), (sf_two a2 b2 vo2).cg fun ρ => by rw [evE]⟩
  rw [← g.hK, ← g.hw]; exact ixr_sub (ixr_dc g.hu9)
def rCut (K : PySem.W.Frag) (w : World) : V → Option Int → Option Int → Hp → VK → Prop := fun x lo hi H Q => ∃ dx d Fy, Dn K w H Fy x dx [] ∧ dCut lo hi dx = some d ∧ After K w H Fy d Q
theorem ge_slc {lo hi : Ox} {xl xh : Option Expr} {p2 : Pos} (ha : GE c s a x) (hl : GO c s lo xl) (hh : GO c s hi xh) : GE c s (.slc a lo hi) (.Subscript x (.Slice xl xh none p2) pos) := by
  obtain ⟨ta, a1, a2⟩ := ha
  obtain ⟨tl, l1, l2⟩ := hl
  obtain ⟨th, h1, h2⟩ := hh
  refine ⟨_, fun X g => pe_slice (r := rCut c.K c.w) ?_ (a1 X g) (l1 X g) (h1 X g), (sf_slc a2 l2 h2 fun x dx lo hi H Fy d Q h e q => ⟨dx, d, Fy, h, e, q⟩).cg fun ρ => by rw [evE]⟩
  rw [← g.hK, ← g.hw]; exact slr_cut
theorem ge_tup {es : Exs} {xs : List Expr} {k} (h : GEs c s es xs) : GE c s (.tup es) (.Tuple xs k pos) := by
  obtain ⟨t, h1, h2⟩ := h
  exact ⟨_, fun X g => pe_tup (h1 X g), (sf_tup h2).cg fun ρ => by rw [evE]⟩
theorem ge_lst {es : Exs} {xs : List Expr} (h : GEs c s es xs) : GE c s (.lst es) (.List xs pos) := by
  obtain ⟨t, h1, h2⟩ := h
  exact ⟨_, fun X g => pe_lst (h1 X g), (sf_lst h2).cg fun ρ => by rw [evE]⟩
/-! arguments without a star -/
def noStar (x : Expr) : Bool := match x with
  | .Starred _ _ => false
  | _ => true
theorem star_one {x : Expr} (h : noStar x = true) (xs : List Expr) (env : Env) : starEach (x :: xs) env = (false, eval x env) :: starEach xs env := by
  cases x <;> first | (cases h; done) | rfl
theorem star_any : ∀ {xs : List Expr}, xs.all noStar = true → ∀ (env : Env) (pos : Pos), (backTo pos (starEach xs env)).any (·.1) = false
  | [], _, _, _ => rfl
  | x :: xs, h, env, pos => by
    simp only [List.all_cons, Bool.and_eq_true] at h
    rw [star_one h.1]
    exact star_any h.2 env pos
theorem ges_nil : GEs c s .nil [] := ⟨_, fun X g => pa_nil, sfs_nil.cg fun ρ => by rw [evEs]⟩
theorem ges_cons {es : Exs} {xs : List Expr} (ha : GE c s a x) (h : GEs c s es xs) (hx : noStar x = true) : GEs c s (.cons a es) (x :: xs) := by
  obtain ⟨ta, a1, a2⟩ := ha
  obtain ⟨t, h1, h2⟩ := h
  exact ⟨_, fun X g => pa_cons (a1 X g) (h1 X g) (star_one hx xs X.env), (sfs_cons a2 h2).cg fun ρ => by rw [evEs]⟩
theorem go_none : GO c s .none none := ⟨_, fun X g => po_none, sfo_none.cg fun ρ => by rw [evO]⟩
theorem go_some (ha : GE c s a x) : GO c s (.some a) (some x) := by
  obtain ⟨ta, a1, a2⟩ := ha
  exact ⟨_, fun X g => po_some (a1 X g), (sfo_some a2).cg fun ρ => by rw [evO]⟩
end
end Eng
namespace Eng
open PySem PySem.Spec PyProof.Rows L2 RT
section
variable {c : Cfg} {s : Sco} {a b d : Ex} {x y z : Expr} {i : Nat} {pos : Pos} {es : Exs} {xs : List Expr}
/-! ### and, or -/
def GAnd (c : Cfg) (s : Sco) (es : Exs) (xs : List Expr) (pos : Pos) : Prop := ∃ t, (∀ X, Gd c s X → PE X (.BoolOp .And xs pos) t) ∧ SF c.K c.w (evAndE c.S es) es.pure es.vars t
def GOr (c : Cfg) (s : Sco) (es : Exs) (xs : List Expr) (pos : Pos) : Prop := ∃ t, (∀ X, Gd c s X → PE X (.BoolOp .Or xs pos) t) ∧ SF c.K c.w (evOrE c.S es) es.pure es.vars t
def GAndT (c : Cfg) (s : Sco) (es : Exs) (xs : List Expr) (pos : Pos) : Prop := ∃ t, (∀ X, Gd c s X → PW X (.BoolOp .And xs pos) t) ∧ SFT c.K c.w (evAnd c.S es) es.pure t
def GOrT (c : Cfg) (s : Sco) (es : Exs) (xs : List Expr) (pos : Pos) : Prop := ∃ t, (∀ X, Gd c s X → PW X (.BoolOp .Or xs pos) t) ∧ SFT c.K c.w (evOr c.S es) es.pure t
theorem SF.pv {K : PySem.W.Frag} {w : World} {ev : Rho → Option (D × Rho)} {p q : Bool} {Vx Vy : List Nat} {t : TE} (h : SF K w ev p Vx t) (e : p = q) (hv : Vx = Vy) : SF K w ev q Vy t := by subst e; subst hv; exact h
theorem SFT.pv {K : PySem.W.Frag} {w : World} {ev : Rho → Option (Bool × Rho)} {p q : Bool} {t : TT} (h : SFT K w ev p t) (e : p = q) : SFT K w ev q t := by subst e; exact h
theorem one_p : (Exs.cons a .nil).pure = a.pure := by simp [Exs.pure]
theorem one_v : (Exs.cons a .nil).vars = a.vars := by simp [Exs.vars]
theorem gand_one (ha : GE c s a x) : GAnd c s (.cons a .nil) [x] pos := by
  obtain ⟨ta, a1, a2⟩ := ha
  exact ⟨_, fun X g => pe_one (a1 X g), (a2.pv one_p.symm one_v.symm).cg fun ρ => by rw [evAndE]; rfl⟩
theorem gor_one (ha : GE c s a x) : GOr c s (.cons a .nil) [x] pos := by
  obtain ⟨ta, a1, a2⟩ := ha
  exact ⟨_, fun X g => pe_one (a1 X g), (a2.pv one_p.symm one_v.symm).cg fun ρ => by rw [evOrE]; rfl⟩
theorem gandT_one (ha : GT c s a x) : GAndT c s (.cons a .nil) [x] pos := by
  obtain ⟨ta, a1, a2⟩ := ha
  refine ⟨_, fun X g => pw_and1 (a1 X g), (a2.pv one_p.symm).cg fun ρ => ?_⟩
  rw [evAnd]
  show (evT c.S a ρ).bind some = _
  cases evT c.S a ρ <;> rfl
theorem gorT_one (ha : GT c s a x) : GOrT c s (.cons a .nil) [x] pos := by
  obtain ⟨ta, a1, a2⟩ := ha
  refine ⟨_, fun X g => pw_or1 (a1 X g), (a2.pv one_p.symm).cg fun ρ => ?_⟩
  rw [evOr]
  show (evT c.S a ρ).bind some = _
  cases evT c.S a ρ <;> rfl
theorem gand_cons {ys : List Expr} (ha : GE c s a x) (hb : GAnd c s (.cons b es) (y :: ys) pos) : GAnd c s (.cons a (.cons b es)) (x :: y :: ys) pos := by
  obtain ⟨ta, a1, a2⟩ := ha
  obtain ⟨tb, b1, b2⟩ := hb
  exact ⟨_, fun X g => pe_and (a1 X g) (b1 X g), (sf_and a2 b2).cg fun ρ => by rw [evAndE]; rfl⟩
theorem gor_cons {ys : List Expr} (ha : GE c s a x) (hb : GOr c s (.cons b es) (y :: ys) pos) : GOr c s (.cons a (.cons b es)) (x :: y :: ys) pos := by
  obtain ⟨ta, a1, a2⟩ := ha
  obtain ⟨tb, b1, b2⟩ := hb
  exact ⟨_, fun X g => pe_or (a1 X g) (b1 X g), (sf_or a2 b2).cg fun ρ => by rw [evOrE]; rfl⟩
theorem gandT_cons {ys : List Expr} (ha : GT c s a x) (hb : GAndT c s (.cons b es) (y :: ys) pos) : GAndT c s (.cons a (.cons b es)) (x :: y :: ys) pos := by
  obtain ⟨ta, a1, a2⟩ := ha
  obtain ⟨tb, b1, b2⟩ := hb
  exact ⟨_, fun X g => pw_and (a1 X g) (b1 X g), (sft_and a2 b2).cg fun ρ => by rw [evAnd]; rfl⟩
theorem gorT_cons {ys : List Expr} (ha : GT c s a x) (hb : GOrT c s (.cons b es) (y :: ys) pos) : GOrT c s (.cons a (.cons b es)) (x :: y :: ys) pos := by
  obtain ⟨ta, a1, a2⟩ := ha
  obtain ⟨tb, b1, b2⟩ := hb
  exact ⟨_, fun X g => pw_or (a1 X g) (b1 X g), (sft_or a2 b2).cg fun ρ => by rw [evOr]; rfl⟩
theorem ge_and (h : GAnd c s es xs pos) : GE c s (.and es) (.BoolOp .And xs pos) := by
  obtain ⟨t, h1, h2⟩ := h
  exact ⟨_, h1, h2.cg fun ρ => by rw [evE]⟩
theorem ge_or (h : GOr c s es xs pos) : GE c s (.or es) (.BoolOp .Or xs pos) := by
  obtain ⟨t, h1, h2⟩ := h
  exact ⟨_, h1, h2.cg fun ρ => by rw [evE]⟩
theorem gt_and (h : GAndT c s es xs pos) : GT c s (.and es) (.BoolOp .And xs pos) := by
  obtain ⟨t, h1, h2⟩ := h
  exact ⟨_, fun X g => (h1 X g).pt, h2.cg fun ρ => by rw [evT]⟩
theorem gt_or (h : GOrT c s es xs pos) : GT c s (.or es) (.BoolOp .Or xs pos) := by
  obtain ⟨t, h1, h2⟩ := h
  exact ⟨_, fun X g => (h1 X g).pt, h2.cg fun ρ => by rw [evT]⟩
/-- kinds whose test is their value's truth -/
def truK : Ex → Bool
  | .var _ => true | .con _ => true | .glo _ => true | .bin _ _ _ => true | .sub _ _ => true | .call _ _ => true | .blt _ _ => true | .mth _ _ _ => true | .isi _ _ => true | .callIO _ _ _ => true
  | _ => false
theorem truK_ok {S : Sem0} {e : Ex} (h : truK e = true) (ρ : Rho) : evT S e ρ = (evE S e ρ).bind tru := by
  cases e <;> first | (cases h; done) | (rw [evT, evE])
theorem gt_tru (ha : GE c s a x) (h1 : truK a = true) (h2 : plainT x = true) : GT c s a x := by
  obtain ⟨ta, a1, a2⟩ := ha
  exact ⟨_, fun X g => by rw [← g.hK, ← g.hw]; exact pt_tru (a1 X g) h2, (sft_tru a2).cg fun ρ => truK_ok h1 ρ⟩
/-! ### calls -/
theorem allStar_cons (h : (x :: xs).all noStar = true) : noStar x = true ∧ xs.all noStar = true := by
  simpa only [List.all_cons, Bool.and_eq_true] using h
theorem ge_call (ok : c.Ok) {f : Str} {n : Nat} {p : Pos} (hf : c.fns.lookup f = some (n, [])) (h1 : glB s f = true) (h : GEs c s es (x :: xs)) (hs : (x :: xs).all noStar = true) : GE c s (.call f es) (.Call (.Name f p) (x :: xs) [] pos) := by
  obtain ⟨t, a1, a2⟩ := h
  obtain ⟨k1, k2⟩ := ok.call f n [] hf
  refine ⟨_, fun X g => C8.pe_c (k := c.n) (j := c.n) (sp := spD c.K c.w n [] (c.S.call f)) (dvs := []) ?_ g.room (Nat.le_refl _) (g.gl h1).1 (a1 X g) (dbg_ok (g.gl h1).2).1 (star_one (allStar_cons hs).1 xs X.env) (star_any (allStar_cons hs).2 X.env pos),
    (sf_many a2 (von_call (E := C8.E0) fun ds d outs e => ⟨(k2 ds d outs e).1, fun i => (k2 ds d outs e).2 i nno⟩)).cg fun ρ => by rw [evE]⟩
  rw [g.hP, g.hw, g.hK, g.hmg, g.hbase]
  exact k1
theorem ge_call0 (ok : c.Ok) {f : Str} {n : Nat} {p : Pos} (hf : c.fns.lookup f = some (n, [])) (h1 : glB s f = true) : GE c s (.call f .nil) (.Call (.Name f p) [] [] pos) := by
  obtain ⟨k1, k2⟩ := ok.call f n [] hf
  obtain ⟨fa, fd, ps, ds, F, hm, kp, b, dd⟩ := k1.ex
  refine ⟨_, fun X g => pe_call0 (k := c.n) (f := fa) (fd := fd) (ps := ps) (ds := ds) (dvs := []) (CX := C8.CX0) (E := C8.E0) (sp := spD c.K c.w n [] (c.S.call f)) ?_ g.room (g.gl h1).1 ?_ ?_ ?_ dd C8.pass0 (dbg_ok (g.gl h1).2).1,
    (sf_many (es := evEs c.S .nil) (ts := tNil) (pa := true) (Va := []) (sfs_nil.cg fun ρ => by rw [evEs]) (von_call (E := C8.E0) fun ds d outs e => ⟨(k2 ds d outs e).1, fun i => (k2 ds d outs e).2 i nno⟩)).cg fun ρ => by rw [evE]⟩
  · rw [g.hP, g.hw, g.hK, g.hmg, g.hbase]; exact F
  · rw [g.hmg]; exact hm
  · rw [g.hK]; exact kp
  · rw [g.hK]; exact b
/-! ### built-in calls -/
def Blt.nm : Blt → Str
  | .len => "len" | .int => "int" | .str => "str" | .list => "list" | .tuple => "tuple" | .sorted => "sorted" | .sortedSet => "sorted" | .lenSet => "len" | .dict => "dict" | .min => "min" | .max => "max" | .sum => "sum"
def Blt.ok : Blt → Bool
  | .len => true | .int => true | .str => true | .list => true | .tuple => true | .min => true | .max => true | .sorted => true
  | _ => false
theorem ge_blt (ok : c.Ok) {bb : Blt} {p : Pos} (hb : bb.ok = true) (h1 : glB s bb.nm = true) (h : GEs c s es (x :: xs)) (hs : (x :: xs).all noStar = true) : GE c s (.blt bb es) (.Call (.Name bb.nm p) (x :: xs) [] pos) := by
  obtain ⟨t, a1, a2⟩ := h
  refine ⟨tCB (rVN c.K c.w (dBlt bb)) t, fun X g => ?_, (sf_many a2 von).cg fun ρ => by rw [evE]⟩
  have e1 := star_one (allStar_cons hs).1 xs X.env
  have e2 := star_any (allStar_cons hs).2 X.env pos
  have gg := (g.gl h1).1
  have d1 := (dbg_ok (g.gl h1).2).1
  have d2 := (dbg_ok (g.gl h1).2).2.2
  rw [← g.hK, ← g.hw]
  cases bb <;> first | (cases hb; done) | skip
  · exact pe_callB (id := "len") (callr_len callr_dclen) gg (g.mg0 ok (by decide)) PySem.boot_len (a1 X g) d2 d1 e1 e2
  · exact pe_callTy (T := "int") callr_int gg (g.mg0 ok (by decide)) PyProof.Rows.boot_int (a1 X g) d2 d1 e1 e2
  · exact pe_callTy (T := "str") callr_str gg (g.mg0 ok (by decide)) PyProof.Rows.boot_str (a1 X g) d2 d1 e1 e2
  · exact pe_callTy (T := "list") (callr_list (callr_dclist g.calm)) gg (g.mg0 ok (by decide)) PyProof.Rows.boot_list (a1 X g) d2 d1 e1 e2
  · exact pe_callTy (T := "tuple") callr_tuple gg (g.mg0 ok (by decide)) PyProof.Rows.boot_tuple (a1 X g) d2 d1 e1 e2
  · exact pe_callB (id := "sorted") (callr_sorted g.hu g.calm) gg (g.mg0 ok (by decide)) PyProof.Rows.boot_sorted (a1 X g) d2 d1 e1 e2
  · exact pe_callB (id := "min") (callr_min g.calm) gg (g.mg0 ok (by decide)) PyProof.Rows.boot_min (a1 X g) d2 d1 e1 e2
  · exact pe_callB (id := "max") (callr_max g.calm) gg (g.mg0 ok (by decide)) PyProof.Rows.boot_max (a1 X g) d2 d1 e1 e2
/-- isinstance(a, T) -/
def Ty.nm : Ty → Str
  | .str => "str" | .int => "int" | .bool => "bool" | .tuple => "tuple" | .list => "list"
theorem ge_isi (ok : c.Ok) {ty : Ty} {p p2 : Pos} (h1 : glB s "isinstance" = true) (h2 : glB s ty.nm = true) (ha : GE c s a x) (hx : noStar x = true) : GE c s (.isi a ty) (.Call (.Name "isinstance" p) [x, .Name ty.nm p2] [] pos) := by
  obtain ⟨ta, a1, a2⟩ := ha
  refine ⟨_, fun X g => ?_, (sf_isi (r := fun xs H Q => ∃ x d Fy, xs = [x, .ty ty.py] ∧ Dn c.K c.w H Fy x d [] ∧ Q (.bl (dIsi ty d)) H) a2 fun x d H Fy Q h q => ⟨x, d, Fy, rfl, h, q⟩).cg fun ρ => by rw [evE]⟩
  have hT : PE X (.Name ty.nm p2) (tC (.ty ty.py)) := by
    have gg := (g.gl h2).1
    have d1 := (dbg_ok (g.gl h2).2).1
    have d2 := (dbg_ok (g.gl h2).2).2.2
    cases ty
    · exact pe_bltn gg (g.mg0 ok (by decide)) PyProof.Rows.boot_str rfl d2 d1
    · exact pe_bltn gg (g.mg0 ok (by decide)) PyProof.Rows.boot_int rfl d2 d1
    · exact pe_bltn gg (g.mg0 ok (by decide)) PyProof.Rows.boot_bool rfl d2 d1
    · exact pe_bltn gg (g.mg0 ok (by decide)) PyProof.Rows.boot_tuple rfl d2 d1
    · exact pe_bltn gg (g.mg0 ok (by decide)) PyProof.Rows.boot_list rfl d2 d1
  rw [← g.hK, ← g.hw]
  exact pe_callB (id := "isinstance") (callr_isi ty) (g.gl h1).1 (g.mg0 ok (by decide)) PyProof.Rows.boot_isinstance (pa_cons (a1 X g) (pa_cons hT pa_nil (star_one rfl _ _)) (star_one hx _ _)) (dbg_ok (g.gl h1).2).2.2 (dbg_ok (g.gl h1).2).1 (star_one hx _ _) rfl
/-! ### methods -/
def baseB (x : Expr) : Bool := match x with
  | .Call (.Name id _) [] [] _ => id != "super"
  | _ => true
theorem baseB_ok {x : Expr} (h : baseB x = true) (nm : Str) (env : Env) (w : Sem Value) : attributeBase x nm env w = w := by
  unfold attributeBase
  split
  · have h' := h
    unfold baseB at h'
    simp only at h'
    rw [h']
    rfl
  · rfl
theorem few_ok {x : Expr} {xs : List Expr} (hs : (x :: xs).all noStar = true) (hl : xs.length < 29) (env : Env) (cpos : Pos) : ((backTo cpos (starEach (x :: xs) env)).all (fun x => !x.1) && (backToKw cpos (keywordEach [] env)).all (fun x => x.1.isSome)
      && decide ((x :: xs).length + ([] : List Keyword).length + (if ([] : List Keyword).isEmpty then 0 else 1) < 30)) = true := by
  have h1 : (backTo cpos (starEach (x :: xs) env)).all (fun x => !x.1) = true := by
    rw [List.all_eq_not_any_not]
    have := star_any hs env cpos
    simp only [Bool.not_not, Bool.not_eq_true']
    exact this
  rw [h1]
  have h2 : decide ((x :: xs).length + ([] : List Keyword).length + (if ([] : List Keyword).isEmpty then 0 else 1) < 30) = true := by
    rw [decide_eq_true_eq]
    show xs.length + 1 + 0 + 0 < 30
    omega
  rw [h2]; rfl
def rMth (K : PySem.W.Frag) (w : World) (m : Mth) : V → List V → Hp → VK → Prop := fun x xs H Q => ∃ dx ds d Fy, Dn K w H Fy x dx [] ∧ DnL K w H Fy xs ds [] ∧ dMth m dx ds = some d ∧ After K w H Fy d Q
def Mth.nm : Mth → Str
  | .join => "join" | .split => "split" | .upper => "upper" | .replace => "replace" | .get => "get" | .index => "index" | .count => "count" | .values => "values"
theorem dJoin_str {dx : D} {ds : List D} {d : D} (h : dMth .join dx ds = some d) : ∃ z, dx = .str z ∧ un (dJoin z) ds = some d := by
  cases dx <;> first | (cases h; done) | exact ⟨_, rfl, h⟩
theorem dUp_str {dx : D} {ds : List D} {d : D} (h : dMth .upper dx ds = some d) : ∃ z, dx = .str z ∧ ds = [] ∧ z.length ≤ 5592405 ∧ d = .str (Txt.upper z) := by
  cases dx <;> first | (cases h; done) | skip
  cases ds with
  | nil =>
    obtain ⟨h1, h2⟩ := ifs (show (if decide (_ ≤ 5592405) = true then some (D.str (Txt.upper _)) else none) = some d from h)
    exact ⟨_, rfl, rfl, of_decide_eq_true h1, h2.symm⟩
  | cons _ _ => cases h
theorem mtr_joinD {X : Cx} : MtR X "str.join" (rMth X.K X.w .join) := fun pins s σ H x xs v us Q I rx rxs ⟨dx, ds, d, Fy, h1, h2, e, q⟩ => by
  obtain ⟨z, rfl, e⟩ := dJoin_str e
  cases h1
  exact mtr_join pins s σ H _ xs v us Q I rx rxs ⟨z, ds, d, Fy, rfl, h2, e, q⟩
theorem mtr_upD {X : Cx} : MtR X "str.upper" (rMth X.K X.w .upper) := fun pins s σ H x xs v us Q I rx rxs ⟨dx, ds, d, Fy, h1, h2, e, q⟩ => by
  obtain ⟨z, rfl, rfl, hz, rfl⟩ := dUp_str e
  cases h1
  have : xs = [] := by cases h2; rfl
  subst this
  exact mt_upper pins s σ H _ [] v us Q I rx rxs ⟨z, rfl, rfl, hz, q.str⟩
theorem Dn.typed {X : Cx} {pins : List (Addr × Obj)} {σ : L2.St} {H : Hp} {s : Shared} {x : V} {v : Value} {T : String} (I : Inv X pins σ H s) (rx : RelV x v) (h : tyR X.K X.w T x H) : s.TypeIs v T ∧ ∀ a, v = .ref a → ∃ ob, s.heap.get? a = some ob ∧ ob.dict = none := by
  obtain ⟨d, Fy, hd, ht⟩ := h
  cases d <;> first | (cases ht; done) | skip
  · cases of_decide_eq_true ht
    cases hd
    obtain ⟨t, rfl⟩ := rx
    exact ⟨typeIs_str s _ t, fun _ e => nomatch e⟩
  · cases of_decide_eq_true ht
    obtain ⟨a, vs, rfl, _, hq, _⟩ := hd.sqL
    cases rx
    obtain ⟨its, _, ⟨ob, n, e, c, e2, _⟩, _⟩ := I.list hq
    exact ⟨⟨ob, e, c⟩, fun b eb => by cases eb; exact ⟨ob, e, e2⟩⟩
  · cases of_decide_eq_true ht
    obtain ⟨a, ob, es, kn, rfl, e, k, _⟩ := hd.dict I
    cases rx
    exact ⟨⟨ob, e, k.ex.1⟩, fun b eb => by cases eb; exact ⟨ob, e, k.ex.2.1⟩⟩
theorem pe_bd0 {X : Cx} {o : Expr} {to : TE} {name : Str} {apos cpos : Pos} {T id : String} {r : V → List V → Hp → VK → Prop} (pa : PlainAttrs T) (slot : Slot T name id) (hty : typeOf (.builtin id) = pure (.type "method_descriptor")) (hm : MtR X id r) (ho : PE X o to)
    (hbase : attributeBase o name X.env (eval o X.env) = eval o X.env) (hline : (apos.endLine == cpos.line) = true) : PE X (.Call (.Attribute o name apos) [] [] cpos) (tBD X.K X.w T r to tNil) := by
  refine ⟨fun pins s σ H Q I h => wpAny_Call_method0_late hbase hline (thn (ho.run pins s σ H _ I h) fun v s1 ⟨x, H1, I1, r1, ty, q1⟩ => ?_)⟩
  obtain ⟨h1, h2⟩ := Dn.typed I1 r1 ty
  exact ⟨T, id, pa, slot, hty, h1, h2, Calls.callWith_builtin rfl (PySem.evalArgs_none (hm pins s1 σ H1 x [] v [] Q I1 r1 .nil q1))⟩
theorem pe_bd {X : Cx} {o e : Expr} {es : List Expr} {to : TE} {t : TA} {name : Str} {apos cpos : Pos} {T id : String} {r : V → List V → Hp → VK → Prop} (pa : PlainAttrs T) (slot : Slot T name id) (hty : typeOf (.builtin id) = pure (.type "method_descriptor")) (hm : MtR X id r) (ho : PE X o to) (ha : PA X (e :: es) t)
    (hbase : attributeBase o name X.env (eval o X.env) = eval o X.env) (hs : (e :: es).all noStar = true) (hl : es.length < 29) (hline : (apos.endLine == cpos.line) = true) : PE X (.Call (.Attribute o name apos) (e :: es) [] cpos) (tBD X.K X.w T r to t) := by
  refine ⟨fun pins s σ H Q I h => wpAny_Call_method_late hbase (few_ok hs hl X.env cpos) hline rfl (thn (ho.run pins s σ H _ I h) fun v s1 ⟨x, H1, I1, r1, ty, q1⟩ => ?_)⟩
  obtain ⟨h1, h2⟩ := Dn.typed I1 r1 ty
  refine ⟨T, id, pa, slot, hty, h1, h2, ?_⟩
  have hA := ha.run cpos pins s1 σ H1 _ I1 q1
  rw [star_one (allStar_cons hs).1] at hA ⊢
  refine Calls.callWith_builtin (by show (false || (backTo cpos (starEach es X.env)).any (·.1)) = false; rw [star_any (allStar_cons hs).2, Bool.or_false]) (Calls.evalArgs_plain ?_)
  exact thn hA fun us s2 ⟨vs, H2, I2, r2, q2⟩ => hm pins s2 σ H2 x vs v us Q I2 r1 r2 q2
theorem and2 {a b : Bool} (h : (a && b) = true) : a = true ∧ b = true := by simpa only [Bool.and_eq_true] using h
theorem findIdx_some {α : Type} {p : α → Bool} : ∀ {xs : List α} {j : Nat}, xs.findIdx? p = some j → (∃ z, xs[j]? = some z ∧ p z = true) ∧ ∀ m z, m < j → xs[m]? = some z → p z = false
  | xs, j, h => by
    have h' := List.findIdx?_eq_some_iff_getElem.mp h
    obtain ⟨hj, h1, h2⟩ := h'
    refine ⟨⟨xs[j], List.getElem?_eq_getElem hj, h1⟩, fun m z hm hz => ?_⟩
    obtain ⟨hl, rfl⟩ := List.getElem?_eq_some_iff.mp hz
    simpa using h2 m hm
theorem mtr_index {X : Cx} (hu : X.A.units + 65 < cLine) : MtR X "list.index" (rMth X.K X.w .index) := fun pins s σ H x xs v us Q I rx rxs ⟨dx, ds, d, Fy, h1, h2, e, q⟩ => by
  cases dx <;> first | (cases e; done) | skip
  rename_i o ys
  match ds, h2, e with
  | [], _, e => cases e
  | _ :: _ :: _, _, e => cases e
  | [dy], h2, e =>
    obtain ⟨y, rfl, h3⟩ := h2.one1
    change dIndex ys dy = some d at e
    unfold dIndex at e
    by_cases hs : (shp dy && shp (.lst false ys)) = true
    · rw [if_pos hs] at e
      obtain ⟨s1, s2⟩ := and2 hs
      obtain ⟨j, e1, e2⟩ := Option.map_eq_some_iff.mp e
      subst e2
      obtain ⟨⟨z, f1, f2⟩, f3⟩ := findIdx_some e1
      obtain ⟨a, vs, rfl, _, _, _⟩ := h1.sqL
      refine mt_indexD hu pins s σ H _ [y] v us Q I rx rxs ⟨a, y, dy.py, pyL ys, j, z.py, rfl, rfl, h1.dps s2, h3.dps s1, s2, s1, ?_, f2, fun m z' hm hz => ?_, q.int⟩
      · rw [pyL_map, List.getElem?_map, f1]; rfl
      · rw [pyL_map, List.getElem?_map] at hz
        cases hh : ys[m]? with
        | none => rw [hh] at hz; cases hz
        | some z2 => rw [hh] at hz; cases hz; exact f3 m z2 hm hh
    · rw [if_neg hs] at e; cases e
theorem dIndex_lst {dx : D} {ds : List D} {d : D} (h : dMth .index dx ds = some d) : ∃ o xs, dx = .lst o xs := by
  cases dx <;> first | (cases h; done) | exact ⟨_, _, rfl⟩
/-- the methods with arguments: the type that has them, the built-in -/
def Mth.argd : Mth → Bool
  | .join => true | .index => true
  | _ => false
theorem ge_mth {m : Mth} {p2 : Pos} (ha : GE c s a x) (h : GEs c s es (y :: xs)) (hm : m.argd = true) (hs : (y :: xs).all noStar = true) (hl : xs.length < 29) (hb : baseB x = true) (hline : (p2.endLine == pos.line) = true) : GE c s (.mth m a es) (.Call (.Attribute x m.nm p2) (y :: xs) [] pos) := by
  obtain ⟨ta, a1, a2⟩ := ha
  obtain ⟨t, e1, e2⟩ := h
  cases m <;> first | (cases hm; done) | skip
  · refine ⟨tBD c.K c.w "str" (rMth c.K c.w .join) ta t, fun X g => ?_, (sf_meth a2 e2 (fun x dx ds d H Fy hx e => ?_) fun x dx xs ds H Fy d Q h1 h2 e q => ⟨dx, ds, d, Fy, h1, h2, e, q⟩).cg fun ρ => by rw [evE]⟩
    · rw [← g.hK, ← g.hw]
      exact pe_bd F.plainAttrs_str F.slot_str_join F.type_str_join mtr_joinD (a1 X g) (e1 X g) (baseB_ok hb _ _ _) hs hl hline
    · obtain ⟨z, rfl, _⟩ := dJoin_str e
      rfl
  · refine ⟨tBD c.K c.w "list" (rMth c.K c.w .index) ta t, fun X g => ?_, (sf_meth a2 e2 (fun x dx ds d H Fy hx e => ?_) fun x dx xs ds H Fy d Q h1 h2 e q => ⟨dx, ds, d, Fy, h1, h2, e, q⟩).cg fun ρ => by rw [evE]⟩
    · rw [← g.hK, ← g.hw]
      exact pe_bd F.plainAttrs_list F.slot_list_index F.type_list_index (mtr_index g.hu) (a1 X g) (e1 X g) (baseB_ok hb _ _ _) hs hl hline
    · obtain ⟨o, xs, rfl⟩ := dIndex_lst e
      rfl
theorem ge_up {p2 : Pos} (ha : GE c s a x) (hb : baseB x = true) (hline : (p2.endLine == pos.line) = true) : GE c s (.mth .upper a .nil) (.Call (.Attribute x "upper" p2) [] [] pos) := by
  obtain ⟨ta, a1, a2⟩ := ha
  refine ⟨tBD c.K c.w "str" (rMth c.K c.w .upper) ta tNil, fun X g => ?_, ((sf_meth (pb := true) (Vb := []) a2 (es := evEs c.S .nil) (ts := tNil) (sfs_nil.cg fun ρ => by rw [evEs]) (fun x dx ds d H Fy hx e => ?_) fun x dx xs ds H Fy d Q h1 h2 e q => ⟨dx, ds, d, Fy, h1, h2, e, q⟩).cg fun ρ => by rw [evE]; rfl)⟩
  · rw [← g.hK, ← g.hw]
    exact pe_bd0 F.plainAttrs_str F.slot_str_upper F.type_str_upper mtr_upD (a1 X g) (baseB_ok hb _ _ _) hline
  · obtain ⟨z, rfl, _⟩ := dUp_str e
    rfl
end
end Eng
namespace Eng
open PySem PySem.Spec PyProof.Rows L2 RT
section
variable {c : Cfg} {s : Sco} {a b d : Ex} {x y z tg : Expr} {nm : Str} {i : Nat} {pos : Pos} {es : Exs} {xs : List Expr}
/-! ### a clause's test -/
theorem gc_none : GC c s .none [] := by
  refine ⟨_, fun X g => pts_nil, SFT.cg (ev' := fun ρ => some (true, ρ)) (fun ρ σ H F M b ρ' Q R h q => ?_) fun ρ => by rw [evC]⟩
  cases h
  exact q H F (Aft.refl R)
theorem gc_some (ha : GT c s a x) : GC c s (.some a) [x] := by
  obtain ⟨t, a1, a2⟩ := ha
  exact ⟨_, fun X g => pts_one (a1 X g), a2.cg fun ρ => by rw [evC]⟩
/-! ### targets -/
theorem gg_nm (h1 : slot s i nm = true) (h2 : locB s nm = true) : GG c s (.nm i) (.Name nm pos) :=
  ⟨_, fun X g => pg_name g.nd (g.slot h1) (g.loc h2).1 (g.loc h2).2, bt_nm i⟩
def okNs (s : Sco) : List Nat → List Expr → Bool
  | [], [] => true
  | i :: is, .Name nm _ :: xs => slot s i nm && locB s nm && okNs s is xs
  | _, _ => false
theorem okNs_ok {X : Cx} (g : Gd c s X) : ∀ {is : List Nat} {xs : List Expr}, okNs s is xs = true → PGs X xs (gNames is) ∧ (assignEach xs X.env).length = is.length ∧ ∀ q ∈ assignEach xs X.env, q.1 = false
  | [], [], _ => ⟨pgs_nil, rfl, fun _ => nno⟩
  | [], _ :: _, h => by cases h
  | _ :: _, [], h => by cases h
  | i :: is, x :: xs, h => by
    cases x <;> first | (cases h; done) | skip
    rename_i nm p
    simp only [okNs, Bool.and_eq_true] at h
    obtain ⟨k1, k2, k3⟩ := okNs_ok g h.2
    exact ⟨pgs_cons (pg_name g.nd (g.slot h.1.1) (g.loc h.1.2).1 (g.loc h.1.2).2) k1, congrArg Nat.succ k2, fun q hq => (List.mem_cons.mp hq).elim (fun e => by rw [e]) (k3 q)⟩
theorem gg_tp {is : List Nat} {xs : List Expr} {k : Nat} (h : okNs s is xs = true) : GG c s (.tp is) (.Tuple xs k pos) := by
  refine ⟨_, fun X g => ?_, bt_tp is⟩
  obtain ⟨k1, k2, k3⟩ := okNs_ok g h
  rw [← g.hK]
  exact pg_tup g.calm k1 k2 (List.findIdx?_eq_none_iff.mpr k3)
/-! ### what is walked -/
def noSet (x : Expr) : Bool := match x with
  | .Set _ _ _ => false
  | _ => true
theorem noSet_ok {x : Expr} (h : noSet x = true) (env : Env) (v : Value) : foldedSetIterable x env v = pure v := by
  cases x <;> first | (cases h; done) | rfl
theorem gi_of (ha : GE c s a x) (h : noSet x = true) : GI c s (.of a) tg x := by
  obtain ⟨t, a1, a2⟩ := ha
  exact ⟨_, fun X g => by rw [← g.hK]; exact pi_of (a1 X g), (sfi_of a2).cg fun ρ => by rw [evI], noSet_ok h⟩
theorem gi_enum (ok : c.Ok) {p tpos : Pos} {elts : List Expr} {kk : Nat} (h1 : glB s "enumerate" = true) (ha : GE c s a x) (hx : noStar x = true) : GI c s (.enum a) (.Tuple elts kk tpos) (.Call (.Name "enumerate" p) [x] [] pos) := by
  obtain ⟨t, a1, a2⟩ := ha
  exact ⟨_, fun X g => by rw [← g.hK]; exact pi_enumS (g.gl h1).1 (g.mg0 ok (by decide)) (pa_cons (a1 X g) pa_nil (star_one hx _ _)) (star_one hx _ _), (sfi_enum a2).cg fun ρ => by rw [evI], noSet_ok rfl⟩
theorem gi_rev (ok : c.Ok) {p : Pos} (h1 : glB s "reversed" = true) (ha : GE c s a x) (hx : noStar x = true) : GI c s (.rev a) tg (.Call (.Name "reversed" p) [x] [] pos) := by
  obtain ⟨t, a1, a2⟩ := ha
  exact ⟨_, fun X g => by rw [← g.hK]; exact pi_revA (g.gl h1).1 (g.mg0 ok (by decide)) (a1 X g) (star_one hx _ _), (sfi_rev a2).cg fun ρ => by rw [evI], noSet_ok rfl⟩
theorem gi_zip (ok : c.Ok) {p tpos : Pos} {elts : List Expr} {kk : Nat} (h1 : glB s "zip" = true) (ha : GE c s a x) (hb : GE c s b y) (hx : noStar x = true) (hy : noStar y = true) : GI c s (.zip a b) (.Tuple elts kk tpos) (.Call (.Name "zip" p) [x, y] [] pos) := by
  obtain ⟨ta, a1, a2⟩ := ha
  obtain ⟨tb, b1, b2⟩ := hb
  refine ⟨_, fun X g => by rw [← g.hK]; exact pi_zip (g.gl h1).1 (g.mg0 ok (by decide)) (pa_cons (a1 X g) (pa_cons (b1 X g) pa_nil (star_one hy _ _)) (star_one hx _ _)) (star_one hx _ _) (star_any (by simp [hy]) _ _), (sfi_zip a2 b2).cg fun ρ => by rw [evI], noSet_ok rfl⟩
/-! range -/
theorem evEs_len {S : Sem0} : ∀ (es : Exs) (ρ ρ' : Rho) (ds : List D), evEs S es ρ = some (ds, ρ') → ds.length = es.toList.length
  | .nil, ρ, ρ', ds, h => by rw [evEs] at h; cases h; rfl
  | .cons e es, ρ, ρ', ds, h => by
    rw [evEs] at h
    obtain ⟨p, e1, h⟩ := Option.bind_eq_some_iff.mp h
    obtain ⟨_, h⟩ := chk_some h
    obtain ⟨q, e2, h⟩ := Option.map_eq_some_iff.mp h
    cases h
    show q.1.length + 1 = es.toList.length + 1
    rw [evEs_len es _ q.2 q.1 e2]
section
variable {K : PySem.W.Frag} {w : World} {ev : Rho → Option (List D × Rho)} {p : Bool} {Vx : List Nat} {ts : TA}
theorem sfi_rng1 (hs : SFs K w ev p Vx ts) (hl : ∀ ρ ds ρ', ev ρ = some (ds, ρ') → ds.length = 1) : SFI K w (fun ρ => (ev ρ).bind fun q => (rangeDs q.1).map fun ds => (ds, true, q.2)) p Vx (iRng1 ts) := by
  intro ρ σ H F M ds c ρ' R Rp h q
  obtain ⟨⟨d, ρ1⟩, e1, h⟩ := Option.bind_eq_some_iff.mp h
  obtain ⟨ds', e2, h⟩ := Option.map_eq_some_iff.mp h
  cases h
  have hlen := hl _ _ _ e1
  refine hs ρ σ H F M d ρ1 _ Rp e1 fun vs H1 F1 T A hd => ?_
  rcases rangeDs_some (show rangeDs d = some ds from e2) with ⟨b, rfl, e⟩ | ⟨a, b, rfl, e⟩ | ⟨a, b, c, rfl, e⟩
  · obtain ⟨hb, rfl⟩ := rangeD_some e
    cases hd with
    | cons h1 h2 =>
      cases h1; cases h2
      refine ⟨b, rfl, hb.2.2.1, hb.2.2.2.1, Aft.walkAny (Vx := Vx) (fun Fy => ?_) A q⟩
      rw [div1]
      exact walkD_range
  · simp at hlen
  · simp at hlen
theorem sfi_rng2 (hs : SFs K w ev p Vx ts) (hl : ∀ ρ ds ρ', ev ρ = some (ds, ρ') → ds.length = 2) : SFI K w (fun ρ => (ev ρ).bind fun q => (rangeDs q.1).map fun ds => (ds, true, q.2)) p Vx (iRng2 ts) := by
  intro ρ σ H F M ds c ρ' R Rp h q
  obtain ⟨⟨d, ρ1⟩, e1, h⟩ := Option.bind_eq_some_iff.mp h
  obtain ⟨ds', e2, h⟩ := Option.map_eq_some_iff.mp h
  cases h
  have hlen := hl _ _ _ e1
  refine hs ρ σ H F M d ρ1 _ Rp e1 fun vs H1 F1 T A hd => ?_
  rcases rangeDs_some (show rangeDs d = some ds from e2) with ⟨b, rfl, e⟩ | ⟨a, b, rfl, e⟩ | ⟨a, b, c, rfl, e⟩
  · simp at hlen
  · obtain ⟨hb, rfl⟩ := rangeD_some e
    cases hd with
    | cons h1 h2 =>
      cases h1
      cases h2 with
      | cons h3 h4 =>
        cases h3; cases h4
        refine ⟨a, b, rfl, ⟨hb.1, hb.2.1, hb.2.2.1, hb.2.2.2.1⟩, Aft.walkAny (Vx := Vx) (fun Fy => ?_) A q⟩
        rw [div1']
        exact walkD_range
  · simp at hlen
theorem sfi_rng3 (hs : SFs K w ev p Vx ts) (hl : ∀ ρ ds ρ', ev ρ = some (ds, ρ') → ds.length = 3) : SFI K w (fun ρ => (ev ρ).bind fun q => (rangeDs q.1).map fun ds => (ds, true, q.2)) p Vx (iRng3 ts) := by
  intro ρ σ H F M ds c ρ' R Rp h q
  obtain ⟨⟨d, ρ1⟩, e1, h⟩ := Option.bind_eq_some_iff.mp h
  obtain ⟨ds', e2, h⟩ := Option.map_eq_some_iff.mp h
  cases h
  have hlen := hl _ _ _ e1
  refine hs ρ σ H F M d ρ1 _ Rp e1 fun vs H1 F1 T A hd => ?_
  rcases rangeDs_some (show rangeDs d = some ds from e2) with ⟨b, rfl, e⟩ | ⟨a, b, rfl, e⟩ | ⟨a, b, c, rfl, e⟩
  · simp at hlen
  · simp at hlen
  · obtain ⟨hb, rfl⟩ := rangeD_some e
    cases hd with
    | cons h1 h2 =>
      cases h1
      cases h2 with
      | cons h3 h4 =>
        cases h3
        cases h4 with
        | cons h5 h6 =>
          cases h5; cases h6
          exact ⟨a, b, c, _, rfl, rgc_up hb, Aft.walkAny (Vx := Vx) (fun Fy => walkD_rangeC) A q⟩
end
theorem gi_range (ok : c.Ok) {p : Pos} (h1 : glB s "range" = true) (h : GEs c s es xs) (hs : xs.all noStar = true) (hl : es.toList.length = xs.length) (hn : 1 ≤ xs.length ∧ xs.length ≤ 3) : GI c s (.range es) tg (.Call (.Name "range" p) xs [] pos) := by
  obtain ⟨t, a1, a2⟩ := h
  have ln : ∀ ρ ds ρ', evEs c.S es ρ = some (ds, ρ') → ds.length = xs.length := fun ρ ds ρ' e => by rw [evEs_len es _ _ _ e, hl]
  match xs, hs, hl, hn with
  | [x], hs, _, _ =>
    exact ⟨_, fun X g => pi_range1 (g.gl h1).1 (g.mg0 ok (by decide)) (a1 X g) (star_one (allStar_cons hs).1 _ _), (sfi_rng1 a2 ln).cg fun ρ => by rw [evI], noSet_ok rfl⟩
  | [x, y], hs, _, _ =>
    have hy := (allStar_cons (allStar_cons hs).2).1
    exact ⟨_, fun X g => pi_range2 (g.gl h1).1 (g.mg0 ok (by decide)) (a1 X g) (by rw [star_one (allStar_cons hs).1, star_one hy]; rfl) (star_one hy _ _), (sfi_rng2 a2 ln).cg fun ρ => by rw [evI], noSet_ok rfl⟩
  | [x, y, z], hs, _, _ =>
    have hy := (allStar_cons (allStar_cons hs).2).1
    have hz := (allStar_cons (allStar_cons (allStar_cons hs).2).2).1
    refine ⟨_, fun X g => pi_range3 (g.gl h1).1 (g.mg0 ok (by decide)) (a1 X g) ?_ ?_, (sfi_rng3 a2 ln).cg fun ρ => by rw [evI], noSet_ok rfl⟩
    · first | exact star_one (allStar_cons hs).1 _ _ | (rw [star_one (allStar_cons hs).1, star_one hy, star_one hz]; rfl)
    · first | exact star_any (allStar_cons hs).2 _ _ | (rw [star_one hy, star_one hz]; rfl)
  | [], _, _, hn => exact absurd hn.1 (by decide)
  | _ :: _ :: _ :: _ :: _, _, _, hn => exact absurd hn.2 (by simp)
/-! ### a comprehension -/
def relabelS (scope sc : Scope) : Scope :=
  { scope with names := scope.names.map fun (n, k) => if (k == .free && sc.kind == .function && sc.names.lookup n == some .cell) then (n, .cell) else (n, k) }
def inS (s : Sco) (scope : Scope) : Sco := ⟨relabelS scope s.sc, fun x => scope.names.lookup x == some .cell, s.N⟩
theorem Gd.blk {X : Cx} (g : Gd c s X) (s' : Shared) (H : Hp) (scope : Scope) (C : Addr) (cl : List (Str × Addr)) (fp : List Addr) : Gd c (inS s scope) (X.blk s' H scope (compEnvC scope cl C X.env) fp) := by
  refine ⟨g.hP, g.hw, g.hK, g.hmg, g.hbase, g.hN, ?_, rfl, g.calm, g.room, g.nd⟩
  show relabel scope X.env = relabelS scope s.sc
  rw [← g.hsc]
  rfl
def ownOf (s : Sco) (is : List Nat) : List (Str × Nat) := is.map fun i => ((s.N[i]?).getD "", i)
theorem ownOf_snd (s : Sco) (is : List Nat) : (ownOf s is).map (·.2) = is := by
  unfold ownOf
  rw [List.map_map]
  exact List.map_id _
theorem ge_comp {e : Ex} {t : Tgt} {it : Eng.Itr} {o : Ox} {elt iter : Expr} {ifs : List Expr} {scope : Scope} (hI : GI c s it tg iter) (hg : GG c (inS s scope) t tg) (hc : GC c (inS s scope) o ifs) (he : GE c (inS s scope) e elt)
    (hb : blkC s.N s.sc scope (ownOf s t.slots) = true) : GE c s (.comp e t it o) (.ListComp elt [⟨tg, iter, ifs, 0⟩] scope pos) := by
  obtain ⟨wi, i1, i2, i3⟩ := hI
  obtain ⟨g, g1, g2⟩ := hg
  obtain ⟨tt, t1, t2⟩ := hc
  obtain ⟨te, e1, e2⟩ := he
  refine ⟨tLc wi g tt te t.slots, fun X gd => ?_, ((sf_comp (Vc := o.vars) i2 t2 e2 g2).pv ?_ ?_).cg fun ρ => by rw [evE]⟩
  · have ok : BlkOk X.N X.env.scope scope (ownOf s t.slots) := by
      rw [gd.hN, gd.hsc]
      exact blkOk_by hb
    have := pe_lc (pos := pos) gd.calm gd.nd (i1 X gd) ok (fun s' H C cl fp => g1 _ (gd.blk s' H scope C cl fp)) (fun s' H C cl fp => t1 _ (gd.blk s' H scope C cl fp)) (fun s' H C cl fp => e1 _ (gd.blk s' H scope C cl fp)) (i3 X.env)
    rw [ownOf_snd] at this
    exact this
  · rw [Ex.pure]
  · rw [Ex.vars]
end
end Eng
namespace Eng
open PySem PySem.Spec PyProof.Rows L2 RT
/-! ### a built-in call of a built-in call -/
section
variable {X : Cx} {f g : Str} {fid T : String} {r : List V → Hp → VK → Prop} {y : Expr} {t : TA} {p p2 q pos : Pos}
theorem pe_nest (step : ∀ (pins : List (Addr × Obj)) (s : Shared) (σ : L2.St) (H : Hp) (vs : List V) (us : List Value) (Q : VK), Inv X pins σ H s → Vals vs us → r vs H Q →
      wpAny (model X.prog X.w) X.A (call (.type T) us) (fun v s1 => wpAny (model X.prog X.w) X.A (call (.builtin fid) [v]) (EP X pins σ Q) X.xe s1) X.xe s)
    (hg : Gl X f) (hm : X.mg f = none) (hv : bootBuiltins f = some (.builtin fid)) (hg2 : Gl X g) (hm2 : X.mg g = none) (hv2 : bootBuiltins g = some (.type T)) (ha : PA X [y] t)
    (n1 : f ≠ "__name__") (n2 : (f == ("__debug__" : Str)) = false) (n3 : g ≠ "__name__") (n4 : (g == ("__debug__" : Str)) = false) (ny : starEach [y] X.env = (false, eval y X.env) :: starEach [] X.env) :
    PE X (.Call (.Name f p) [.Call (.Name g p2) [y] [] q] [] pos) (tCB r t) := by
  refine ⟨fun pins s σ H Q I h => ?_⟩
  refine wpAny_Call_Name_kw (ld_blt I hg hm hv ?_ n1 n2)
  refine PyProof.Rows.callWith_builtin1 (PyProof.Rows.args_cons ?_ rfl) rfl rfl
  refine wpAny_Call_Name_kw (ld_blt I hg2 hm2 hv2 ?_ n3 n4)
  refine PyProof.Rows.callWith_type1 (thn (ha.run q pins s σ H _ I h) fun us s1 ⟨vs, H1, I1, r1, q1⟩ => ?_) ny rfl
  exact wpAny_mono (step pins s1 σ H1 vs us Q I1 r1 q1) (fun v s2 h2 => PyProof.Rows.args_nil h2) fun _ _ z => z
end
def Blt.nest : Blt → Option (Str × Str)
  | .sortedSet => some ("sorted", "set")
  | _ => none
section
variable {c : Cfg} {s : Sco} {es : Exs} {y : Expr} {p p2 q pos : Pos}
theorem ge_nest (ok : c.Ok) {bb : Blt} {f g : Str} (hb : bb.nest = some (f, g)) (h1 : glB s f = true) (h2 : glB s g = true) (h : GEs c s es [y]) (hs : noStar y = true) : GE c s (.blt bb es) (.Call (.Name f p) [.Call (.Name g p2) [y] [] q] [] pos) := by
  obtain ⟨t, a1, a2⟩ := h
  refine ⟨tCB (rVN c.K c.w (dBlt bb)) t, fun X gd => ?_, (sf_many a2 von).cg fun ρ => by rw [evE]⟩
  have d1 := (dbg_ok (gd.gl h1).2)
  have d2 := (dbg_ok (gd.gl h2).2)
  rw [← gd.hK, ← gd.hw]
  cases bb <;> first | (cases hb; done) | skip
  · cases hb
    exact pe_nest (fid := "sorted") (T := "set") (sset_step gd.hu gd.calm) (gd.gl h1).1 (gd.mg0 ok (by decide)) PyProof.Rows.boot_sorted (gd.gl h2).1 (gd.mg0 ok (by decide)) PyProof.Rows.boot_set (a1 X gd) d1.2.2 d1.1 d2.2.2 d2.1 (star_one hs _ _)
end
end Eng
namespace Eng
open PySem PySem.Spec PyProof.Rows L2 RT
section
variable {K : PySem.W.Frag} {w : World} {H : Hp} {Fy : Addr → Prop} {M : Addr → Prop} {ρ : Rho} {σ : L2.St} {F : Foot}
/-! ### pop: a list's item taken out -/
theorem DnL.take1 : ∀ {vs : List V} {ds : List D} {S : List Addr} {j : Nat}, DnL K w H Fy vs ds S → j < ds.length → ∃ v d S1 S2 S3, vs[j]? = some v ∧ ds[j]? = some d ∧ Dn K w H Fy v d S2 ∧ S = S1 ++ (S2 ++ S3) ∧ DnL K w H Fy (vs.eraseIdx j) (ds.eraseIdx j) (S1 ++ S3)
  | _, _, _, _, .nil, h => by simp at h
  | _, _, _, 0, .cons (v := v) (d := d) (S := S2) (S' := S3) h r, _ => ⟨v, d, [], S2, S3, rfl, rfl, h, rfl, r⟩
  | _, _, _, j + 1, .cons (S := S0) h r, hl => by
    obtain ⟨v, d, S1, S2, S3, e1, e2, hd, eS, g⟩ := DnL.take1 (j := j) r (by simpa using hl)
    refine ⟨v, d, S0 ++ S1, S2, S3, by simpa using e1, by simpa using e2, hd, by rw [eS, List.append_assoc], ?_⟩
    have := DnL.cons h g
    rw [List.append_assoc]
    exact this
/-- what an owned list at a slot is -/
theorem Rep.ownL {i : Nat} {xs : List D} (R : Rep K w H M ρ σ F) (e : get0 ρ i = some (.lst true xs)) : ∃ a vs S', σ[i]? = some (some (.ref a)) ∧ H a = some (.lst vs) ∧ F i = a :: S' ∧ DnL K w H (Fz M F) vs xs S' := by
  obtain ⟨v, ev, hd⟩ := R.den i _ e
  generalize hS : F i = S at hd
  cases hd with
  | @lstO a vs ds S' h r => exact ⟨a, vs, S', ev, h, rfl, r⟩
theorem Carry.at {H : Hp} {a : Addr} {o : HO} {xs : List V} {Fy Fy' : Addr → Prop} {S : List Addr} (h : H a = some (.lst xs)) (f : ∀ b o', H b = some o' → Fy b → b ≠ a ∧ Fy' b) (g : a ∉ S) : Carry H (upd H a o) Fy Fy' S :=
  ⟨fun b ys r => by
    have hb : b ≠ a := fun e => by subst e; rcases r with r | ⟨_, r⟩ <;> (rw [h] at r; cases r)
    exact r.imp (fun r => by rw [upd_ne hb]; exact r) fun ⟨o', r⟩ => ⟨o', by rw [upd_ne hb]; exact r⟩,
   fun b o' e z => ⟨by rw [upd_ne (f b o' e z).1]; exact e, (f b o' e z).2⟩,
   fun b o' e hb => by rw [upd_ne (show b ≠ a from fun z => g (z ▸ hb))]; exact e⟩
theorem Rep.updN {a : Addr} {o o' : HO} (R : Rep K w H M ρ σ F) (h : H a = some o') (nt : ∀ xs, ¬ Rd H a (.tup xs)) (m : M a) : Rep K w (upd H a o) M ρ σ F := by
  have ne : ∀ b, ¬ M b → b ≠ a := fun b hb e => hb (e ▸ m)
  refine ⟨R.len, fun i d e => ?_, R.un, R.nd, R.dis, R.hM, fun b mb => ?_⟩
  · obtain ⟨v, ev, hd⟩ := R.den i d e
    refine ⟨v, ev, hd.carry ⟨fun b xs q => ?_, fun b o' q f => ⟨by rw [upd_ne (ne b f.1)]; exact q, f⟩, fun b o' q hb => by rw [upd_ne (ne b (R.hM i b hb))]; exact q⟩⟩
    have hb : b ≠ a := fun e => by subst e; exact nt xs q
    exact q.imp (fun q => by rw [upd_ne hb]; exact q) fun ⟨o', q⟩ => ⟨o', by rw [upd_ne hb]; exact q⟩
  · by_cases e : b = a
    · subst e; rw [upd_same]; exact fun z => by cases z
    · rw [upd_ne e]; exact R.dom b mb
theorem Carry.atR {H : Hp} {a : Addr} {o o1 : HO} {Fy Fy' : Addr → Prop} {S : List Addr} (nt : ∀ xs, ¬ Rd H a (.tup xs)) (f : ∀ b o', H b = some o' → Fy b → b ≠ a ∧ Fy' b) (g : a ∉ S) : Carry H (upd H a o) Fy Fy' S :=
  ⟨fun b ys r => by
    have hb : b ≠ a := fun e => by subst e; exact nt ys r
    exact r.imp (fun r => by rw [upd_ne hb]; exact r) fun ⟨o', r⟩ => ⟨o', by rw [upd_ne hb]; exact r⟩,
   fun b o' e z => ⟨by rw [upd_ne (f b o' e z).1]; exact e, (f b o' e z).2⟩,
   fun b o' e hb => by rw [upd_ne (show b ≠ a from fun z => g (z ▸ hb))]; exact e⟩
theorem set_set {α : Type} {l : List α} {i : Nat} {x y : α} : (l.set i x).set i y = l.set i y := List.set_set ..
theorem set_id {α : Type} {l : List α} {i : Nat} {x : α} (h : l[i]? = some x) : l.set i x = l := by
  obtain ⟨hi, e⟩ := List.getElem?_eq_some_iff.mp h
  rw [← e]; exact List.set_getElem_self hi
/-- the item at place j of the owned list at slot i goes into the hand -/
theorem Rep.takeAt {i j : Nat} {a : Addr} {xs : List D} {vs : List V} {S' S1 S2 S3 : List Addr} {v : V} {d : D} (R : Rep K w H M ρ σ F) (e : get0 ρ i = some (.lst true xs)) (es : σ[i]? = some (some (.ref a))) (hH : H a = some (.lst vs)) (eF : F i = a :: S')
    (eS : S' = S1 ++ (S2 ++ S3)) (hd : Dn K w H (Fz M F) v d S2) (hr : DnL K w H (Fz M F) (vs.eraseIdx j) (xs.eraseIdx j) (S1 ++ S3)) :
    ∃ F', Aft K w M H F ρ false σ (upd H a (.lst (vs.eraseIdx j))) (ρ.set i (some (.lst true (xs.eraseIdx j)))) F' S2 ∧ Dn K w (upd H a (.lst (vs.eraseIdx j))) (Al M S2 F' [i]) v d S2 := by
  subst eS
  have hi := get0_lt e
  have ai : a ∈ F i := by rw [eF]; exact List.mem_cons_self
  have nda := List.nodup_cons.mp (eF ▸ R.nd i)
  have nd1 := List.nodup_append.mp nda.2
  have nd2 := List.nodup_append.mp nd1.2.1
  have sub : ∀ b, b ∈ S1 ++ S3 → b ∈ F i := fun b hb => by
    rw [eF]; refine List.mem_cons_of_mem _ ?_
    rcases List.mem_append.mp hb with z | z
    · exact List.mem_append_left _ z
    · exact List.mem_append_right _ (List.mem_append_right _ z)
  have sub2 : ∀ b, b ∈ S2 → b ∈ F i := fun b hb => by
    rw [eF]; exact List.mem_cons_of_mem _ (List.mem_append_right _ (List.mem_append_left _ hb))
  have a2 : a ∉ S2 := fun z => nda.1 (List.mem_append_right _ (List.mem_append_left _ z))
  have a13 : a ∉ S1 ++ S3 := fun z => by
    rcases List.mem_append.mp z with z | z
    · exact nda.1 (List.mem_append_left _ z)
    · exact nda.1 (List.mem_append_right _ (List.mem_append_right _ z))
  have d213 : ∀ b, b ∈ S2 → b ∉ S1 ++ S3 := fun b hb z => by
    rcases List.mem_append.mp z with z | z
    · exact nd1.2.2 b z b (List.mem_append_left _ hb) rfl
    · exact nd2.2.2 b hb b z rfl
  have nd13 : (S1 ++ S3).Nodup := List.nodup_append.mpr ⟨nd1.1, nd2.2.1, fun b h1 c h2 z => nd1.2.2 b h1 c (List.mem_append_right _ h2) z⟩
  have notM : ∀ b, b ∈ F i → ¬ M b := fun b hb => R.hM i b hb
  -- the slot let go of, the list changed
  have R1 := (R.unset i hi).updM (o := .lst (vs.eraseIdx j)) hH (.inr ai)
  have R2 : Rep K w (upd H a (.lst (vs.eraseIdx j))) (fun b => (M b ∨ b ∈ S2) ∨ b ∈ a :: (S1 ++ S3)) (ρ.set i none) σ (fun j => if j = i then [] else F j) := R1.weak fun b m => by
    rcases m with (m | m) | m
    · exact .inl m
    · exact .inr (sub2 b m)
    · rcases List.mem_cons.mp m with z | z
      · rw [z]; exact .inr ai
      · exact .inr (sub b z)
  have hfz : ∀ b, Fz M F b → ¬ M b ∧ ∀ j, b ∉ F j := fun b f => ⟨f.1, f.2⟩
  have hl : Dn K w (upd H a (.lst (vs.eraseIdx j))) (Al0 (fun b => M b ∨ b ∈ S2) (a :: (S1 ++ S3)) (fun j => if j = i then [] else F j)) (.ref a) (.lst true (xs.eraseIdx j)) (a :: (S1 ++ S3)) :=
    .lstO upd_same (hr.carry (Carry.at hH (fun b o' _ f => ⟨fun z => f.2 i (z ▸ ai), fun m => m.elim f.1 fun z => f.2 i (sub2 b z), fun z => (List.mem_cons.mp z).elim (fun z => f.2 i (z ▸ ai)) fun z => f.2 i (sub b z), fun k hk => f.2 k (of_if hk)⟩) a13))
  obtain ⟨F', R3, f1, _⟩ := Rep.set' R2 hl (List.nodup_cons.mpr ⟨a13, nd13⟩) (fun b hb m => by
    rcases List.mem_cons.mp hb with z | z
    · subst z; exact m.elim (notM b ai) a2
    · exact m.elim (notM b (sub b z)) fun z' => d213 b z' z) i
  rw [set_set, set_id es] at R3
  have fF : ∀ k b, b ∈ F' k → ∃ k', b ∈ F k' := fun k b hb => by
    rcases f1 k b hb with z | z
    · exact ⟨k, of_if z⟩
    · rcases List.mem_cons.mp z with z | z
      · exact ⟨i, z ▸ ai⟩
      · exact ⟨i, sub b z⟩
  refine ⟨F', ⟨R3, fun b o hb hf => by rw [upd_ne fun z => hf i (by rw [z]; exact ai)]; exact hb, fun b hb => .inl ?_, nd2.1, fun b hb => notM b (sub2 b hb), fun z => by cases z⟩, ?_⟩
  · rcases hb with hb | ⟨k, hb⟩
    · exact ⟨i, sub2 b hb⟩
    · exact fF k b hb
  · refine hd.carry (Carry.at hH (fun b o' _ f => ⟨fun z => f.2 i (z ▸ ai), f.1, fun z => f.2 i (sub2 b z), fun k _ hk => ?_⟩) a2)
    obtain ⟨k', hk'⟩ := fF k b hk
    exact f.2 k' hk'
theorem isLst_some {i : Nat} (h : isLst ρ i = true) : ∃ xs, get0 ρ i = some (.lst true xs) := by
  unfold isLst at h
  split at h
  · rename_i xs e; exact ⟨xs, e⟩
  · cases h
theorem popD_some {i : Nat} {d : D} {ρ' : Rho} (h : popD i ρ = some (d, ρ')) : ∃ xs, get0 ρ i = some (.lst true xs) ∧ xs.getLast? = some d ∧ ρ' = ρ.set i (some (.lst true xs.dropLast)) := by
  unfold popD at h
  split at h
  · rename_i xs e
    obtain ⟨d', e1, e2⟩ := Option.map_eq_some_iff.mp h
    cases e2
    exact ⟨xs, e, e1, rfl⟩
  · cases h
theorem last_get {α : Type} {l : List α} {x : α} (h : l.getLast? = some x) : l[l.length - 1]? = some x ∧ l.length - 1 < l.length := by
  rw [List.getLast?_eq_getElem?] at h
  exact ⟨h, (List.getElem?_eq_some_iff.mp h).1⟩
theorem drop_erase {α : Type} {l : List α} (h : l.length - 1 < l.length) : l.dropLast = l.eraseIdx (l.length - 1) := (List.eraseIdx_eq_dropLast (by omega)).symm
theorem sf_pop {i : Nat} : SF K w (popD i) false [i] (tBM0 K "list" rPop (tVar i)) := by
  intro ρ σ H F M d ρ' Q R h q
  obtain ⟨xs, e, hl, rfl⟩ := popD_some h
  obtain ⟨a, vs, S', ea, hH, eF, r⟩ := R.ownL e
  obtain ⟨l1, l2⟩ := last_get hl
  obtain ⟨v, d', S1, S2, S3, g1, g2, hd, eS, hr⟩ := r.take1 l2
  have hlen := r.length
  rw [l1] at g2; cases g2
  obtain ⟨F', A, hv⟩ := R.takeAt e ea hH eF eS hd hr
  refine ⟨.ref a, ea, .inl ⟨rfl, vs, .inl (.inl hH)⟩, a, vs, v, rfl, rfl, hH, by rw [hlen]; exact g1, ?_⟩
  rw [drop_erase l2] at q
  rw [show vs.dropLast = vs.eraseIdx (xs.length - 1) from by rw [← hlen]; exact drop_erase (by omega)]
  exact q v _ F' S2 A hv
theorem popAtD_some {i : Nat} {k d : D} {ρ' : Rho} (h : popAtD i k ρ = some (d, ρ')) : ∃ xs z j, get0 ρ i = some (.lst true xs) ∧ k = .int z ∧ -(2 ^ 63) ≤ z ∧ z < 2 ^ 63 ∧ seqIndex? z xs.length = some j ∧ xs[j]? = some d ∧ ρ' = ρ.set i (some (.lst true (xs.eraseIdx j))) := by
  unfold popAtD at h
  split at h
  · rename_i xs z e
    obtain ⟨hz, h⟩ := chk_some h
    obtain ⟨j, e1, h⟩ := Option.bind_eq_some_iff.mp h
    obtain ⟨d', e2, h⟩ := Option.map_eq_some_iff.mp h
    cases h
    have hz := of_decide_eq_true hz
    exact ⟨xs, z, j, e, rfl, hz.1, hz.2, e1, e2, rfl⟩
  · cases h
theorem sf_popAt {i : Nat} {ek : Rho → Option (D × Rho)} {pk : Bool} {Vk : List Nat} {tk : TE} (hk : SF K w ek pk Vk tk) : SF K w (fun ρ => chk (isLst ρ i) ((ek ρ).bind fun q => popAtD i q.1 q.2)) false (i :: Vk) (tBM K "list" rPopAt (tVar i) (tCons tk tNil)) := by
  intro ρ σ H F M d ρ' Q R h q
  obtain ⟨hi, h⟩ := chk_some h
  obtain ⟨xs0, e0⟩ := isLst_some hi
  obtain ⟨⟨k, ρ1⟩, e1, h⟩ := Option.bind_eq_some_iff.mp h
  simp only at h
  obtain ⟨xs, z, j, e, rfl, z1, z2, ej, ed, rfl⟩ := popAtD_some h
  obtain ⟨a0, vs0, S0, ea0, h0, _, _⟩ := R.ownL e0
  refine ⟨.ref a0, ea0, .inl ⟨rfl, vs0, .inl (.inl h0)⟩, hk ρ σ H F M _ ρ1 _ R e1 fun u H1 F1 T1 A hu => ?_⟩
  have R1 : Rep K w H1 M ρ1 σ F1 := A.rep.weak fun a h => .inl h
  obtain ⟨a, vs, S', ea, hH, eF, r⟩ := R1.ownL e
  rw [ea0] at ea; cases ea
  have hlen := r.length
  obtain ⟨v, d', S1, S2, S3, g1, g2, hd, eS, hr⟩ := r.take1 (List.getElem?_eq_some_iff.mp ed).1
  rw [ed] at g2; cases g2
  obtain ⟨F', B, hv⟩ := R1.takeAt e ea0 hH eF eS hd hr
  have hu' := A.letgo (fun _ z => z) hu
  cases hu'
  refine ⟨a0, vs, z, j, v, rfl, rfl, hH, z1, z2, by rw [hlen]; exact ej, g1, ?_⟩
  have C := A.drop.then B
  exact q v _ F' S2 (by rw [Bool.and_false] at C; exact C) (hv.keyFz fun b f => ⟨f.1, f.2.1, fun k hk => f.2.2 k fun z => hk (List.mem_cons.mpr (.inl (List.mem_singleton.mp z)))⟩)
end
end Eng
namespace Eng
open PySem PySem.Spec PyProof.Rows L2 RT
/-! ### a key stored in a dict -/
def PutEs (w : World) (es es' : Array DictEntry) (n : NestedKey) (i v : V) (kvs : List (D × D)) : Prop :=
  (∃ j p, kvs[j]? = some p ∧ p.1.nk = some n ∧ ∃ u, RelV v u ∧ es'.toList = es.toList.modify j (fun e => { e with val := u })) ∨
  ((∀ p ∈ kvs, p.1.nk ≠ some n) ∧ ∃ ku u, RelV i ku ∧ RelV v u ∧ es'.toList = es.toList ++ [⟨n.hash w, ku, u⟩])
/-- where d[i] = v may be done, and what is so behind it -/
def DcPut (K : PySem.W.Frag) (w : World) (a : Addr) (i v : V) (H : Hp) (Q : Hp → Prop) : Prop := ∃ (ob : Obj) (es : Array DictEntry) (kvs : List (D × D)) (S : List Addr) (Fy : Addr → Prop) (kd : D) (n : NestedKey),
  H a = some (rawO a ob) ∧ DcOk a ob es ∧ DnE K w H Fy es.toList kvs S ∧ (kvs.map fun p => p.1.nk).Nodup ∧ Dn K w H Fy i kd [] ∧ dKey kd = some n ∧ kvs.length < sizeLine ∧
  ∀ (ob' : Obj) (es' : Array DictEntry), DcOk a ob' es' → PutEs w es es' n i v kvs → Q (upd H a (rawO a ob'))
theorem rawO_ok {P : Program} {w : World} {H : Hp} {h : Heap} {a : Addr} {o : Obj} (e : h.get? a = some o) : ObjOk P w H h a (rawO a o) := ⟨e, ⟨o, e⟩, fun _ _ p f => f _ p⟩
section
variable {X : Cx} {pins : List (Addr × Obj)} {σ : L2.St} {H : Hp} {s : Shared}
theorem Inv.rawW {a : Addr} {ob ob' : Obj} {f : Obj → Obj} (I : Inv X pins σ H s) (h : H a = some (rawO a ob)) (e : (s.heap.update a f).get? a = some ob') (t : Nat) : Inv X pins σ (upd H a (rawO a ob')) { s with heap := s.heap.update a f, toks := t } :=
  I.write (x := a) (e := a) (by rw [h]; trivial) (.inl rfl) (fun b u hb q => (Heap.get?_update_other _ _ (Ne.symm hb)).trans q) ⟨_, e⟩ (rawO_ok e)
theorem dictSet_D {A : Around} {E : Value → Shared → Prop} (I : Inv X pins σ H s) (hu : A.units + 8 < cLine) {a : Addr} {i v : V} {key u : Value} {R : Hp → Prop} {Q : Unit → Shared → Prop} (g : DcPut X.K X.w a i v H R) (ri : RelV i key) (rv : RelV v u)
    (q : ∀ s' H', Inv X pins σ H' s' → R H' → Q () s') : wpAny (model X.prog X.w) A (dictSet a key u) Q E s := by
  obtain ⟨ob, es, kvs, S, Fy, kd, n, hH, k, r, hn, hk, ek, hz, g⟩ := g
  obtain ⟨e1, e2⟩ := dKey_some ek
  obtain ⟨ep, hdt⟩ := k.dt
  obtain ⟨kn, ekn⟩ := r.kn
  have En := r.ent I hn ekn
  have ho : s.heap.get? a = some ob := (I.hok _ _ hH).1
  have hkey := hk.nested I e1 ri
  have hsz : es.size = kvs.length := by rw [← r.length, Array.length_toList]
  unfold dictSet
  try with_reducible refine wpAny_holding ?_
  refine wpAny_bind (pyHash_key n key A s _ hkey (by omega) ?_)
  unfold dictSetHashed
  try with_reducible refine wpAny_holding ?_
  refine wpAny_bind (find_D (s := { s with toks := s.toks + n.draws }) hu ho hdt En hkey e2 (fun hno => ?_) fun j hj => ?_)
  · have hl : es.size ≤ sizeLine := by omega
    have eu := Heap.get?_update_self (Obj.mapDictKeys (·.push ⟨n.hash X.w, key, u⟩)) ho (Obj.isFreed_of_dict (Obj.data_mapDictKeys hdt _))
    refine wpAny_bind (wpAny_rule (wpAny_updateDictKeys (hz := hl) (s := { s with toks := s.toks + n.draws }) ho hdt (q _ _ (Inv.rawW I hH eu _) (g _ (es.push ⟨n.hash X.w, key, u⟩) ⟨k.ex.mapDictKeys _, ⟨ep + 1, Obj.data_mapDictKeys hdt _⟩, k.ns, by rw [Array.size_push]; omega⟩ (.inr ⟨kn_not ekn hno, key, u, ri, rv, by simp⟩)))))
  · obtain ⟨p, hp, hpn⟩ := kn_get ekn hj
    have eu := Heap.get?_update_self (Obj.mapDict (·.modify j fun e => { e with val := u })) ho (Obj.isFreed_of_dict (Obj.data_mapDict hdt _))
    refine wpAny_bind (wpAny_rule (wpAny_bind (wpAny_updateDict (s := { s with toks := s.toks + n.draws }) ho hdt (wpAny_point (q _ _ (Inv.rawW I hH eu _) (g _ (es.modify j fun e => { e with val := u }) ⟨k.ex.mapDict _, ⟨ep, Obj.data_mapDict hdt _⟩, k.ns, by rw [Array.size_modify]; exact k.sz⟩ (.inl ⟨j, p, hp, hpn, u, rv, by simp⟩)))))))
def rSetDD (K : PySem.W.Frag) (w : World) : TSet := fun o i v H Q => ∃ a, o = .ref a ∧ DcPut K w a i v H Q
theorem set_dctD (hu : X.A.units + 9 < cLine) : PSet X (rSetDD X.K X.w) := by
  intro pins s σ H o i v ov iv u Q I ro ri rv h
  obtain ⟨a, rfl, g⟩ := h
  cases ro
  have g' := g
  obtain ⟨ob, es, kvs, S, Fy, kd, n, hH, k, -⟩ := g'
  have hT := typeIs_dc (s := s) (I.hok _ _ hH).1 k
  have hu1 : X.A.in1.units + 8 < cLine := by show X.A.units + 1 + 8 < cLine; omega
  unfold setItem
  try with_reducible refine wpAny_holding ?_
  refine wpAny_bind (wpAny_sequenceKey hT (by decide) ?_)
  refine wpAny_bind (wpAny_callSpecial?_slot (name := Str.ofString "__setitem__") hT F.slot_dict_setitem
    (wpAny_call_entry F.slot_dict_setitem hT F.entry_dict_setitem ?_ (F.args_dict_setitem_3 _ _ _)))
  show wpAny _ _ (Builtin.Dict.notOrdered "__setitem__" ⟨[.ref a, iv, u], []⟩ >>= _) _ _ s
  refine wpAny_bind (wpAny_notOrdered_dict hT ?_)
  show wpAny _ _ (dictSet a iv u >>= _) _ _ s
  exact wpAny_bind (dictSet_D I hu1 g ri rv fun s' H' I' q => wpAny_pure ⟨.none, rfl, wpAny_pure ⟨H', I', q⟩⟩)
def rPutR (K : PySem.W.Frag) (w : World) : TSet := fun o i v H Q => rSetL o i v H Q ∨ rSetDD K w o i v H Q
theorem set_putR (hu : X.A.units + 9 < cLine) : PSet X (rPutR X.K X.w) := fun pins s σ H o i v ov iv u Q I ro ri rv h => h.elim (set_list pins s σ H o i v ov iv u Q I ro ri rv) (set_dctD hu pins s σ H o i v ov iv u Q I ro ri rv)
end
/-! ### the data behind it -/
section
variable {K : PySem.W.Frag} {w : World} {H : Hp} {Fy : Addr → Prop}
theorem DnE.split : ∀ {es : List DictEntry} {kvs : List (D × D)} {S : List Addr} {j : Nat} {p : D × D}, DnE K w H Fy es kvs S → kvs[j]? = some p → ∃ S1 S2 S3, S = S1 ++ (S2 ++ S3) ∧
    ∀ (v' : V) (u' : Value) (d' : D) (S' : List Addr), RelV v' u' → Dn K w H Fy v' d' S' → DnE K w H Fy (es.modify j fun e => { e with val := u' }) (kvs.set j (p.1, d')) (S1 ++ (S' ++ S3))
  | _, _, _, _, _, .nil, h => by simp at h
  | _, _, _, 0, _, .cons (e := e0) (S := S2) (S' := S3) h1 h2 h3 h4 h5 h6 h7 r, h => by
    simp at h; subst h
    refine ⟨[], S2, S3, rfl, fun v' u' d' S' rv hd => ?_⟩
    have := DnE.cons (e := { e0 with val := u' }) h1 rv h3 h4 h5 h6 hd r
    simpa using this
  | _, _, _, j + 1, _, .cons (S := S0) h1 h2 h3 h4 h5 h6 h7 r, h => by
    obtain ⟨S1, S2, S3, eS, g⟩ := DnE.split (j := j) r (by simpa using h)
    refine ⟨S0 ++ S1, S2, S3, by rw [eS, List.append_assoc], fun v' u' d' S' rv hd => ?_⟩
    have := DnE.cons h1 h2 h3 h4 h5 h6 h7 (g v' u' d' S' rv hd)
    rw [List.append_assoc]
    simpa using this
theorem DnE.snoc {e : DictEntry} {k v : V} {kd d : D} {n : NestedKey} {S' : List Addr} (h1 : RelV k e.key) (h2 : RelV v e.val) (h3 : Dn K w H Fy k kd []) (h4 : kd.nk = some n) (h5 : n.depth ≤ 8) (h6 : e.hash = n.hash w) (h7 : Dn K w H Fy v d S') :
    ∀ {es : List DictEntry} {kvs : List (D × D)} {S : List Addr}, DnE K w H Fy es kvs S → DnE K w H Fy (es ++ [e]) (kvs ++ [(kd, d)]) (S ++ S')
  | _, _, _, .nil => by
    have := DnE.cons h1 h2 h3 h4 h5 h6 h7 (DnE.nil (K := K) (w := w) (H := H) (Fz := Fy))
    rw [List.append_nil] at this
    exact this
  | _, _, _, .cons g1 g2 g3 g4 g5 g6 g7 r => by
    rw [List.append_assoc]
    exact DnE.cons g1 g2 g3 g4 g5 g6 g7 (DnE.snoc h1 h2 h3 h4 h5 h6 h7 r)
theorem dSet_new {k v : D} : ∀ {kvs : List (D × D)}, (∀ p ∈ kvs, p.1.nk ≠ k.nk) → dSet k v kvs = kvs ++ [(k, v)]
  | [], _ => rfl
  | p :: r, h => by
    rw [dSet, if_neg (by simpa using h p List.mem_cons_self), dSet_new fun q hq => h q (List.mem_cons_of_mem _ hq)]; rfl
theorem dSet_at {k v : D} : ∀ {kvs : List (D × D)} {j : Nat} {p : D × D}, (kvs.map fun p => p.1.nk).Nodup → kvs[j]? = some p → p.1.nk = k.nk → dSet k v kvs = kvs.set j (p.1, v)
  | [], _, _, _, h, _ => by simp at h
  | q :: r, 0, p, _, h, e => by
    simp at h; subst h
    rw [dSet, if_pos (by simpa using e)]; rfl
  | q :: r, j + 1, p, hn, h, e => by
    have h' : r[j]? = some p := by simpa using h
    rw [List.map_cons, List.nodup_cons] at hn
    have : ¬ q.1.nk = k.nk := fun z => hn.1 (List.mem_map.mpr ⟨p, List.mem_of_getElem? h', e.trans z.symm⟩)
    rw [dSet, if_neg (by simpa using this), dSet_at hn.2 h' e]; rfl
theorem dSet_keys {k v : D} : ∀ {kvs : List (D × D)}, (kvs.map fun p => p.1.nk).Nodup → ((dSet k v kvs).map fun p => p.1.nk).Nodup
  | [], _ => by simp [dSet]
  | q :: r, hn => by
    rw [dSet]
    split
    · simpa using hn
    · rename_i h
      rw [List.map_cons, List.nodup_cons] at hn ⊢
      refine ⟨fun z => ?_, dSet_keys hn.2⟩
      obtain ⟨p, hp, e⟩ := List.mem_map.mp z
      have sub : ∀ {l : List (D × D)} {p : D × D}, p ∈ dSet k v l → p.1.nk = k.nk ∨ p.1.nk ∈ l.map fun p => p.1.nk := fun {l} => by
        induction l with
        | nil => intro p hp; simp [dSet] at hp; exact .inl (by rw [hp])
        | cons q r ih =>
          intro p hp
          rw [dSet] at hp
          split at hp
          · rename_i hh
            rcases List.mem_cons.mp hp with z | z
            · exact .inl (by rw [z]; simpa using hh)
            · exact .inr (List.mem_cons_of_mem _ (List.mem_map.mpr ⟨p, z, rfl⟩))
          · rcases List.mem_cons.mp hp with z | z
            · exact .inr (by rw [z]; exact List.mem_cons_self)
            · exact (ih z).imp id fun z => List.mem_cons_of_mem _ z
      rcases sub hp with z | z
      · exact h (by rw [decide_eq_true]; rw [← e, z])
      · rw [e] at z; exact hn.1 z
theorem dSet_len {k v : D} : ∀ (kvs : List (D × D)), (dSet k v kvs).length ≤ kvs.length + 1
  | [] => by simp [dSet]
  | q :: r => by
    rw [dSet]
    split
    · simp
    · have := dSet_len (k := k) (v := v) r
      simp; omega
/-- the entries behind a store, and what they are made of -/
theorem DnE.put {es es' : Array DictEntry} {kvs : List (D × D)} {S T : List Addr} {i v : V} {kd d : D} {n : NestedKey} (r : DnE K w H Fy es.toList kvs S) (hn : (kvs.map fun p => p.1.nk).Nodup) (hk : Dn K w H Fy i kd []) (ek : dKey kd = some n) (hd : Dn K w H Fy v d T)
    (p : PutEs w es es' n i v kvs) (nd : S.Nodup) (ndT : T.Nodup) (dj : ∀ b ∈ S, b ∉ T) : ∃ S', DnE K w H Fy es'.toList (dSet kd d kvs) S' ∧ S'.Nodup ∧ ∀ b ∈ S', b ∈ S ∨ b ∈ T := by
  obtain ⟨e1, e2⟩ := dKey_some ek
  rcases p with ⟨j, p, hp, hpn, u, rv, he⟩ | ⟨hno, ku, u, ri, rv, he⟩
  · obtain ⟨S1, S2, S3, eS, g⟩ := r.split hp
    rw [dSet_at hn hp (hpn.trans e1.symm), he]
    subst eS
    have m1 := List.nodup_append.mp nd
    have m2 := List.nodup_append.mp m1.2.1
    refine ⟨_, g v u d T rv hd, List.nodup_append.mpr ⟨m1.1, List.nodup_append.mpr ⟨ndT, m2.2.1, fun b hb c hc z => ?_⟩, fun b hb c hc z => ?_⟩, fun b hb => ?_⟩
    · subst z; exact dj b (List.mem_append_right _ (List.mem_append_right _ hc)) hb
    · subst z
      rcases List.mem_append.mp hc with z | z
      · exact dj b (List.mem_append_left _ hb) z
      · exact m1.2.2 b hb b (List.mem_append_right _ z) rfl
    · rcases List.mem_append.mp hb with z | z
      · exact .inl (List.mem_append_left _ z)
      · rcases List.mem_append.mp z with z | z
        · exact .inr z
        · exact .inl (List.mem_append_right _ (List.mem_append_right _ z))
  · rw [dSet_new fun p hp => by rw [e1]; exact hno p hp, he]
    refine ⟨_, DnE.snoc (e := ⟨n.hash w, ku, u⟩) ri rv hk e1 e2 rfl hd r, List.nodup_append.mpr ⟨nd, ndT, fun b hb c hc z => dj b hb (z ▸ hc)⟩, fun b hb => List.mem_append.mp hb⟩
end
end Eng
namespace Eng
open PySem PySem.Spec PyProof.Rows L2 RT
section
variable {K : PySem.W.Frag} {w : World} {M : Addr → Prop} {H H1 H2 : Hp} {F F1 F2 : Foot} {ρ ρ1 ρ2 : Rho} {σ σ1 σ2 : L2.St} {T T1 T2 : List Addr} {p p1 p2 : Bool} {Vx : List Nat} {A B : List Nat} {Fy Fy' : Addr → Prop}
variable {io : List (Nat × Nat)}
/-! ### calls that change what they are handed -/
def FyIO (M : Addr → Prop) (T : List Addr) (F : Foot) (Vx : List Nat) (io : List (Nat × Nat)) (a : Addr) : Prop := ¬ M a ∧ a ∉ T ∧ ∀ j, (j ∉ Vx ∨ ioSlot io j = true) → a ∉ F j
inductive DnH (K : PySem.W.Frag) (w : World) (H : Hp) (Fy : Addr → Prop) (io : List (Nat × Nat)) (σ : L2.St) : Nat → List V → List D → List Addr → Prop
  | nil {p : Nat} : DnH K w H Fy io σ p [] [] []
  | cons {p : Nat} {v : V} {vs : List V} {d : D} {ds : List D} {S S' : List Addr} : io.lookup p = none → Dn K w H Fy v d S → DnH K w H Fy io σ (p + 1) vs ds S' → DnH K w H Fy io σ p (v :: vs) (d :: ds) (S ++ S')
  | io {p i : Nat} {v : V} {vs : List V} {d : D} {ds : List D} {S : List Addr} : io.lookup p = some i → σ[i]? = some (some v) → DnH K w H Fy io σ (p + 1) vs ds S → DnH K w H Fy io σ p (v :: vs) (d :: ds) S
theorem DnH.keyFz (f : ∀ a, Fy a → Fy' a) : ∀ {p : Nat} {vs : List V} {ds : List D} {S : List Addr}, DnH K w H Fy io σ p vs ds S → DnH K w H Fy' io σ p vs ds S
  | _, _, _, _, .nil => .nil
  | _, _, _, _, .cons l h r => .cons l (h.keyFz f) (DnH.keyFz f r)
  | _, _, _, _, .io l h r => .io l h (DnH.keyFz f r)
theorem DnH.frz (f : ∀ a, Fy a → Fy' a) : ∀ {p : Nat} {vs : List V} {ds : List D} {S : List Addr}, DnH K w H Fy io σ p vs ds S → (∀ a ∈ S, Fy' a) → DnH K w H Fy' io σ p vs (frzL ds) []
  | _, _, _, _, .nil, _ => .nil
  | _, _, _, _, .cons l h r, s => by
    rw [frzL]
    exact DnH.cons (S := []) (S' := []) l (h.frz f fun a ha => s a (List.mem_append_left _ ha)) (DnH.frz f r fun a ha => s a (List.mem_append_right _ ha))
  | _, _, _, _, .io l h r, s => by
    rw [frzL]
    exact .io l h (DnH.frz f r s)
def SFA (K : PySem.W.Frag) (w : World) (S : Sem0) (io : List (Nat × Nat)) (p0 : Nat) (es : Exs) (t : TA) : Prop :=
  ∀ (ρ : Rho) (σ : L2.St) (H : Hp) (F : Foot) (M : Addr → Prop) (ds : List D) (ρ' : Rho) (Q : List V → Hp → Prop), Rep K w H M ρ σ F → evEs S es ρ = some (ds, ρ') → ioOk io p0 es.toList ds = true →
    (∀ vs H' F' T, Aft K w M H F ρ es.pure σ H' ρ' F' T → DnH K w H' (FyIO M T F' es.vars io) io σ p0 vs ds T → Q vs H') → t σ H Q
variable {S : Sem0}
theorem sfa_nil {p0 : Nat} : SFA K w S io p0 .nil tNil := by
  intro ρ σ H F M ds ρ' Q R e _ q
  rw [evEs] at e
  cases e
  exact q [] H F [] (Aft.refl R) .nil
theorem sfa_cons {p0 : Nat} {e : Ex} {es : Exs} {te : TE} {ts : TA} (hl : io.lookup p0 = none) (he : SF K w (evE S e) e.pure e.vars te) (hs : SFA K w S io (p0 + 1) es ts) : SFA K w S io p0 (.cons e es) (tCons te ts) := by
  intro ρ σ H F M ds ρ' Q R h ok q
  rw [evEs] at h
  obtain ⟨⟨x, ρ1⟩, e1, h⟩ := Option.bind_eq_some_iff.mp h
  obtain ⟨hc, h⟩ := chk_some h
  obtain ⟨⟨ys, ρ2⟩, e2, h⟩ := Option.map_eq_some_iff.mp h
  cases h
  simp only [Exs.toList, ioOk, hl, Option.isSome_none, Bool.false_or, Bool.and_eq_true] at ok
  refine he ρ σ H F M x ρ1 _ R e1 fun v H1 F1 T1 A h1 => hs ρ1 σ H1 F1 _ ys ρ2 _ A.rep e2 ok.2 fun us H2 F2 T2 B h2 => ?_
  have AB := A.trans B
  refine q (v :: us) H2 F2 (T1 ++ T2) (by rw [Exs.pure]; exact AB) (.cons hl ?_ (h2.keyFz fun a f => ?_))
  · have h1' := h1.hand A B (fun _ z => z) (V2 := []) (by simpa using hc)
    rw [List.append_nil] at h1'
    have ok1 := ok.1
    cases hcl : x.clean with
    | true => exact h1'.clean hcl
    | false =>
      rw [hcl, Bool.false_or] at ok1
      refine h1'.keyFz fun a f => ⟨f.1, f.2.1, fun j hj => f.2.2 j fun z => ?_⟩
      rcases hj with hj | hj
      · exact hj (by rw [Exs.vars]; exact List.mem_append_left _ z)
      · have := List.all_eq_true.mp ok1 j z
        rw [hj] at this; cases this
  · exact ⟨fun m => f.1 (.inl m), fun m => (List.mem_append.mp m).elim (fun z => f.1 (.inr z)) f.2.1, fun j hj => f.2.2 j (hj.imp (fun hj z => hj (by rw [Exs.vars]; exact List.mem_append_right _ z)) id)⟩
theorem sfa_var {p0 i : Nat} {es : Exs} {ts : TA} (hl : io.lookup p0 = some i) (hs : SFA K w S io (p0 + 1) es ts) : SFA K w S io p0 (.cons (.var i) es) (tCons (tVar i) ts) := by
  intro ρ σ H F M ds ρ' Q R h ok q
  rw [evEs] at h
  obtain ⟨⟨x, ρ1⟩, e1, h⟩ := Option.bind_eq_some_iff.mp h
  obtain ⟨hc, h⟩ := chk_some h
  obtain ⟨⟨ys, ρ2⟩, e2, h⟩ := Option.map_eq_some_iff.mp h
  cases h
  rw [evE] at e1
  obtain ⟨d0, e0, e1⟩ := Option.map_eq_some_iff.mp e1
  cases e1
  simp only [Exs.toList, ioOk, hl, Option.isSome_some, Bool.true_or, Bool.true_and] at ok
  obtain ⟨v, ev, _⟩ := R.den i d0 e0
  refine ⟨v, ev, hs ρ σ H F M ys ρ2 _ R e2 ok fun us H2 F2 T2 B h2 => ?_⟩
  exact q (v :: us) H2 F2 T2 (by rw [Exs.pure, Ex.pure, Bool.true_and]; exact B) (.io hl ev (h2.keyFz fun a f => ⟨f.1, f.2.1, fun j hj => f.2.2 j (hj.imp (fun hj z => hj (by rw [Exs.vars]; exact List.mem_append_right _ z)) id)⟩))
/-! the callee's environment -/
def ioF (io : List (Nat × Nat)) (F : Foot) : Foot := fun p => match io.lookup p with
  | some i => F i
  | none => []
theorem lookup_mem {α β : Type} [BEq α] [LawfulBEq α] {x : α} {y : β} : ∀ {l : List (α × β)}, l.lookup x = some y → (x, y) ∈ l
  | [], h => by cases h
  | (a, b) :: r, h => by
    rw [List.lookup_cons] at h
    by_cases e : (x == a) = true
    · rw [e] at h
      cases h
      rw [eq_of_beq e]
      exact List.mem_cons_self
    · have e2 : (x == a) = false := by simpa using e
      rw [e2] at h
      exact List.mem_cons_of_mem _ (lookup_mem h)
theorem ioSlot_of {p i : Nat} (h : io.lookup p = some i) : ioSlot io i = true := List.any_eq_true.mpr ⟨(p, i), lookup_mem h, beq_self_eq_true i⟩
theorem ioF_mem {a : Addr} {q : Nat} (h : a ∈ ioF io F q) : ∃ i, io.lookup q = some i ∧ a ∈ F i := by
  unfold ioF at h
  split at h
  · rename_i i e; exact ⟨i, e, h⟩
  · cases h
/-- distinct places, distinct slots -/
def IoWf (io : List (Nat × Nat)) : Prop := ∀ p q i, io.lookup p = some i → io.lookup q = some i → p = q
theorem DnH.den (R : Rep K w H (fun a => M a ∨ a ∈ T) ρ σ F) {Fy2 : Addr → Prop} (hf1 : ∀ a, Fy a → Fy2 a) (hf2 : ∀ a, Fz (fun a => M a ∨ a ∈ T) F a → Fy2 a) : ∀ {p : Nat} {vs : List V} {ds args : List D} {S : List Addr}, DnH K w H Fy io σ p vs ds S → S = [] → ioArgs io ρ p ds = some args → (∀ d ∈ ds, d.frz = d) → vs.length = args.length ∧
    ∀ k d, args[k]? = some d → ∃ v, vs[k]? = some v ∧ Dn K w H Fy2 v d (ioF io F (p + k)) ∧ (∀ i, io.lookup (p + k) = some i → get0 ρ i = some d ∧ σ[i]? = some (some v))
  | p, _, _, args, _, .nil, _, e, _ => by
    cases e
    exact ⟨rfl, fun k d h => by simp at h⟩
  | p, _, _, args, _, .cons (v := v) (vs := vs) (d := d) (ds := ds) (S := S) (S' := S') l h rest, hS, e, hf => by
    obtain ⟨z1, z2⟩ := List.append_eq_nil_iff.mp hS
    simp only [ioArgs, l, Option.bind_some] at e
    obtain ⟨r, e2, e⟩ := Option.map_eq_some_iff.mp e
    subst e
    obtain ⟨i1, i2⟩ := DnH.den R hf1 hf2 rest z2 e2 fun d hd => hf d (List.mem_cons_of_mem _ hd)
    refine ⟨by simp [i1], fun k dd hk => ?_⟩
    cases k with
    | zero =>
      simp at hk; subst hk
      refine ⟨v, rfl, ?_⟩
      rw [Nat.add_zero]
      rw [z1] at h
      rw [hf d List.mem_cons_self]
      have : ioF io F p = [] := by unfold ioF; rw [l]
      rw [this]
      exact ⟨h.keyFz hf1, fun i z => by rw [l] at z; cases z⟩
    | succ k =>
      obtain ⟨v', e3, e4, e5⟩ := i2 k dd (by simpa using hk)
      rw [show p + (k + 1) = p + 1 + k from by omega]
      exact ⟨v', by simpa using e3, e4, e5⟩
  | p, _, _, args, _, .io (i := i) (v := v) (vs := vs) (d := d) (ds := ds) l ev rest, hS, e, hf => by
    simp only [ioArgs, l] at e
    obtain ⟨d', e1, e⟩ := Option.bind_eq_some_iff.mp e
    obtain ⟨r, e2, e⟩ := Option.map_eq_some_iff.mp e
    subst e
    obtain ⟨i1, i2⟩ := DnH.den R hf1 hf2 rest hS e2 fun d hd => hf d (List.mem_cons_of_mem _ hd)
    refine ⟨by simp [i1], fun k dd hk => ?_⟩
    cases k with
    | zero =>
      simp at hk; subst hk
      refine ⟨v, rfl, ?_⟩
      rw [Nat.add_zero]
      have this : ioF io F p = F i := by unfold ioF; rw [l]
      obtain ⟨v', ev', hd⟩ := R.den i d' e1
      rw [ev] at ev'; cases ev'
      rw [this]
      refine ⟨hd.keyFz hf2, fun i' z => ?_⟩
      rw [l] at z; cases z
      exact ⟨e1, ev⟩
    | succ k =>
      obtain ⟨v', e3, e4, e5⟩ := i2 k dd (by simpa using hk)
      rw [show p + (k + 1) = p + 1 + k from by omega]
      exact ⟨v', by simpa using e3, e4, e5⟩
theorem ioArgs_len {io : List (Nat × Nat)} {ρ : Rho} : ∀ {ds args : List D} {p : Nat}, ioArgs io ρ p ds = some args → args.length = ds.length
  | [], args, p, e => by cases e; rfl
  | d :: ds, args, p, e => by
    simp only [ioArgs] at e
    obtain ⟨d', e1, e⟩ := Option.bind_eq_some_iff.mp e
    obtain ⟨r, e2, e⟩ := Option.map_eq_some_iff.mp e
    subst e
    rw [List.length_cons, List.length_cons, ioArgs_len e2]
end
end Eng
namespace Eng
open PySem PySem.Spec PyProof.Rows L2 RT
section
variable {K : PySem.W.Frag} {w : World} {M : Addr → Prop} {H H1 H2 : Hp} {F F1 F2 : Foot} {ρ ρ1 ρ2 : Rho} {σ σ1 σ2 : L2.St} {T T1 T2 : List Addr}
variable {io : List (Nat × Nat)}
theorem lookup_of {α β : Type} [BEq α] [LawfulBEq α] {x : α} {y : β} : ∀ {l : List (α × β)}, (l.map (·.1)).Nodup → (x, y) ∈ l → l.lookup x = some y
  | [], _, h => by cases h
  | (a, b) :: r, hn, h => by
    rw [List.map_cons, List.nodup_cons] at hn
    rw [List.lookup_cons]
    rcases List.mem_cons.mp h with z | z
    · cases z; rw [beq_self_eq_true]
    · have : (x == a) = false := by
        cases e : x == a with
        | false => rfl
        | true =>
          rw [eq_of_beq e] at z
          exact absurd (List.mem_map.mpr ⟨_, z, rfl⟩) hn.1
      rw [this]
      exact lookup_of hn.2 z
theorem snd_inj {p q i : Nat} : ∀ {io : List (Nat × Nat)}, (io.map (·.2)).Nodup → (p, i) ∈ io → (q, i) ∈ io → p = q
  | [], _, h, _ => by cases h
  | (a, b) :: r, hn, h, h' => by
    rw [List.map_cons, List.nodup_cons] at hn
    rcases List.mem_cons.mp h with z | z <;> rcases List.mem_cons.mp h' with z' | z'
    · cases z; cases z'; rfl
    · cases z; exact absurd (List.mem_map.mpr ⟨_, z', rfl⟩) hn.1
    · cases z'; exact absurd (List.mem_map.mpr ⟨_, z, rfl⟩) hn.1
    · exact snd_inj hn.2 z z'
theorem ioSlot_mem {j : Nat} (h : ioSlot io j = true) : ∃ p, (p, j) ∈ io := by
  obtain ⟨⟨p, i⟩, h1, h2⟩ := List.any_eq_true.mp h
  have : i = j := eq_of_beq h2
  subst this
  exact ⟨p, h1⟩
theorem ioSlot_in {p j : Nat} (h : (p, j) ∈ io) : ioSlot io j = true := List.any_eq_true.mpr ⟨(p, j), h, beq_self_eq_true j⟩
theorem ioOut_get : ∀ {io : List (Nat × Nat)} {outs : List (Option D)} {ρ ρ' : Rho}, (io.map (·.2)).Nodup → ioOut outs io ρ = some ρ' → ρ'.length = ρ.length ∧ (∀ p i, (p, i) ∈ io → ∃ d, get0 outs p = some d ∧ (i < ρ.length → get0 ρ' i = some d)) ∧ ∀ j, ioSlot io j = false → get0 ρ' j = get0 ρ j
  | [], outs, ρ, ρ', _, h => by cases h; exact ⟨rfl, fun _ _ h => (by cases h), fun _ _ => rfl⟩
  | (p0, i0) :: r, outs, ρ, ρ', hn, h => by
    obtain ⟨d0, e0, h⟩ := Option.bind_eq_some_iff.mp (show ((get0 outs p0).bind fun d => ioOut outs r (ρ.set i0 (some d))) = some ρ' from h)
    rw [List.map_cons, List.nodup_cons] at hn
    obtain ⟨h1, h2, h3⟩ := ioOut_get hn.2 h
    rw [List.length_set] at h1 h2
    have ns : ioSlot r i0 = false := by
      cases e : ioSlot r i0 with
      | false => rfl
      | true =>
        obtain ⟨p, hp⟩ := ioSlot_mem e
        exact absurd (List.mem_map.mpr ⟨_, hp, rfl⟩) hn.1
    refine ⟨h1, fun p i hm => ?_, fun j hj => ?_⟩
    · rcases List.mem_cons.mp hm with z | z
      · cases z
        exact ⟨d0, e0, fun hl => by rw [h3 _ ns, get0_set_same hl]⟩
      · exact h2 p i z
    · unfold ioSlot at hj
      rw [List.any_cons, Bool.or_eq_false_iff] at hj
      rw [h3 j hj.2]
      exact get0_set_ne (show i0 ≠ j from fun z => by rw [z] at hj; simp at hj)
theorem ioClean_get : ∀ {io : List (Nat × Nat)} {outs : List (Option D)} {p i : Nat} {d : D}, ioClean outs io = true → (p, i) ∈ io → get0 outs p = some d → d.clean = true
  | [], _, _, _, _, _, h, _ => by cases h
  | (p0, i0) :: r, outs, p, i, d, h, hm, e => by
    simp only [ioClean, Bool.and_eq_true] at h
    rcases List.mem_cons.mp hm with z | z
    · cases z
      have := h.1
      rw [e] at this; exact this
    · exact ioClean_get h.2 z e
theorem ioArgs_frz {ρ : Rho} : ∀ {ds : List D} {p : Nat}, ioArgs io ρ p (frzL ds) = ioArgs io ρ p ds
  | [], _ => rfl
  | d :: ds, p => by
    rw [frzL]
    simp only [ioArgs]
    rw [ioArgs_frz (ds := ds), frz_frz]
theorem keptF_of {vs : List Nat} {c : Bool} {F : Foot} {j : Nat} (h : j ∉ vs) : keptF vs c F j = F j := by
  unfold keptF Foot.frz
  split
  · rfl
  · exact if_neg h
theorem keptF_fr {vs : List Nat} {F : Foot} {j : Nat} (h : j ∈ vs) : keptF vs false F j = [] := by
  unfold keptF Foot.frz
  rw [if_neg (by decide)]
  exact if_pos h
theorem sf_callIO {S : Sem0} {f : Str} {n : Nat} {es : Exs} {t : TA} {E : XK} (wf1 : (io.map (·.1)).Nodup) (wf2 : (io.map (·.2)).Nodup) (wf3 : ∀ q ∈ io, q.1 < n) (ha : SFA K w S io 0 es t) (hn : ∀ ds d outs, S.call f ds = some (d, outs) → ds.length = n ∧ ∀ i, i ∉ io.map (·.1) → get0 outs i = none) :
    SF K w (fun ρ => (evEs S es ρ).bind fun p => callIO S f es io p.1 p.2) false (es.vars ++ io.map (·.2)) (fun σ H Q => t σ H fun vs H1 => spD K w n (io.map (·.1)) (S.call f) (vs ++ []) H1 Q E) := by
  intro ρ σ H F M d ρ' Q R h q
  obtain ⟨⟨ds, ρ1⟩, e1, h⟩ := Option.bind_eq_some_iff.mp h
  obtain ⟨ok, h⟩ := chk_some h
  obtain ⟨args, e2, h⟩ := Option.bind_eq_some_iff.mp h
  obtain ⟨⟨d', outs⟩, e3, h⟩ := Option.bind_eq_some_iff.mp h
  obtain ⟨ρ2, e4, h⟩ := Option.map_eq_some_iff.mp h
  cases h
  simp only at e2 e3 e4
  obtain ⟨hlen, hout⟩ := hn _ _ _ e3
  refine ha ρ σ H F M ds ρ1 _ R e1 ok fun vs H1 F1 T1 A hD => ?_
  rw [List.append_nil]
  generalize hV : ioV io es = V' at e4
  generalize hc : ioClean outs io = c at e4
  have R1 : Rep K w H1 M ρ1 σ F1 := A.rep.weak fun a m => .inl m
  -- what the callee may not touch
  let M' : Addr → Prop := fun a => M a ∨ ∃ j, ioSlot io j = false ∧ j ∉ es.vars ∧ a ∈ F1 j
  have hV' : ∀ j, j ∈ V' → j ∈ es.vars ∧ ioSlot io j = false := fun j hj => by
    rw [← hV] at hj
    have := List.mem_filter.mp hj
    exact ⟨this.1, by simpa using this.2⟩
  have hV2 : ∀ j, j ∈ es.vars → ioSlot io j = false → j ∈ V' := fun j h1 h2 => by
    rw [← hV]
    exact List.mem_filter.mpr ⟨h1, by rw [h2]; rfl⟩
  let Fy : Addr → Prop := fun a => ¬ M a ∧ ∀ j, (j ∉ es.vars ∨ ioSlot io j = true) → a ∉ F1 j
  have hD' : DnH K w H1 Fy io σ 0 vs (frzL ds) [] := hD.frz (fun a f => ⟨f.1, f.2.2⟩) fun a ha => ⟨A.tM a ha, fun j _ hj => A.rep.hM j a hj (.inr ha)⟩
  have hM1 : ∀ j a, a ∈ F1 j → ¬ M a := fun j a hj m => A.rep.hM j a hj (.inl m)
  have hG : ∀ q a, a ∈ ioF io F1 q → ∃ i, (q, i) ∈ io ∧ a ∈ F1 i := fun q a ha => by
    obtain ⟨i, z1, z2⟩ := ioF_mem ha
    exact ⟨i, lookup_mem z1, z2⟩
  have hGM : ∀ q a, a ∈ ioF io F1 q → ¬ M' a := fun q a ha m => by
    obtain ⟨i, z1, z2⟩ := hG q a ha
    rcases m with m | ⟨j, m1, m2, m3⟩
    · exact hM1 i a z2 m
    · have : i = j := A.rep.dis i j a z2 m3
      subst this
      rw [ioSlot_in z1] at m1; cases m1
  obtain ⟨l1, den⟩ := hD'.den (Fy2 := Fz M' (ioF io F1)) A.rep (fun a f => ⟨fun m => m.elim f.1 fun ⟨j, m1, m2, m3⟩ => f.2 j (.inl m2) m3, fun q hq => by
      obtain ⟨i, z1, z2⟩ := hG q a hq
      exact f.2 i (.inr (ioSlot_in z1)) z2⟩) (fun a f => ⟨fun m => m.elim (fun m => f.1 (.inl m)) fun ⟨j, m1, m2, m3⟩ => f.2 j m3, fun q hq => by
      obtain ⟨i, z1, z2⟩ := hG q a hq
      exact f.2 i z2⟩) rfl (by rw [ioArgs_frz]; exact e2) (fun d hd => by
    rw [frzL_map] at hd
    obtain ⟨d0, _, rfl⟩ := List.mem_map.mp hd
    exact frz_frz d0)
  -- a place of the io list is an argument's place
  have inl : ∀ p i, (p, i) ∈ io → p < n ∧ ∃ dd vv, args[p]? = some dd ∧ vs[p]? = some vv ∧ σ[i]? = some (some vv) ∧ get0 ρ1 i = some dd := fun p i hm => by
    have hp : p < n := wf3 _ hm
    obtain ⟨vv, z2, z3, z4⟩ := den p args[p] (List.getElem?_eq_getElem (by omega))
    rw [Nat.zero_add] at z4
    obtain ⟨z5, z6⟩ := z4 i (lookup_of wf1 hm)
    exact ⟨hp, _, vv, List.getElem?_eq_getElem (by omega), z2, z6, z5⟩
  have RC : Rep K w H1 M' (args.map some) (vs.map some) (ioF io F1) := by
    refine ⟨by rw [List.length_map, List.length_map, l1], fun k dk ek => ?_, fun k ek => ?_, fun k => ?_, fun k k' a h1 h2 => ?_, hGM, fun a m => ?_⟩
    · obtain ⟨v, z1, z2, _⟩ := den k dk (get0_map_some ek)
      rw [Nat.zero_add] at z2
      exact ⟨v, by rw [List.getElem?_map, z1]; rfl, z2⟩
    · refine List.eq_nil_iff_forall_not_mem.mpr fun a ha => ?_
      obtain ⟨i, z1, z2⟩ := hG k a ha
      obtain ⟨_, dd, vv, z3, _⟩ := inl k i z1
      rw [get0_map_none ek] at z3; cases z3
    · unfold ioF
      split
      · exact A.rep.nd _
      · exact List.nodup_nil
    · obtain ⟨i, z1, z2⟩ := hG k a h1
      obtain ⟨i', z3, z4⟩ := hG k' a h2
      have : i = i' := A.rep.dis i i' a z2 z4
      subst this
      exact snd_inj wf2 z1 z3
    · rcases m with m | ⟨j, _, _, m3⟩
      · exact A.rep.dom a (.inl m)
      · exact A.rep.thereN m3
  have hG0 : ∀ q, q ∉ io.map (·.1) → ioF io F1 q = [] := fun q hq => List.eq_nil_iff_forall_not_mem.mpr fun a ha => by
    obtain ⟨i, z1, _⟩ := hG q a ha
    exact hq (List.mem_map.mpr ⟨_, z1, rfl⟩)
  refine ⟨by rw [l1]; exact hlen, args, M', ioF io F1, _, outs, RC, e3, fun i hi => ⟨hG0 i hi, hout i hi⟩, fun v H2 G2 T2 B hv => ?_⟩
  obtain ⟨o1, o2, o3⟩ := ioOut_get wf2 e4
  -- the slots behind the call
  let F2 : Foot := fun j => match io.find? fun q => q.2 == j with
    | some q => G2 q.1
    | none => keptF V' c F1 j
  have F2io : ∀ p j, (p, j) ∈ io → F2 j = G2 p := fun p j hm => by
    show (match io.find? fun q => q.2 == j with | some q => G2 q.1 | none => keptF V' c F1 j) = G2 p
    cases hf : io.find? fun q => q.2 == j with
    | none =>
      have := List.find?_eq_none.mp hf (p, j) hm
      simp at this
    | some q =>
      obtain ⟨q1, q2⟩ := q
      have z1 := List.find?_some hf
      have z2 := List.mem_of_find?_eq_some hf
      have : q2 = j := eq_of_beq z1
      subst this
      rw [snd_inj wf2 z2 hm]
  have F2no : ∀ j, ioSlot io j = false → F2 j = keptF V' c F1 j := fun j hj => by
    show (match io.find? fun q => q.2 == j with | some q => G2 q.1 | none => keptF V' c F1 j) = _
    cases hf : io.find? fun q => q.2 == j with
    | none => rfl
    | some q =>
      have z1 := List.find?_some hf
      have z2 := List.mem_of_find?_eq_some hf
      have : ioSlot io j = true := List.any_eq_true.mpr ⟨q, z2, z1⟩
      rw [hj] at this; cases this
  have cases2 : ∀ {a : Addr} {j : Nat}, a ∈ F2 j → (∃ p, (p, j) ∈ io ∧ a ∈ G2 p) ∨ (ioSlot io j = false ∧ a ∈ keptF V' c F1 j) := fun {a j} ha => by
    cases hs : ioSlot io j with
    | true =>
      obtain ⟨p, hp⟩ := ioSlot_mem hs
      rw [F2io p j hp] at ha
      exact .inl ⟨p, hp, ha⟩
    | false =>
      rw [F2no j hs] at ha
      exact .inr ⟨rfl, ha⟩
  -- what stays
  have stay : ∀ b o, H1 b = some o → (∀ i, ioSlot io i = true → b ∉ F1 i) → H2 b = some o := fun b o hb hf => B.keep b o hb fun q hq => by
    obtain ⟨i, z1, z2⟩ := hG q b hq
    exact hf i (ioSlot_in z1) z2
  have newB : ∀ b, (b ∈ T2 ∨ ∃ p, b ∈ G2 p) → (∃ i, ioSlot io i = true ∧ b ∈ F1 i) ∨ H1 b = none := fun b hb => by
    rcases B.fresh b hb with ⟨p, hp⟩ | z
    · obtain ⟨i, z1, z2⟩ := hG p b hp
      exact .inl ⟨i, ioSlot_in z1, z2⟩
    · exact .inr z
  have notNew : ∀ b o, H1 b = some o → (∀ i, ioSlot io i = true → b ∉ F1 i) → b ∉ T2 ∧ ∀ p, b ∉ G2 p := fun b o hb hf => by
    have key : ¬ (b ∈ T2 ∨ ∃ p, b ∈ G2 p) := fun z => by
      rcases newB b z with ⟨i, z1, z2⟩ | z
      · exact hf i z1 z2
      · rw [hb] at z; cases z
    exact ⟨fun z => key (.inl z), fun p z => key (.inr ⟨p, z⟩)⟩
  have othF : ∀ b j, ioSlot io j = false → b ∈ F1 j → ∀ i, ioSlot io i = true → b ∉ F1 i := fun b j hj hb i hi z => by
    have : j = i := A.rep.dis j i b hb z
    subst this
    rw [hj] at hi; cases hi
  have RK := R1.kept V' c
  have hkeep : ∀ b o, H1 b = some o → Fz M (keptF V' c F1) b → ∀ i, ioSlot io i = true → b ∉ F1 i := fun b o hb f i hi z => f.2 i (by
    rw [keptF_of fun hm => by rw [(hV' i hm).2] at hi; cases hi]
    exact z)
  have R2 : Rep K w H2 (fun a => M a ∨ a ∈ T2) ρ' σ F2 := by
    refine ⟨by rw [o1]; exact RK.len, fun i di ei => ?_, fun i ei => ?_, fun i => ?_, fun i j a h1 h2 => ?_, fun i a ha m => ?_, fun a m => ?_⟩
    · cases hs : ioSlot io i with
      | true =>
        obtain ⟨p, hp⟩ := ioSlot_mem hs
        obtain ⟨_, dd, vv, z1, z2, z3, z4⟩ := inl p i hp
        obtain ⟨dO, y1, y2⟩ := o2 p i hp
        have hi : i < (kept V' c ρ1).length := by
          rw [RK.len]; exact (List.getElem?_eq_some_iff.mp z3).1
        have y3 := y2 hi
        rw [ei] at y3; cases y3
        obtain ⟨v3, x1, x2⟩ := B.rep.den p di y1
        rw [List.getElem?_map, z2] at x1
        cases x1
        refine ⟨vv, z3, ?_⟩
        rw [F2io p i hp]
        cases hcc : c with
        | true => exact x2.clean (ioClean_get (hc.trans hcc) hp y1)
        | false =>
          refine x2.keyFz fun b f => ⟨fun m => f.1 (m.imp .inl id), fun j hj => ?_⟩
          rcases cases2 hj with ⟨p', _, z⟩ | ⟨hns, z⟩
          · exact f.2 p' z
          · by_cases hv : j ∈ V'
            · rw [hcc, keptF_fr hv] at z; cases z
            · exact f.1 (.inl (.inr ⟨j, hns, fun z' => hv (hV2 j z' hns), keptF_sub z⟩))
      | false =>
        rw [o3 i hs] at ei
        obtain ⟨vv, z1, z2⟩ := RK.den i di ei
        refine ⟨vv, z1, ?_⟩
        rw [F2no i hs]
        refine z2.carry ⟨fun b xs r => ?_, fun b o hb f => ?_, fun b o hb hm => stay b o hb (othF b i hs (keptF_sub hm))⟩
        · have hno : ∀ i, ioSlot io i = true → b ∉ F1 i := fun i _ => A.rep.notup r i
          exact r.imp (fun r => stay b _ r hno) fun ⟨o', r⟩ => ⟨o', stay b _ r hno⟩
        · have hno := hkeep b o hb f
          have nn := notNew b o hb hno
          refine ⟨stay b o hb hno, fun m => m.elim f.1 nn.1, fun j hj => ?_⟩
          rcases cases2 hj with ⟨p', _, z⟩ | ⟨_, z⟩
          · exact nn.2 p' z
          · exact f.2 j z
    · cases hs : ioSlot io i with
      | true =>
        obtain ⟨p, hp⟩ := ioSlot_mem hs
        obtain ⟨_, dd, vv, z1, z2, z3, z4⟩ := inl p i hp
        obtain ⟨dO, y1, y2⟩ := o2 p i hp
        rw [ei] at y2
        cases y2 (by rw [RK.len]; exact (List.getElem?_eq_some_iff.mp z3).1)
      | false =>
        rw [o3 i hs] at ei
        rw [F2no i hs]
        exact RK.un i ei
    · cases hs : ioSlot io i with
      | true =>
        obtain ⟨p, hp⟩ := ioSlot_mem hs
        rw [F2io p i hp]; exact B.rep.nd p
      | false => rw [F2no i hs]; exact RK.nd i
    · have mix : ∀ p j, a ∈ G2 p → ioSlot io j = false → a ∈ keptF V' c F1 j → False := fun p j z1 hj z2 => by
        rcases newB a (.inr ⟨p, z1⟩) with ⟨i', y1, y2⟩ | y
        · exact othF a j hj (keptF_sub z2) i' y1 y2
        · exact A.rep.thereN (keptF_sub z2) y
      rcases cases2 h1 with ⟨p, hp, z1⟩ | ⟨n1, z1⟩ <;> rcases cases2 h2 with ⟨p', hp', z2⟩ | ⟨n2, z2⟩
      · have := B.rep.dis p p' a z1 z2
        subst this
        have y1 := lookup_of wf1 hp
        rw [lookup_of wf1 hp'] at y1
        exact (Option.some.inj y1).symm
      · exact (mix p j z1 n2 z2).elim
      · exact (mix p' i z2 n1 z1).elim
      · exact RK.dis i j a z1 z2
    · rcases cases2 ha with ⟨p, hp, z⟩ | ⟨hns, z⟩
      · exact B.rep.hM p a z (m.imp .inl id)
      · rcases m with m | m
        · exact RK.hM i a z m
        · rcases newB a (.inl m) with ⟨i', y1, y2⟩ | y
          · exact othF a i hns (keptF_sub z) i' y1 y2
          · exact A.rep.thereN (keptF_sub z) y
    · rcases m with m | m
      · obtain ⟨o, z⟩ := ne_some (A.rep.dom a (.inl m))
        exact some_ne (stay a o z fun i _ hi => hM1 i a hi m)
      · exact B.rep.dom a (.inr m)
  have back : ∀ b, ((∃ i, ioSlot io i = true ∧ b ∈ F1 i) ∨ H1 b = none) → (∃ i, b ∈ F i) ∨ H b = none := fun b hb => by
    rcases hb with ⟨i, _, z⟩ | z
    · exact A.fresh b (.inr ⟨i, z⟩)
    · exact A.back z
  refine q v H2 F2 T2 ⟨R2, fun b o hb hf => stay b o (A.keep b o hb hf) fun i _ => A.notF1 hb hf i, fun a ha => ?_, B.nd, fun a ha m => B.tM a ha (.inl m), fun z => by cases z⟩ (hv.keyFz fun a f => ⟨fun m => f.1 (.inl m), f.2.1, fun j hj z => ?_⟩)
  · rcases ha with ha | ⟨j, hj⟩
    · exact back a (newB a (.inl ha))
    · rcases cases2 hj with ⟨p, hp, z⟩ | ⟨_, z⟩
      · exact back a (newB a (.inr ⟨p, z⟩))
      · exact A.fresh a (.inr ⟨j, keptF_sub z⟩)
  · rcases cases2 z with ⟨p, hp, z⟩ | ⟨hns, z⟩
    · exact f.2.2 p nno z
    · exact f.1 (.inr ⟨j, hns, fun z' => hj (List.mem_append_left _ z'), keptF_sub z⟩)
end
end Eng
namespace Eng
open PySem PySem.Spec PyProof.Rows L2 RT
/-! ### displays of dicts -/
section
variable {K : PySem.W.Frag} {w : World} {M : Addr → Prop} {H H1 H2 H3 : Hp} {F F1 F2 : Foot} {ρ ρ1 ρ2 : Rho} {σ σ1 σ2 : L2.St} {T T1 T2 : List Addr} {Fy : Addr → Prop}
mutual
theorem Dn.nkS : ∀ {v : V} {d : D} {S : List Addr} {n : NestedKey}, Dn K w H Fy v d S → d.nk = some n → S = []
  | _, _, _, _, .non, _ => rfl
  | _, _, _, _, .bl b, _ => rfl
  | _, _, _, _, .int i, _ => rfl
  | _, _, _, _, .str x, _ => rfl
  | _, _, _, _, .tup (ds := ds) h r, e => by
    simp only [D.nk, Option.map_eq_some_iff] at e
    obtain ⟨ks, e, _⟩ := e
    exact DnL.nkS r e
  | _, _, _, _, .lstF h r, e => rfl
  | _, _, _, _, .lstO h r, e => by simp [D.nk] at e
  | _, _, _, _, .dctF h g k r n, e => rfl
  | _, _, _, _, .dctK h k r n, e => rfl
  | _, _, _, _, .dctO h k r n, e => by simp [D.nk] at e
theorem DnL.nkS : ∀ {vs : List V} {ds : List D} {S : List Addr} {ns : List NestedKey}, DnL K w H Fy vs ds S → nkL ds = some ns → S = []
  | _, _, _, _, .nil, _ => rfl
  | _, _, _, _, .cons h r, e => by
    simp only [nkL] at e
    split at e
    · rename_i k ks e1 e2
      rw [Dn.nkS h e1, DnL.nkS r e2]; rfl
    · cases e
end
def flatTA : List (TE × TE) → TA
  | [] => tNil
  | (tk, tv) :: r => tCons tk (tCons tv (flatTA r))
def pairUp : List V → List (V × V)
  | x :: y :: r => (x, y) :: pairUp r
  | _ => []
theorem tPairs_flat : ∀ (trs : List (TE × TE)) (σ : L2.St) (H : Hp) (Q : List (V × V) → Hp → Prop), tPairs trs σ H Q = flatTA trs σ H (fun vs H' => Q (pairUp vs) H')
  | [], σ, H, Q => rfl
  | (tk, tv) :: r, σ, H, Q => by
    show tk σ H (fun x H1 => tv σ H1 fun y H2 => tPairs r σ H2 fun ps H3 => Q ((x, y) :: ps) H3) = tk σ H (fun x H1 => tv σ H1 fun y H2 => flatTA r σ H2 fun vs H3 => Q ((x, y) :: pairUp vs) H3)
    congr 1
    funext x H1
    congr 1
    funext y H2
    exact tPairs_flat r σ H2 _
/-- the pairs stored one by one -/
def StoreAll (K : PySem.W.Frag) (w : World) (a : Addr) : List (V × V) → Hp → (Hp → Prop) → Prop
  | [], H, Q => Q H
  | (k, v) :: r, H, Q => DcPut K w a k v H fun H' => StoreAll K w a r H' Q
def tDisplay (K : PySem.W.Frag) (w : World) (trs : List (TE × TE)) : TE := fun σ H Q => ∀ p, H p = none → ∀ ob0, DcOk p ob0 #[] → tPairs trs σ (upd H p (rawO p ob0)) fun ps H2 => H2 p = some (rawO p ob0) ∧ StoreAll K w p ps H2 (Q (.ref p))
theorem mkD_len : ∀ {ds : List D} {kvs kvs' : List (D × D)}, mkD ds kvs = some kvs' → ∃ m, ds.length = 2 * m
  | [], _, _, _ => ⟨0, rfl⟩
  | [_], _, _, h => by cases h
  | k :: v :: r, kvs, kvs', h => by
    simp only [mkD] at h
    split at h
    · obtain ⟨_, h⟩ := chk_some h
      obtain ⟨m, e⟩ := mkD_len h
      exact ⟨m + 1, by simp [e]; omega⟩
    · cases h
theorem store_all {a : Addr} : ∀ {vs : List V} {ds : List D} {T3 S3 : List Addr} {kvs kvs' : List (D × D)} {es : Array DictEntry} {ob : Obj} {H3 : Hp} {Q : Hp → Prop}, H3 a = some (rawO a ob) → DcOk a ob es → DnE K w H3 Fy es.toList kvs S3 → (kvs.map fun p => p.1.nk).Nodup → DnL K w H3 Fy vs ds T3 →
    a ∉ S3 → a ∉ T3 → S3.Nodup → T3.Nodup → (∀ b ∈ S3, b ∉ T3) → mkD ds kvs = some kvs' → (∀ b, Fy b → b ≠ a) →
    (∀ H' ob' es' S', (∀ b, b ≠ a → H' b = H3 b) → H' a = some (rawO a ob') → DcOk a ob' es' → DnE K w H' Fy es'.toList kvs' S' → (kvs'.map fun p => p.1.nk).Nodup → S'.Nodup → (∀ b ∈ S', b ∈ S3 ∨ b ∈ T3) → Q H') → StoreAll K w a (pairUp vs) H3 Q
  | _, _, _, S3, kvs, kvs', es, ob, H3, Q, hH, k, r, nk, .nil, _, _, n3, _, _, e, _, q => by
    cases e
    exact q H3 ob es S3 (fun _ _ => rfl) hH k r nk n3 fun b hb => .inl hb
  | _, _, _, S3, kvs, kvs', es, ob, H3, Q, hH, k, r, nk, .cons h .nil, _, _, _, _, _, e, _, q => by cases e
  | _, _, _, S3, kvs, kvs', es, ob, H3, Q, hH, k, r, nk, .cons (v := v) (d := d) (S := Sk) h (.cons (v := v2) (d := d2) (vs := vs) (ds := ds) (S := Sv) (S' := Sr) h2 hr), a3, aT, n3, nT, dj, e, hfy, q => by
    simp only [mkD] at e
    split at e
    · rename_i n en
      obtain ⟨hz, e⟩ := chk_some e
      have hz := fits_le hz
      have := h.nkS (dKey_some en).1
      subst this
      rw [List.nil_append] at aT nT dj q
      have mT := List.nodup_append.mp nT
      refine ⟨ob, es, kvs, S3, Fy, d, n, hH, k, r, nk, h, en, by omega, fun ob' es' k' hp => ?_⟩
      obtain ⟨S2, r2, n2, s2⟩ := r.put nk h en h2 hp n3 mT.1 fun b hb z => dj b hb (List.mem_append_left _ z)
      have nt : ∀ xs, ¬ Rd H3 a (.tup xs) := fun xs z => by rcases z with z | ⟨_, z⟩ <;> (rw [hH] at z; cases z)
      have a2 : a ∉ S2 := fun z => (s2 a z).elim a3 fun z => aT (List.mem_append_left _ z)
      have ar : a ∉ Sr := fun z => aT (List.mem_append_right _ z)
      have cc : ∀ {S : List Addr}, a ∉ S → Carry H3 (upd H3 a (rawO a ob')) Fy Fy S := fun ha => Carry.atR (o1 := .own 0) nt (fun b _ _ f => ⟨hfy b f, f⟩) ha
      refine store_all (vs := vs) (ds := ds) upd_same k' (r2.carry (cc a2)) (dSet_keys nk) (hr.carry (cc ar)) a2 ar n2 mT.2.1 (fun b hb z => ?_) e hfy fun H' ob2 es2 S' g1 g2 g3 g4 g5 g6 g7 => q H' ob2 es2 S' (fun b hb => by rw [g1 b hb, upd_ne hb]) g2 g3 g4 g5 g6 fun b hb => ?_
      · rcases s2 b hb with z' | z'
        · exact dj b z' (List.mem_append_right _ z)
        · exact mT.2.2 b z' b z rfl
      · rcases g7 b hb with z | z
        · exact (s2 b z).imp id fun z => List.mem_append_left _ z
        · exact .inr (List.mem_append_right _ z)
    · cases e
theorem sf_dct {es : Rho → Option (List D × Rho)} {trs : List (TE × TE)} {pa : Bool} {Va : List Nat} (ha : SFs K w es pa Va (flatTA trs)) : SF K w (fun ρ => (es ρ).bind fun p => (mkD p.1 []).map fun kvs => (.dct true kvs, p.2)) pa Va (tDisplay K w trs) := by
  intro ρ σ H F M d ρ' Q R h q
  obtain ⟨⟨ds, ρ1⟩, e1, h⟩ := Option.bind_eq_some_iff.mp h
  obtain ⟨kvs, e2, h⟩ := Option.map_eq_some_iff.mp h
  cases h
  intro p np ob0 k0
  rw [tPairs_flat]
  have s0 : Same H (upd H p (rawO p ob0)) := Same.updN np
  have R0 : Rep K w (upd H p (rawO p ob0)) (fun a => M a ∨ a ∈ [p]) ρ σ F := R.grow s0 (fun a z => by rw [List.mem_singleton.mp z]; exact np) fun a z => by rw [List.mem_singleton.mp z, upd_same]; exact fun z => by cases z
  refine ha ρ σ _ F _ ds ρ1 _ R0 e1 fun vs H2 F2 T A hv => ?_
  have pM : p ∉ T := fun z => A.tM p z (.inr (List.mem_singleton_self p))
  have pF : ∀ i, p ∉ F i := fun i z => R.thereN z np
  have h2 : H2 p = some (rawO p ob0) := A.keep p _ upd_same pF
  refine ⟨h2, store_all h2 k0 .nil List.nodup_nil hv nno pM List.nodup_nil A.nd (fun _ => nno) e2 (fun b f => fun z => f.1 (.inr (by rw [z]; exact List.mem_singleton_self p))) fun H' ob' es' S' g1 g2 g3 g4 g5 g6 g7 => ?_⟩
  have g7' : ∀ b ∈ S', b ∈ T := fun b hb => (g7 b hb).elim nno id
  have pS : p ∉ S' := fun z => pM (g7' p z)
  have nt : ∀ xs, ¬ Rd H2 p (.tup xs) := fun xs z => by rcases z with z | ⟨_, z⟩ <;> (rw [h2] at z; cases z)
  have hH' : H' = upd H2 p (rawO p ob') := by
    funext b
    by_cases hb : b = p
    · rw [hb, g2, upd_same]
    · rw [g1 b hb, upd_ne hb]
  have sub : ∀ a, a ∈ p :: S' → a = p ∨ a ∈ T := fun a ha => (List.mem_cons.mp ha).imp id (g7' a)
  have RR : Rep K w H' (fun a => M a ∨ a ∈ p :: S') ρ1 σ F2 := by
    rw [hH']
    exact ((A.rep.updN (o := rawO p ob') h2 nt (.inl (.inr (List.mem_singleton_self p))))).weak fun a m => m.elim (fun m => .inl (.inl m)) fun m => (sub a m).elim (fun z => .inl (.inr (by rw [z]; exact List.mem_singleton_self p))) .inr
  refine q (.ref p) H' F2 (p :: S') ⟨RR, fun b o hb hf => ?_, fun a ha => ?_, List.nodup_cons.mpr ⟨pS, g6⟩, fun a ha m => ?_, fun hp => ?_⟩ (.dctO g2 g3 (g4.keyFz fun a f => ⟨fun m => f.1 (.inl m), fun z => (sub a z).elim (fun z => f.1 (.inr (by rw [z]; exact List.mem_singleton_self p))) f.2.1, f.2.2⟩) g5)
  · have hbp : b ≠ p := fun z => by rw [z, np] at hb; cases hb
    rw [g1 b hbp]
    exact A.keep b o (s0 _ _ hb) hf
  · have back : ((∃ i, a ∈ F i) ∨ upd H p (rawO p ob0) a = none) → (∃ i, a ∈ F i) ∨ H a = none := fun z => z.imp id fun z => by
      by_cases hb : a = p
      · rw [hb]; exact np
      · rw [upd_ne hb] at z; exact z
    rcases ha with ha | ha
    · rcases sub a ha with z | z
      · rw [z]; exact .inr np
      · exact back (A.fresh a (.inl z))
    · exact back (A.fresh a (.inr ha))
  · rcases sub a ha with z | z
    · rw [z] at m; exact R.dom p m np
    · exact A.tM a z (.inl m)
  · obtain ⟨a1, a2, a3, a4⟩ := A.pur hp
    refine ⟨a1, a2, fun b o hb => ?_, fun a ha => ?_⟩
    · have hbp : b ≠ p := fun z => by rw [z, np] at hb; cases hb
      rw [g1 b hbp]
      exact a3 _ _ (s0 _ _ hb)
    · rcases sub a ha with z | z
      · rw [z]; exact np
      · have := a4 a z
        by_cases hb : a = p
        · rw [hb]; exact np
        · rw [upd_ne hb] at this; exact this
end
section
variable {X : Cx}
theorem dc_empty (h : Heap) (hb : sysModules < h.objs.size) : DcOk h.objs.size { cls := .type "dict", data := .dict #[] } #[] :=
  ⟨⟨rfl, rfl, rfl⟩, ⟨0, rfl⟩, beq_eq_false_iff_ne.mpr (Ne.symm (Nat.ne_of_lt hb)), Nat.zero_le _⟩
theorem pe_display0 {pos : Pos} : PE X (.Dict [] [] pos) (tDisplay X.K X.w []) := ⟨fun pins s σ H Q I h => by
  have hn := I.hok.fresh (Nat.le_refl s.heap.objs.size)
  obtain ⟨_, q⟩ := h _ hn _ (dc_empty s.heap I.big)
  refine wpAny_Dict_empty ⟨.ref s.heap.objs.size, _, I.laid (a := s.heap.objs.size) (t' := s.toks) (fun _ _ q => Heap.get?_push_of_some _ q) (Nat.le_refl _) (rawO_ok (Heap.get?_push_size _ rfl)), rfl, q⟩⟩
theorem storeAll_cons (a : Addr) (w : Value × Value) (ws : List (Value × Value)) : storeAll a (w :: ws) = (do dictSet a w.1 w.2; storeAll a ws) := by
  show (forIn (w :: ws) PUnit.unit _ : Sem PUnit) = _
  rw [List.forIn_cons]
  simp only [bind_assoc, pure_bind]
  rfl
theorem storeAll_D {A : Around} {E : Value → Shared → Prop} (hu : A.units + 8 < cLine) {pins : List (Addr × Obj)} {σ : L2.St} {a : Addr} : ∀ (ps : List (V × V)) (ws : List (Value × Value)) (H : Hp) (s : Shared) (R : Hp → Prop) (Q : Unit → Shared → Prop), Inv X pins σ H s → VV ps ws → StoreAll X.K X.w a ps H R →
    (∀ s' H', Inv X pins σ H' s' → R H' → Q () s') → wpAny (model X.prog X.w) A (storeAll a ws) Q E s := by
  intro ps
  induction ps with
  | nil =>
    intro ws H s R Q I r g q
    cases r
    exact wpAny_pure (q s H I g)
  | cons p ps ih =>
    intro ws H s R Q I r g q
    cases r with
    | cons r t =>
      rw [storeAll_cons]
      exact wpAny_bind (dictSet_D I hu g r.1 r.2 fun s' H' I' g' => ih _ _ _ _ _ I' t g' q)
theorem pe_display {pos : Pos} {keys : List (Option Expr)} {values : List Expr} {trs : List (TE × TE)} (hu : X.A.units + 9 < cLine) (h : PPs X pos keys values trs) (hall : keys.all (·.isSome) = true) (hl : keys.length = values.length) (h0 : keys ≠ [])
    (h15 : keys.length ≤ 15) : PE X (.Dict keys values pos) (tDisplay X.K X.w trs) := by
  refine ⟨fun pins s σ H Q I q => ?_⟩
  have hn := I.hok.fresh (Nat.le_refl s.heap.objs.size)
  have I1 := I.laid (a := s.heap.objs.size) (h' := s.heap.push { cls := .type "dict", data := .dict #[] }) (t' := s.toks) (fun _ _ q => Heap.get?_push_of_some _ q) (Nat.le_refl _) (rawO_ok (o := { cls := .type "dict", data := .dict #[] }) (Heap.get?_push_size _ rfl))
  refine wpAny_Dict_any hall hl h0 h15 (thn (h.run pins _ σ _ _ I1 (q _ hn _ (dc_empty s.heap I.big))) fun ws s2 ⟨ps, H2, I2, rel, e, q2⟩ => ?_)
  exact storeAll_D (by omega) _ _ _ _ _ _ I2 rel q2 fun s' H' I' q' => ⟨.ref s.heap.objs.size, H', I', rfl, q'⟩
end
end Eng
namespace Eng
open PySem PySem.Spec PyProof.Rows L2 RT
section
variable {c : Cfg} {s : Sco} {a b d : Ex} {x y z : Expr} {nm : Str} {i : Nat} {pos : Pos}
/-! ### pop, displays of dicts, calls that change what they are handed -/
theorem ge_pop {p1 p2 cpos : Pos} (h1 : slot s i nm = true) (h2 : visB s nm = true) (hl : (p2.endLine == cpos.line) = true) : GE c s (.pop i) (.Call (.Attribute (.Name nm p1) "pop" p2) [] [] cpos) := by
  refine ⟨_, fun X g => ?_, (sf_pop (i := i)).cg (fun ρ => by rw [evE])⟩
  have hv : PE X (.Name nm p1) (tVar i) := pe_var (g.slot h1) (g.vis h2) (dbg_ok (visB_ok h2).2).1 (dbg_ok (visB_ok h2).2).2.1
  rw [← g.hK]
  exact pe_bm0 F.plainAttrs_list F.slot_list_pop F.type_list_pop mt_pop hv rfl hl
theorem ge_popAt {p1 p2 cpos : Pos} (h1 : slot s i nm = true) (h2 : visB s nm = true) (ha : GE c s a x) (hx : noStar x = true) (hl : (p2.endLine == cpos.line) = true) : GE c s (.popAt i a) (.Call (.Attribute (.Name nm p1) "pop" p2) [x] [] cpos) := by
  obtain ⟨t, a1, a2⟩ := ha
  refine ⟨_, fun X g => ?_, (sf_popAt (i := i) a2).cg (fun ρ => by rw [evE])⟩
  have hv : PE X (.Name nm p1) (tVar i) := pe_var (g.slot h1) (g.vis h2) (dbg_ok (visB_ok h2).2).1 (dbg_ok (visB_ok h2).2).2.1
  have hs : [x].all noStar = true := by simp [hx]
  rw [← g.hK]
  exact pe_bm F.plainAttrs_list F.slot_list_pop F.type_list_pop mt_popAt hv (pa_cons (a1 X g) pa_nil (star_one hx _ _)) rfl (few_ok hs (by decide) X.env cpos) hl (star_one hx _ _) (star_any (xs := []) rfl _ _)
def GEl (c : Cfg) (s : Sco) : Exs → List Expr → Prop
  | .nil, xs => xs = []
  | .cons e es, x :: xs => GE c s e x ∧ GEl c s es xs
  | .cons _ _, [] => False
def flatKV : List (Option Expr) → List Expr → Option (List Expr)
  | [], [] => some []
  | some k :: ks, v :: vs => (flatKV ks vs).map fun r => k :: v :: r
  | _, _ => none
theorem gd_pairs : ∀ {keys : List (Option Expr)} {values xs : List Expr} {es : Exs}, flatKV keys values = some xs → GEl c s es xs → keys.all (·.isSome) = true ∧ keys.length = values.length ∧
    ∃ trs, (∀ X, Gd c s X → PPs X pos keys values trs) ∧ SFs c.K c.w (evEs c.S es) es.pure es.vars (flatTA trs)
  | [], [], xs, es, h, g => by
    cases h
    cases es with
    | nil => exact ⟨rfl, rfl, [], fun X _ => pps_nil, sfs_nil.cg fun ρ => by rw [evEs]⟩
    | cons e es => cases g
  | some k :: ks, v :: vs, xs, es, h, g => by
    obtain ⟨r, e1, e2⟩ := Option.map_eq_some_iff.mp (show (flatKV ks vs).map (fun r => k :: v :: r) = some xs from h)
    subst e2
    match es, g with
    | .cons ek (.cons ev es), ⟨⟨tk, k1, k2⟩, ⟨tv, v1, v2⟩, g⟩ =>
      obtain ⟨h1, h2, trs, h3, h4⟩ := gd_pairs e1 g
      have q2 : SFs c.K c.w (evEs c.S (.cons ev es)) (Exs.cons ev es).pure (Exs.cons ev es).vars (tCons tv (flatTA trs)) := (sfs_cons v2 h4).cg fun ρ => by rw [evEs]
      have q3 : SFs c.K c.w (evEs c.S (.cons ek (.cons ev es))) (Exs.cons ek (.cons ev es)).pure (Exs.cons ek (.cons ev es)).vars (tCons tk (tCons tv (flatTA trs))) := (sfs_cons k2 q2).cg fun ρ => by rw [evEs]
      exact ⟨by simpa using h1, by simp [h2], (tk, tv) :: trs, fun X gd => pps_cons (k1 X gd) (v1 X gd) (h3 X gd), q3⟩
  | [], _ :: _, _, _, h, _ => by cases h
  | none :: _, _, _, _, h, _ => by cases h
  | some _ :: _, [], _, _, h, _ => by cases h
theorem ge_dct {keys : List (Option Expr)} {values xs : List Expr} {es : Exs} (hf : flatKV keys values = some xs) (g : GEl c s es xs) (h15 : keys.length ≤ 15) : GE c s (.dct es) (.Dict keys values pos) := by
  by_cases h0 : keys = []
  · subst h0
    cases values with
    | cons _ _ => cases hf
    | nil =>
      cases hf
      cases es with
      | cons _ _ => cases g
      | nil =>
        refine ⟨tDisplay c.K c.w [], fun X gd => by rw [← gd.hK, ← gd.hw]; exact pe_display0, (sf_dct (es := evEs c.S .nil) (pa := Exs.pure .nil) (Va := Exs.vars .nil) (trs := []) (SFs.cg sfs_nil fun ρ => by rw [evEs])).cg fun ρ => by rw [evE]⟩
  · obtain ⟨h1, h2, trs, h3, h4⟩ := gd_pairs (pos := pos) hf g
    refine ⟨tDisplay c.K c.w trs, fun X gd => ?_, (sf_dct h4).cg fun ρ => by rw [evE]⟩
    rw [← gd.hK, ← gd.hw]
    exact pe_display gd.hu9 (h3 X gd) h1 h2 h0 h15
/-- names at the io places -/
def ioStat (io : List (Nat × Nat)) : Nat → Exs → Bool
  | _, .nil => true
  | p, .cons e es => (match io.lookup p with
      | some i => e.isVar i
      | none => true) && ioStat io (p + 1) es
theorem isVar_ok {i : Nat} {e : Ex} (h : e.isVar i = true) : e = .var i := by
  cases e <;> first | (cases h; done) | skip
  have : i = _ := eq_of_beq h
  rw [this]
/-- what the checker tells of each argument: its judgement; a name where it is one -/
def GAl (c : Cfg) (s : Sco) : Exs → List Expr → Prop
  | .nil, xs => xs = []
  | .cons e es, x :: xs => (GE c s e x ∧ ∀ i, e = .var i → ∃ nm p, x = .Name nm p ∧ slot s i nm = true ∧ visB s nm = true) ∧ GAl c s es xs
  | .cons _ _, [] => False
theorem ga_ok {io : List (Nat × Nat)} : ∀ {es : Exs} {xs : List Expr} {p : Nat}, GAl c s es xs → xs.all noStar = true → ioStat io p es = true → ∃ t, (∀ X, Gd c s X → PA X xs t) ∧ SFA c.K c.w c.S io p es t
  | .nil, xs, p, g, _, _ => by cases g; exact ⟨_, fun X _ => pa_nil, sfa_nil⟩
  | .cons e es, [], p, g, _, _ => by cases g
  | .cons e es, x :: xs, p, g, hs, hi => by
    obtain ⟨⟨⟨te, a1, a2⟩, gv⟩, gr⟩ := g
    simp only [ioStat, Bool.and_eq_true] at hi
    obtain ⟨t, h1, h2⟩ := ga_ok (p := p + 1) gr (allStar_cons hs).2 hi.2
    cases hl : io.lookup p with
    | none => exact ⟨_, fun X gd => pa_cons (a1 X gd) (h1 X gd) (star_one (allStar_cons hs).1 xs X.env), sfa_cons hl a2 h2⟩
    | some i =>
      have hv := hi.1
      rw [hl] at hv
      have := isVar_ok hv
      subst this
      obtain ⟨nm, pp, rfl, k1, k2⟩ := gv i rfl
      exact ⟨_, fun X gd => pa_cons (pe_var (gd.slot k1) (gd.vis k2) (dbg_ok (visB_ok k2).2).1 (dbg_ok (visB_ok k2).2).2.1) (h1 X gd) (star_one (allStar_cons hs).1 xs X.env), sfa_var hl h2⟩
theorem ge_callIO (ok : c.Ok) {f : Str} {n : Nat} {p : Pos} {io : List (Nat × Nat)} {es : Exs} {xs : List Expr} (hf : c.fns.lookup f = some (n, io.map (·.1))) (h1 : glB s f = true) (g : GAl c s es (x :: xs)) (hs : (x :: xs).all noStar = true)
    (hi : ioStat io 0 es = true) (wf1 : (io.map (·.1)).Nodup) (wf2 : (io.map (·.2)).Nodup) (wf3 : ∀ q ∈ io, q.1 < n) : GE c s (.callIO f es io) (.Call (.Name f p) (x :: xs) [] pos) := by
  obtain ⟨t, a1, a2⟩ := ga_ok g hs hi
  obtain ⟨k1, k2⟩ := ok.call f n _ hf
  refine ⟨_, fun X g => C8.pe_c (k := c.n) (j := c.n) (sp := spD c.K c.w n (io.map (·.1)) (c.S.call f)) (dvs := []) ?_ g.room (Nat.le_refl _) (g.gl h1).1 (a1 X g) (dbg_ok (g.gl h1).2).1 (star_one (allStar_cons hs).1 xs X.env) (star_any (allStar_cons hs).2 X.env pos),
    (sf_callIO (E := C8.E0) wf1 wf2 wf3 a2 k2).cg fun ρ => by rw [evE]⟩
  rw [g.hP, g.hw, g.hK, g.hmg, g.hbase]
  exact k1
end
end Eng
namespace Eng
open PySem PySem.Spec PyProof.Rows L2 RT
/-! ### the checker: a text of the intermediate kind against the syntax tree -/
structure Sg where
  fns : List (Str × Nat × List Nat)
  gls : List Str
def okCon (d : D) (x : Expr) : Bool := match d, x with
  | .int i, .Constant (.int j) _ _ => decide (i = j)
  | .bl b, .Constant (.bool b') _ _ => decide (b = b')
  | .non, .Constant .none _ _ => true
  | .str z, .Constant (.str z') _ _ => decide (z = z')
  | _, _ => false
def okG (s : Sco) : Tgt → Expr → Bool
  | .nm i, x => (match x with | .Name nm _ => slot s i nm && locB s nm | _ => false)
  | .tp is, x => (match x with | .Tuple xs _ _ => okNs s is xs | _ => false)
def tgTup : Expr → Bool
  | .Tuple _ _ _ => true
  | _ => false
mutual
def okE (sg : Sg) (s : Sco) : Ex → Expr → Bool
  | .var i, x => (match x with | .Name nm _ => slot s i nm && visB s nm | _ => false)
  | .mov i, x => (match x with | .Name nm _ => slot s i nm && visB s nm | _ => false)
  | .con d, x => okCon d x
  | .glo g, x => (match x with | .Name nm _ => decide (g = nm) && glB s nm && decide (nm ∈ sg.gls) | _ => false)
  | .bin o a b, x => (match x with | .BinOp p op q _ => decide (op = o.py) && okE sg s a p && okE sg s b q | _ => false)
  | .cmp o a b, x => (match x with | .Compare p [op] [q] _ => decide (op = o.py) && okE sg s a p && okE sg s b q && noSetX q | _ => false)
  | .cmp2 o o' a b d, x => (match x with | .Compare p [op, op'] [q, r] _ => decide (op = o.py) && decide (op' = o'.py) && okE sg s a p && okE sg s b q && okE sg s d r && noSetX r | _ => false)
  | .neg a, x => (match x with | .UnaryOp .USub p _ => okE sg s a p | _ => false)
  | .not a, x => (match x with | .UnaryOp .Not p _ => okE sg s a p | _ => false)
  | .and es, x => (match x with | .BoolOp .And xs _ => okL sg s es xs && !es.isNil | _ => false)
  | .or es, x => (match x with | .BoolOp .Or xs _ => okL sg s es xs && !es.isNil | _ => false)
  | .ife d a b, x => (match x with | .IfExp r p q _ => okT sg s d r && okE sg s a p && okE sg s b q | _ => false)
  | .sub a b, x => (match x with | .Subscript p q _ => okE sg s a p && okE sg s b q && plainIxB q | _ => false)
  | .slc a lo hi, x => (match x with | .Subscript p (.Slice l h none _) _ => okE sg s a p && okO sg s lo l && okO sg s hi h | _ => false)
  | .tup es, x => (match x with | .Tuple xs _ _ => okL sg s es xs && xs.all noStar | _ => false)
  | .lst es, x => (match x with | .List xs _ => okL sg s es xs && xs.all noStar | _ => false)
  | .dct es, x => (match x with | .Dict ks vs _ => (match flatKV ks vs with | some xs => okL sg s es xs && decide (ks.length ≤ 15) | none => false) | _ => false)
  | .call f es, x => (match x with | .Call (.Name g _) xs [] _ => decide (f = g) && glB s g && (match sg.fns.lookup g with | some (_, []) => true | _ => false) && okL sg s es xs && xs.all noStar | _ => false)
  | .callIO f es io, x => (match x with | .Call (.Name g _) (p :: xs) [] _ => decide (f = g) && glB s g && (match sg.fns.lookup g with | some (n, l) => decide (l = io.map (·.1)) && io.all (fun q => decide (q.1 < n)) | none => false) && okL sg s es (p :: xs) && (p :: xs).all noStar && ioStat io 0 es && decide (io.map (·.1)).Nodup && decide (io.map (·.2)).Nodup | _ => false)
  | .blt b es, x => (match b.nest with
    | some fg => (match x with | .Call (.Name f _) [.Call (.Name g _) [y] [] _] [] _ => decide (fg = (f, g)) && glB s f && glB s g && okL sg s es [y] && noStar y | _ => false)
    | none => (match x with | .Call (.Name g _) (p :: xs) [] _ => decide (b.nm = g) && b.ok && glB s g && okL sg s es (p :: xs) && (p :: xs).all noStar | _ => false))
  | .mth m a es, x => (match x with
    | .Call (.Attribute p nm p2) xs [] pos => decide (m.nm = nm) && okE sg s a p && okL sg s es xs && xs.all noStar && baseB p && decide (p2.endLine = pos.line) && (match m with
      | .upper => xs.isEmpty
      | m => m.argd && decide (1 ≤ xs.length ∧ xs.length < 29))
    | _ => false)
  | .isi a t, x => (match x with | .Call (.Name f _) [p, .Name tn _] [] _ => decide (f = "isinstance") && decide (tn = t.nm) && glB s "isinstance" && glB s t.nm && okE sg s a p && noStar p | _ => false)
  | .comp e t it o, x => (match x with | .ListComp elt [⟨tg, iter, ifs, 0⟩] scope _ => okI sg s it tg iter && okG (inS s scope) t tg && okC sg (inS s scope) o ifs && okE sg (inS s scope) e elt && blkC s.N s.sc scope (ownOf s t.slots) | _ => false)
  | .pop i, x => (match x with | .Call (.Attribute (.Name nm _) m p2) [] [] cpos => slot s i nm && visB s nm && decide (m = "pop") && (p2.endLine == cpos.line) | _ => false)
  | .popAt i k, x => (match x with | .Call (.Attribute (.Name nm _) m p2) [v] [] cpos => slot s i nm && visB s nm && okE sg s k v && noStar v && decide (m = "pop") && (p2.endLine == cpos.line) | _ => false)
  | .stuck, _ => true
def okT (sg : Sg) (s : Sco) : Ex → Expr → Bool
  | .not a, x => (match x with | .UnaryOp .Not p _ => okT sg s a p | _ => false)
  | .and es, x => (match x with | .BoolOp .And xs _ => okTl sg s es xs && !es.isNil | _ => false)
  | .or es, x => (match x with | .BoolOp .Or xs _ => okTl sg s es xs && !es.isNil | _ => false)
  | .cmp o a b, x => (match x with | .Compare p [op] [q] _ => decide (op = o.py) && okE sg s a p && okE sg s b q && noSetX q | _ => false)
  | .cmp2 o o' a b d, x => (match x with | .Compare p [op, op'] [q, r] _ => decide (op = o.py) && decide (op' = o'.py) && okE sg s a p && okE sg s b q && okE sg s d r && noSetX r | _ => false)
  | .var i, x => (match x with | .Name nm _ => slot s i nm && visB s nm | _ => false)
  | .con d, x => okCon d x && plainT x
  | .glo g, x => (match x with | .Name nm _ => decide (g = nm) && glB s nm && decide (nm ∈ sg.gls) | _ => false)
  | .bin o a b, x => (match x with | .BinOp p op q _ => decide (op = o.py) && okE sg s a p && okE sg s b q | _ => false)
  | .sub a b, x => (match x with | .Subscript p q _ => okE sg s a p && okE sg s b q && plainIxB q | _ => false)
  | .call f es, x => (match x with | .Call (.Name g _) xs [] _ => decide (f = g) && glB s g && (match sg.fns.lookup g with | some (_, []) => true | _ => false) && okL sg s es xs && xs.all noStar | _ => false)
  | .blt b es, x => (match b.nest with
    | some fg => (match x with | .Call (.Name f _) [.Call (.Name g _) [y] [] _] [] _ => decide (fg = (f, g)) && glB s f && glB s g && okL sg s es [y] && noStar y | _ => false)
    | none => (match x with | .Call (.Name g _) (p :: xs) [] _ => decide (b.nm = g) && b.ok && glB s g && okL sg s es (p :: xs) && (p :: xs).all noStar | _ => false))
  | .mth m a es, x => (match x with
    | .Call (.Attribute p nm p2) xs [] pos => decide (m.nm = nm) && okE sg s a p && okL sg s es xs && xs.all noStar && baseB p && decide (p2.endLine = pos.line) && (match m with
      | .upper => xs.isEmpty
      | m => m.argd && decide (1 ≤ xs.length ∧ xs.length < 29))
    | _ => false)
  | .isi a t, x => (match x with | .Call (.Name f _) [p, .Name tn _] [] _ => decide (f = "isinstance") && decide (tn = t.nm) && glB s "isinstance" && glB s t.nm && okE sg s a p && noStar p | _ => false)
  | .callIO f es io, x => (match x with | .Call (.Name g _) (p :: xs) [] _ => decide (f = g) && glB s g && (match sg.fns.lookup g with | some (n, l) => decide (l = io.map (·.1)) && io.all (fun q => decide (q.1 < n)) | none => false) && okL sg s es (p :: xs) && (p :: xs).all noStar && ioStat io 0 es && decide (io.map (·.1)).Nodup && decide (io.map (·.2)).Nodup | _ => false)
  | .stuck, _ => true
  | _, _ => false
def okL (sg : Sg) (s : Sco) : Exs → List Expr → Bool
  | .nil, xs => xs.isEmpty
  | .cons e es, xs => (match xs with | x :: xs => okE sg s e x && okL sg s es xs | _ => false)
def okTl (sg : Sg) (s : Sco) : Exs → List Expr → Bool
  | .nil, xs => xs.isEmpty
  | .cons e es, xs => (match xs with | x :: xs => okT sg s e x && okTl sg s es xs | _ => false)
def okO (sg : Sg) (s : Sco) : Ox → Option Expr → Bool
  | .none, x => x.isNone
  | .some e, x => (match x with | some x => okE sg s e x | _ => false)
def okC (sg : Sg) (s : Sco) : Ox → List Expr → Bool
  | .none, xs => xs.isEmpty
  | .some e, xs => (match xs with | [x] => okT sg s e x | _ => false)
def okI (sg : Sg) (s : Sco) : Eng.Itr → Expr → Expr → Bool
  | .of e, _, x => okE sg s e x && noSet x
  | .range es, _, x => (match x with | .Call (.Name g _) xs [] _ => decide (g = "range") && glB s "range" && okL sg s es xs && xs.all noStar && decide (1 ≤ xs.length ∧ xs.length ≤ 3) | _ => false)
  | .enum e, tg, x => (match x with | .Call (.Name g _) [p] [] _ => decide (g = "enumerate") && glB s "enumerate" && okE sg s e p && noStar p && tgTup tg | _ => false)
  | .zip a b, tg, x => (match x with | .Call (.Name g _) [p, q] [] _ => decide (g = "zip") && glB s "zip" && okE sg s a p && okE sg s b q && noStar p && noStar q && tgTup tg | _ => false)
  | .rev e, _, x => (match x with | .Call (.Name g _) [p] [] _ => decide (g = "reversed") && glB s "reversed" && okE sg s e p && noStar p | _ => false)
  | .revRange _, _, _ => false
end
end Eng
namespace Eng
open PySem PySem.Spec PyProof.Rows L2 RT
def GTl (c : Cfg) (s : Sco) : Exs → List Expr → Prop
  | .nil, xs => xs = []
  | .cons e es, x :: xs => GT c s e x ∧ GTl c s es xs
  | .cons _ _, [] => False
section
variable {c : Cfg} {s : Sco}
theorem GEl.es : ∀ {es : Exs} {xs : List Expr}, GEl c s es xs → xs.all noStar = true → GEs c s es xs
  | .nil, xs, h, _ => by cases h; exact ges_nil
  | .cons e es, [], h, _ => by cases h
  | .cons e es, x :: xs, h, hs => ges_cons h.1 (GEl.es h.2 (allStar_cons hs).2) (allStar_cons hs).1
theorem GEl.len : ∀ {es : Exs} {xs : List Expr}, GEl c s es xs → es.toList.length = xs.length
  | .nil, xs, h => by cases h; rfl
  | .cons e es, [], h => by cases h
  | .cons e es, x :: xs, h => congrArg Nat.succ (GEl.len h.2)
theorem GEl.and : ∀ {es : Exs} {xs : List Expr} {pos : Pos}, GEl c s es xs → es.isNil = false → GAnd c s es xs pos
  | .nil, _, _, _, h => by cases h
  | .cons e es, [], _, h, _ => by cases h
  | .cons e .nil, x :: xs, _, h, _ => by
    have : xs = [] := h.2
    subst this
    exact gand_one h.1
  | .cons e (.cons e' es), [x], _, h, _ => by cases h.2
  | .cons e (.cons e' es), x :: y :: ys, _, h, _ => gand_cons h.1 (GEl.and h.2 rfl)
theorem GEl.or : ∀ {es : Exs} {xs : List Expr} {pos : Pos}, GEl c s es xs → es.isNil = false → GOr c s es xs pos
  | .nil, _, _, _, h => by cases h
  | .cons e es, [], _, h, _ => by cases h
  | .cons e .nil, x :: xs, _, h, _ => by
    have : xs = [] := h.2
    subst this
    exact gor_one h.1
  | .cons e (.cons e' es), [x], _, h, _ => by cases h.2
  | .cons e (.cons e' es), x :: y :: ys, _, h, _ => gor_cons h.1 (GEl.or h.2 rfl)
theorem GTl.and : ∀ {es : Exs} {xs : List Expr} {pos : Pos}, GTl c s es xs → es.isNil = false → GAndT c s es xs pos
  | .nil, _, _, _, h => by cases h
  | .cons e es, [], _, h, _ => by cases h
  | .cons e .nil, x :: xs, _, h, _ => by
    have : xs = [] := h.2
    subst this
    exact gandT_one h.1
  | .cons e (.cons e' es), [x], _, h, _ => by cases h.2
  | .cons e (.cons e' es), x :: y :: ys, _, h, _ => gandT_cons h.1 (GTl.and h.2 rfl)
theorem GTl.or : ∀ {es : Exs} {xs : List Expr} {pos : Pos}, GTl c s es xs → es.isNil = false → GOrT c s es xs pos
  | .nil, _, _, _, h => by cases h
  | .cons e es, [], _, h, _ => by cases h
  | .cons e .nil, x :: xs, _, h, _ => by
    have : xs = [] := h.2
    subst this
    exact gorT_one h.1
  | .cons e (.cons e' es), [x], _, h, _ => by cases h.2
  | .cons e (.cons e' es), x :: y :: ys, _, h, _ => gorT_cons h.1 (GTl.or h.2 rfl)
theorem okCon_ok {d : D} {x : Expr} (h : okCon d x = true) : GE c s (.con d) x := by
  unfold okCon at h
  split at h
  · cases of_decide_eq_true h; exact ge_con (v := .int _) (fun X => pe_int) fun H Fy => .int _
  · cases of_decide_eq_true h; exact ge_con (v := .bl _) (fun X => pe_bl) fun H Fy => .bl _
  · exact ge_con (v := .non) (fun X => pe_non) fun H Fy => .non
  · cases of_decide_eq_true h; exact ge_con (v := .str _) (fun X => pe_str) fun H Fy => .str _
  · cases h
theorem okG_ok {t : Tgt} {x : Expr} (h : okG s t x = true) : GG c s t x := by
  cases t
  · simp only [okG] at h
    split at h
    · simp only [Bool.and_eq_true] at h
      exact gg_nm h.1 h.2
    · cases h
  · simp only [okG] at h
    split at h
    · exact gg_tp h
    · cases h
theorem fns_io {sg : Sg} {g : Str} (h : (match sg.fns.lookup g with | some (_, []) => true | _ => false) = true) : ∃ n, sg.fns.lookup g = some (n, []) := by
  split at h
  · rename_i n e; exact ⟨n, e⟩
  · cases h
theorem ge_callL (ok : c.Ok) {f : Str} {n : Nat} {p pos : Pos} {es : Exs} {xs : List Expr} (hf : c.fns.lookup f = some (n, [])) (h1 : glB s f = true) (h : GEl c s es xs) (hs : xs.all noStar = true) : GE c s (.call f es) (.Call (.Name f p) xs [] pos) := by
  cases es with
  | nil => cases h; exact ge_call0 ok hf h1
  | cons e es =>
    cases xs with
    | nil => cases h
    | cons x xs => exact ge_call ok hf h1 (GEl.es h hs) hs
theorem ge_mthL {m : Mth} {a : Ex} {x : Expr} {es : Exs} {xs : List Expr} {p2 pos : Pos} (ha : GE c s a x) (h : GEl c s es xs) (hs : xs.all noStar = true) (hb : baseB x = true) (hl : p2.endLine = pos.line)
    (hm : (match m with | .upper => xs.isEmpty | m => m.argd && decide (1 ≤ xs.length ∧ xs.length < 29)) = true) : GE c s (.mth m a es) (.Call (.Attribute x m.nm p2) xs [] pos) := by
  have hl' : (p2.endLine == pos.line) = true := by rw [hl]; exact beq_self_eq_true _
  have key : m.argd = true → decide (1 ≤ xs.length ∧ xs.length < 29) = true → GE c s (.mth m a es) (.Call (.Attribute x m.nm p2) xs [] pos) := fun h1 h2 => by
    have h2 := of_decide_eq_true h2
    cases xs with
    | nil => exact absurd h2.1 (by decide)
    | cons y ys => exact ge_mth ha (GEl.es h hs) h1 hs (by have := h2.2; simp at this; omega) hb hl'
  cases m <;> first | exact key (and2 hm).1 (and2 hm).2 | skip
  cases xs with
  | nil =>
    cases es with
    | nil => exact ge_up ha hb hl'
    | cons _ _ => cases h
  | cons _ _ => cases hm
variable {sg : Sg}
theorem not_t {b : Bool} (h : (!b) = true) : b = false := by simpa using h
theorem gal_ok : ∀ {es : Exs} {xs : List Expr}, GEl c s es xs → okL sg s es xs = true → GAl c s es xs
  | .nil, xs, g, _ => g
  | .cons e es, [], g, _ => by cases g
  | .cons e es, x :: xs, g, h => by
    unfold okL at h
    obtain ⟨h1, h2⟩ := and2 h
    refine ⟨⟨g.1, fun i hi => ?_⟩, gal_ok g.2 h2⟩
    subst hi
    unfold okE at h1
    split at h1
    · exact ⟨_, _, rfl, (and2 h1).1, (and2 h1).2⟩
    · cases h1
mutual
theorem okE_ok (ok : c.Ok) (hf : c.fns = sg.fns) (hg : ∀ x ∈ sg.gls, (c.S.glob x).isSome = true) : ∀ (e : Ex) (s : Sco) (x : Expr), okE sg s e x = true → GE c s e x
  | .var i, s, x, h => by
    unfold okE at h; split at h; rotate_left; (cases h)
    exact ge_var (and2 h).1 (and2 h).2
  | .mov i, s, x, h => by
    unfold okE at h; split at h; rotate_left; (cases h)
    exact ge_mov (and2 h).1 (and2 h).2
  | .con d, s, x, h => okCon_ok h
  | .glo g, s, x, h => by
    unfold okE at h; split at h; rotate_left; (cases h)
    obtain ⟨⟨h1, h2⟩, h3⟩ := (⟨and2 (and2 h).1, (and2 h).2⟩ : (_ ∧ _) ∧ _)
    cases of_decide_eq_true h1
    exact ge_glo ok h2 (hg _ (of_decide_eq_true h3))
  | .bin o a b, s, x, h => by
    unfold okE at h; split at h; rotate_left; (cases h)
    simp only [Bool.and_eq_true, decide_eq_true_eq] at h
    obtain ⟨⟨rfl, h1⟩, h2⟩ := h
    exact ge_bin o (okE_ok ok hf hg a s _ h1) (okE_ok ok hf hg b s _ h2)
  | .cmp o a b, s, x, h => by
    unfold okE at h; split at h; rotate_left; (cases h)
    simp only [Bool.and_eq_true, decide_eq_true_eq] at h
    obtain ⟨⟨⟨rfl, h1⟩, h2⟩, h3⟩ := h
    exact ge_cmp o (okE_ok ok hf hg a s _ h1) (okE_ok ok hf hg b s _ h2) h3
  | .cmp2 o o' a b d, s, x, h => by
    unfold okE at h; split at h; rotate_left; (cases h)
    simp only [Bool.and_eq_true, decide_eq_true_eq] at h
    obtain ⟨⟨⟨⟨⟨rfl, rfl⟩, h1⟩, h2⟩, h3⟩, h4⟩ := h
    exact ge_cmp2 o o' (okE_ok ok hf hg a s _ h1) (okE_ok ok hf hg b s _ h2) (okE_ok ok hf hg d s _ h3) h4
  | .neg a, s, x, h => by
    unfold okE at h; split at h; rotate_left; (cases h)
    exact ge_neg (okE_ok ok hf hg a s _ h)
  | .not a, s, x, h => by
    unfold okE at h; split at h; rotate_left; (cases h)
    exact ge_not (okE_ok ok hf hg a s _ h)
  | .and es, s, x, h => by
    unfold okE at h; split at h; rotate_left; (cases h)
    exact ge_and ((okL_ok ok hf hg es s _ (and2 h).1).and (not_t (and2 h).2))
  | .or es, s, x, h => by
    unfold okE at h; split at h; rotate_left; (cases h)
    exact ge_or ((okL_ok ok hf hg es s _ (and2 h).1).or (not_t (and2 h).2))
  | .ife d a b, s, x, h => by
    unfold okE at h; split at h; rotate_left; (cases h)
    simp only [Bool.and_eq_true] at h
    exact ge_ife (okT_ok ok hf hg d s _ h.1.1) (okE_ok ok hf hg a s _ h.1.2) (okE_ok ok hf hg b s _ h.2)
  | .sub a b, s, x, h => by
    unfold okE at h; split at h; rotate_left; (cases h)
    simp only [Bool.and_eq_true] at h
    exact ge_sub (okE_ok ok hf hg a s _ h.1.1) (okE_ok ok hf hg b s _ h.1.2) h.2
  | .slc a lo hi, s, x, h => by
    unfold okE at h; split at h; rotate_left; (cases h)
    simp only [Bool.and_eq_true] at h
    exact ge_slc (okE_ok ok hf hg a s _ h.1.1) (okO_ok ok hf hg lo s _ h.1.2) (okO_ok ok hf hg hi s _ h.2)
  | .tup es, s, x, h => by
    unfold okE at h; split at h; rotate_left; (cases h)
    exact ge_tup ((okL_ok ok hf hg es s _ (and2 h).1).es (and2 h).2)
  | .lst es, s, x, h => by
    unfold okE at h; split at h; rotate_left; (cases h)
    exact ge_lst ((okL_ok ok hf hg es s _ (and2 h).1).es (and2 h).2)
  | .dct es, s, x, h => by
    unfold okE at h; split at h; rotate_left; (cases h)
    split at h
    · rename_i xs e
      simp only [Bool.and_eq_true, decide_eq_true_eq] at h
      exact ge_dct e (okL_ok ok hf hg es s _ h.1) h.2
    · cases h
  | .call f es, s, x, h => by
    unfold okE at h; split at h; rotate_left; (cases h)
    obtain ⟨h, h5⟩ := and2 h
    obtain ⟨h, h4⟩ := and2 h
    obtain ⟨h, h3⟩ := and2 h
    obtain ⟨h1, h2⟩ := and2 h
    cases of_decide_eq_true h1
    obtain ⟨n, e⟩ := fns_io h3
    exact ge_callL ok (by rw [hf]; exact e) h2 (okL_ok ok hf hg es s _ h4) h5
  | .callIO f es io, s, x, h => by
    unfold okE at h; split at h; rotate_left; (cases h)
    simp only [Bool.and_eq_true, decide_eq_true_eq] at h
    obtain ⟨⟨⟨⟨⟨⟨⟨h1, h2⟩, h3⟩, h4⟩, h5⟩, h6⟩, h7⟩, h8⟩ := h
    cases h1
    split at h3
    · rename_i n l e
      simp only [Bool.and_eq_true, decide_eq_true_eq, List.all_eq_true] at h3
      obtain ⟨rfl, h3⟩ := h3
      exact ge_callIO ok (by rw [hf]; exact e) h2 (gal_ok (okL_ok ok hf hg es s _ h4) h4) h5 h6 h7 h8 h3
    · cases h3
  | .blt b es, s, x, h => by
    unfold okE at h
    split at h
    · rename_i fg e
      split at h
      · obtain ⟨h, h5⟩ := and2 h
        obtain ⟨h, h4⟩ := and2 h
        obtain ⟨h, h3⟩ := and2 h
        obtain ⟨h1, h2⟩ := and2 h
        cases of_decide_eq_true h1
        exact ge_nest ok e h2 h3 ((okL_ok ok hf hg es s _ h4).es (by rw [List.all_cons, h5]; rfl)) h5
      · cases h
    split at h; rotate_left; (cases h)
    obtain ⟨h, h5⟩ := and2 h
    obtain ⟨h, h4⟩ := and2 h
    obtain ⟨h, h3⟩ := and2 h
    obtain ⟨h1, h2⟩ := and2 h
    cases of_decide_eq_true h1
    exact ge_blt ok h2 h3 ((okL_ok ok hf hg es s _ h4).es h5) h5
  | .mth m a es, s, x, h => by
    unfold okE at h; split at h; rotate_left; (cases h)
    obtain ⟨h, h7⟩ := and2 h
    obtain ⟨h, h6⟩ := and2 h
    obtain ⟨h, h5⟩ := and2 h
    obtain ⟨h, h4⟩ := and2 h
    obtain ⟨h, h3⟩ := and2 h
    obtain ⟨h1, h2⟩ := and2 h
    cases of_decide_eq_true h1
    exact ge_mthL (okE_ok ok hf hg a s _ h2) (okL_ok ok hf hg es s _ h3) h4 h5 (of_decide_eq_true h6) h7
  | .isi a t, s, x, h => by
    unfold okE at h; split at h; rotate_left; (cases h)
    simp only [Bool.and_eq_true, decide_eq_true_eq] at h
    obtain ⟨⟨⟨⟨⟨rfl, rfl⟩, h1⟩, h2⟩, h3⟩, h4⟩ := h
    exact ge_isi ok h1 h2 (okE_ok ok hf hg a s _ h3) h4
  | .comp e t it o, s, x, h => by
    unfold okE at h; split at h; rotate_left; (cases h)
    simp only [Bool.and_eq_true] at h
    obtain ⟨⟨⟨⟨h1, h2⟩, h3⟩, h4⟩, h5⟩ := h
    exact ge_comp (okI_ok ok hf hg it s _ _ h1) (okG_ok h2) (okC_ok ok hf hg o _ _ h3) (okE_ok ok hf hg e _ _ h4) h5
  | .pop i, s, x, h => by
    unfold okE at h; split at h; rotate_left; (cases h)
    simp only [Bool.and_eq_true, decide_eq_true_eq] at h
    obtain ⟨⟨⟨h1, h2⟩, rfl⟩, h4⟩ := h
    exact ge_pop h1 h2 h4
  | .popAt i k, s, x, h => by
    unfold okE at h; split at h; rotate_left; (cases h)
    simp only [Bool.and_eq_true, decide_eq_true_eq] at h
    obtain ⟨⟨⟨⟨⟨h1, h2⟩, h3⟩, h4⟩, rfl⟩, h6⟩ := h
    exact ge_popAt h1 h2 (okE_ok ok hf hg k s _ h3) h4 h6
  | .stuck, s, x, h => ⟨fun _ _ _ => False, fun X g => ⟨fun _ _ _ _ _ _ h => h.elim⟩, fun _ _ _ _ _ _ _ _ _ h => by cases h⟩
theorem okT_ok (ok : c.Ok) (hf : c.fns = sg.fns) (hg : ∀ x ∈ sg.gls, (c.S.glob x).isSome = true) : ∀ (e : Ex) (s : Sco) (x : Expr), okT sg s e x = true → GT c s e x
  | .not a, s, x, h => by
    unfold okT at h; split at h; rotate_left; (cases h)
    exact gt_not (okT_ok ok hf hg a s _ h)
  | .and es, s, x, h => by
    unfold okT at h; split at h; rotate_left; (cases h)
    exact gt_and ((okTl_ok ok hf hg es s _ (and2 h).1).and (not_t (and2 h).2))
  | .or es, s, x, h => by
    unfold okT at h; split at h; rotate_left; (cases h)
    exact gt_or ((okTl_ok ok hf hg es s _ (and2 h).1).or (not_t (and2 h).2))
  | .cmp o a b, s, x, h => by
    unfold okT at h; split at h; rotate_left; (cases h)
    simp only [Bool.and_eq_true, decide_eq_true_eq] at h
    obtain ⟨⟨⟨rfl, h1⟩, h2⟩, h3⟩ := h
    exact gt_cmp o (okE_ok ok hf hg a s _ h1) (okE_ok ok hf hg b s _ h2) h3
  | .cmp2 o o' a b d, s, x, h => by
    unfold okT at h; split at h; rotate_left; (cases h)
    simp only [Bool.and_eq_true, decide_eq_true_eq] at h
    obtain ⟨⟨⟨⟨⟨rfl, rfl⟩, h1⟩, h2⟩, h3⟩, h4⟩ := h
    exact gt_cmp2 o o' (okE_ok ok hf hg a s _ h1) (okE_ok ok hf hg b s _ h2) (okE_ok ok hf hg d s _ h3) h4
  | .var i, s, x, h => by
    unfold okT at h; split at h; rotate_left; (cases h)
    exact gt_tru (ge_var (and2 h).1 (and2 h).2) rfl rfl
  | .con d, s, x, h => by
    unfold okT at h
    exact gt_tru (okCon_ok (and2 h).1) rfl (and2 h).2
  | .glo g, s, x, h => by
    unfold okT at h; split at h; rotate_left; (cases h)
    obtain ⟨⟨h1, h2⟩, h3⟩ := (⟨and2 (and2 h).1, (and2 h).2⟩ : (_ ∧ _) ∧ _)
    cases of_decide_eq_true h1
    exact gt_tru (ge_glo ok h2 (hg _ (of_decide_eq_true h3))) rfl rfl
  | .bin o a b, s, x, h => by
    unfold okT at h; split at h; rotate_left; (cases h)
    simp only [Bool.and_eq_true, decide_eq_true_eq] at h
    obtain ⟨⟨rfl, h1⟩, h2⟩ := h
    exact gt_tru (ge_bin o (okE_ok ok hf hg a s _ h1) (okE_ok ok hf hg b s _ h2)) rfl rfl
  | .sub a b, s, x, h => by
    unfold okT at h; split at h; rotate_left; (cases h)
    simp only [Bool.and_eq_true] at h
    exact gt_tru (ge_sub (okE_ok ok hf hg a s _ h.1.1) (okE_ok ok hf hg b s _ h.1.2) h.2) rfl rfl
  | .call f es, s, x, h => by
    unfold okT at h; split at h; rotate_left; (cases h)
    obtain ⟨h, h5⟩ := and2 h
    obtain ⟨h, h4⟩ := and2 h
    obtain ⟨h, h3⟩ := and2 h
    obtain ⟨h1, h2⟩ := and2 h
    cases of_decide_eq_true h1
    obtain ⟨n, e⟩ := fns_io h3
    exact gt_tru (ge_callL ok (by rw [hf]; exact e) h2 (okL_ok ok hf hg es s _ h4) h5) rfl rfl
  | .blt b es, s, x, h => by
    unfold okT at h
    split at h
    · rename_i fg e
      split at h
      · obtain ⟨h, h5⟩ := and2 h
        obtain ⟨h, h4⟩ := and2 h
        obtain ⟨h, h3⟩ := and2 h
        obtain ⟨h1, h2⟩ := and2 h
        cases of_decide_eq_true h1
        exact gt_tru (ge_nest ok e h2 h3 ((okL_ok ok hf hg es s _ h4).es (by rw [List.all_cons, h5]; rfl)) h5) rfl rfl
      · cases h
    split at h; rotate_left; (cases h)
    obtain ⟨h, h5⟩ := and2 h
    obtain ⟨h, h4⟩ := and2 h
    obtain ⟨h, h3⟩ := and2 h
    obtain ⟨h1, h2⟩ := and2 h
    cases of_decide_eq_true h1
    exact gt_tru (ge_blt ok h2 h3 ((okL_ok ok hf hg es s _ h4).es h5) h5) rfl rfl
  | .mth m a es, s, x, h => by
    unfold okT at h; split at h; rotate_left; (cases h)
    obtain ⟨h, h7⟩ := and2 h
    obtain ⟨h, h6⟩ := and2 h
    obtain ⟨h, h5⟩ := and2 h
    obtain ⟨h, h4⟩ := and2 h
    obtain ⟨h, h3⟩ := and2 h
    obtain ⟨h1, h2⟩ := and2 h
    cases of_decide_eq_true h1
    exact gt_tru (ge_mthL (okE_ok ok hf hg a s _ h2) (okL_ok ok hf hg es s _ h3) h4 h5 (of_decide_eq_true h6) h7) rfl rfl
  | .isi a t, s, x, h => by
    unfold okT at h; split at h; rotate_left; (cases h)
    simp only [Bool.and_eq_true, decide_eq_true_eq] at h
    obtain ⟨⟨⟨⟨⟨rfl, rfl⟩, h1⟩, h2⟩, h3⟩, h4⟩ := h
    exact gt_tru (ge_isi ok h1 h2 (okE_ok ok hf hg a s _ h3) h4) rfl rfl
  | .stuck, s, x, h => ⟨fun _ _ _ => False, fun X g => ⟨fun _ _ _ _ _ _ h => h.elim⟩, fun _ _ _ _ _ _ _ _ _ h => by cases h⟩
  | .mov _, s, x, h => by unfold okT at h; cases h
  | .neg _, s, x, h => by unfold okT at h; cases h
  | .ife _ _ _, s, x, h => by unfold okT at h; cases h
  | .slc _ _ _, s, x, h => by unfold okT at h; cases h
  | .tup _, s, x, h => by unfold okT at h; cases h
  | .lst _, s, x, h => by unfold okT at h; cases h
  | .dct _, s, x, h => by unfold okT at h; cases h
  | .callIO f es io, s, x, h => by
    unfold okT at h; split at h; rotate_left; (cases h)
    simp only [Bool.and_eq_true, decide_eq_true_eq] at h
    obtain ⟨⟨⟨⟨⟨⟨⟨h1, h2⟩, h3⟩, h4⟩, h5⟩, h6⟩, h7⟩, h8⟩ := h
    cases h1
    split at h3
    · rename_i n l e
      simp only [Bool.and_eq_true, decide_eq_true_eq, List.all_eq_true] at h3
      obtain ⟨rfl, h3⟩ := h3
      exact gt_tru (ge_callIO ok (by rw [hf]; exact e) h2 (gal_ok (okL_ok ok hf hg es s _ h4) h4) h5 h6 h7 h8 h3) rfl rfl
    · cases h3
  | .comp _ _ _ _, s, x, h => by unfold okT at h; cases h
  | .pop _, s, x, h => by unfold okT at h; cases h
  | .popAt _ _, s, x, h => by unfold okT at h; cases h
theorem okL_ok (ok : c.Ok) (hf : c.fns = sg.fns) (hg : ∀ x ∈ sg.gls, (c.S.glob x).isSome = true) : ∀ (e : Exs) (s : Sco) (x : List Expr), okL sg s e x = true → GEl c s e x
  | .nil, s, x, h => by unfold okL at h; exact List.isEmpty_iff.mp h
  | .cons e es, s, x, h => by
    unfold okL at h; split at h; rotate_left; (cases h)
    exact ⟨okE_ok ok hf hg e s _ (and2 h).1, okL_ok ok hf hg es s _ (and2 h).2⟩
theorem okTl_ok (ok : c.Ok) (hf : c.fns = sg.fns) (hg : ∀ x ∈ sg.gls, (c.S.glob x).isSome = true) : ∀ (e : Exs) (s : Sco) (x : List Expr), okTl sg s e x = true → GTl c s e x
  | .nil, s, x, h => by unfold okTl at h; exact List.isEmpty_iff.mp h
  | .cons e es, s, x, h => by
    unfold okTl at h; split at h; rotate_left; (cases h)
    exact ⟨okT_ok ok hf hg e s _ (and2 h).1, okTl_ok ok hf hg es s _ (and2 h).2⟩
theorem okO_ok (ok : c.Ok) (hf : c.fns = sg.fns) (hg : ∀ x ∈ sg.gls, (c.S.glob x).isSome = true) : ∀ (e : Ox) (s : Sco) (x : Option Expr), okO sg s e x = true → GO c s e x
  | .none, s, x, h => by
    unfold okO at h
    cases x with
    | none => exact go_none
    | some _ => cases h
  | .some e, s, x, h => by
    unfold okO at h; split at h; rotate_left; (cases h)
    exact go_some (okE_ok ok hf hg e s _ h)
theorem okC_ok (ok : c.Ok) (hf : c.fns = sg.fns) (hg : ∀ x ∈ sg.gls, (c.S.glob x).isSome = true) : ∀ (e : Ox) (s : Sco) (x : List Expr), okC sg s e x = true → GC c s e x
  | .none, s, x, h => by
    unfold okC at h
    cases List.isEmpty_iff.mp h
    exact gc_none
  | .some e, s, x, h => by
    unfold okC at h; split at h; rotate_left; (cases h)
    exact gc_some (okT_ok ok hf hg e s _ h)
theorem okI_ok (ok : c.Ok) (hf : c.fns = sg.fns) (hg : ∀ x ∈ sg.gls, (c.S.glob x).isSome = true) : ∀ (e : Eng.Itr) (s : Sco) (tg x : Expr), okI sg s e tg x = true → GI c s e tg x
  | .of e, s, tg, x, h => by
    unfold okI at h
    exact gi_of (okE_ok ok hf hg e s _ (and2 h).1) (and2 h).2
  | .range es, s, tg, x, h => by
    unfold okI at h; split at h; rotate_left; (cases h)
    obtain ⟨h, h5⟩ := and2 h
    obtain ⟨h, h4⟩ := and2 h
    obtain ⟨h, h3⟩ := and2 h
    obtain ⟨h1, h2⟩ := and2 h
    cases of_decide_eq_true h1
    have hL := okL_ok ok hf hg es s _ h3
    exact gi_range ok h2 (hL.es h4) h4 hL.len (of_decide_eq_true h5)
  | .enum e, s, tg, x, h => by
    unfold okI at h; split at h; rotate_left; (cases h)
    obtain ⟨h, h5⟩ := and2 h
    obtain ⟨h, h4⟩ := and2 h
    obtain ⟨h, h3⟩ := and2 h
    obtain ⟨h1, h2⟩ := and2 h
    cases of_decide_eq_true h1
    unfold tgTup at h5; split at h5; rotate_left; (cases h5)
    exact gi_enum ok h2 (okE_ok ok hf hg e s _ h3) h4
  | .zip a b, s, tg, x, h => by
    unfold okI at h; split at h; rotate_left; (cases h)
    obtain ⟨h, h7⟩ := and2 h
    obtain ⟨h, h6⟩ := and2 h
    obtain ⟨h, h5⟩ := and2 h
    obtain ⟨h, h4⟩ := and2 h
    obtain ⟨h, h3⟩ := and2 h
    obtain ⟨h1, h2⟩ := and2 h
    cases of_decide_eq_true h1
    unfold tgTup at h7; split at h7; rotate_left; (cases h7)
    exact gi_zip ok h2 (okE_ok ok hf hg a s _ h3) (okE_ok ok hf hg b s _ h4) h5 h6
  | .rev e, s, tg, x, h => by
    unfold okI at h; split at h; rotate_left; (cases h)
    obtain ⟨h, h4⟩ := and2 h
    obtain ⟨h, h3⟩ := and2 h
    obtain ⟨h1, h2⟩ := and2 h
    cases of_decide_eq_true h1
    exact gi_rev ok h2 (okE_ok ok hf hg e s _ h3) h4
  | .revRange _, s, tg, x, h => by unfold okI at h; cases h
end
end
end Eng
namespace Eng
open PySem PySem.Spec PyProof.Rows L2 RT
/-! ### statements -/
def Keeps (A : List Nat) (σ σ' : L2.St) : Prop := ∀ j, j ∉ A → σ'[j]? = σ[j]?
def Post (K : PySem.W.Frag) (w : World) (M : Addr → Prop) (H : Hp) (F : Foot) (A : List Nat) (ρ : Rho) (σ : L2.St) (D : Ends) : Out → Prop
  | .nx ρ' => ∀ σ' H' F', Aft K w M H F ρ false σ' H' ρ' F' [] → Keeps A σ σ' → D.nx σ' H'
  | .bk ρ' => ∀ σ' H' F', Aft K w M H F ρ false σ' H' ρ' F' [] → Keeps A σ σ' → D.bk σ' H'
  | .ct ρ' => ∀ σ' H' F', Aft K w M H F ρ false σ' H' ρ' F' [] → Keeps A σ σ' → D.ct σ' H'
  | .rt d ρ' => ∀ v σ' H' F' T, Aft K w M H F ρ false σ' H' ρ' F' T → Dn K w H' (Al0 M T F') v d T → Keeps A σ σ' → D.rt v H'
def SFS (K : PySem.W.Frag) (w : World) (ev : Rho → Option Out) (A : List Nat) (t : TS) : Prop :=
  ∀ (ρ : Rho) (σ : L2.St) (H : Hp) (F : Foot) (M : Addr → Prop) (o : Out) (D : Ends), Rep K w H M ρ σ F → ev ρ = some o → Post K w M H F A ρ σ D o → t D σ H
section
variable {K : PySem.W.Frag} {w : World} {M : Addr → Prop} {H H1 H2 : Hp} {F F1 F2 : Foot} {ρ ρ1 ρ2 : Rho} {σ σ1 σ2 : L2.St} {T T1 T2 : List Addr} {p p1 p2 : Bool} {Vx : List Nat} {A B : List Nat}
theorem Keeps.refl : Keeps A σ σ := fun _ _ => rfl
theorem Keeps.trans (h : Keeps A σ σ1) (h' : Keeps B σ1 σ2) : Keeps (A ++ B) σ σ2 := fun j hj => by
  rw [h' j fun z => hj (List.mem_append_right _ z), h j fun z => hj (List.mem_append_left _ z)]
theorem Keeps.mono (h : Keeps A σ σ1) (hs : ∀ j ∈ A, j ∈ B) : Keeps B σ σ1 := fun j hj => h j fun z => hj (hs j z)
theorem Keeps.trans' (h : Keeps A σ σ1) (h' : Keeps A σ1 σ2) : Keeps A σ σ2 := (h.trans h').mono fun j hj => (List.mem_append.mp hj).elim id id
theorem Aft.thenS (A : Aft K w M H F ρ p1 σ1 H1 ρ1 F1 []) (B : Aft K w M H1 F1 ρ1 p2 σ2 H2 ρ2 F2 T2) : Aft K w M H F ρ false σ2 H2 ρ2 F2 T2 := by
  refine ⟨B.rep, fun b o h hf => B.keep b o (A.keep b o h hf) (A.notF1 h hf), fun a h => ?_, B.nd, B.tM, fun h => by cases h⟩
  rcases B.fresh a h with ⟨i, hi⟩ | e
  · exact A.fresh a (.inr ⟨i, hi⟩)
  · exact A.back e
/-- the slots may change, the heap not -/
theorem Aft.slots (A : Aft K w M H F ρ p σ H1 ρ1 F1 T) (R : Rep K w H1 (fun a => M a ∨ a ∈ T2) ρ2 σ2 F2) (hF : ∀ a, (a ∈ T2 ∨ ∃ i, a ∈ F2 i) → a ∈ T ∨ ∃ i, a ∈ F1 i) (nd : T2.Nodup) (hT : ∀ a ∈ T2, ¬ M a) : Aft K w M H F ρ false σ2 H1 ρ2 F2 T2 :=
  ⟨R, A.keep, fun a h => A.fresh a (hF a h), nd, hT, fun h => by cases h⟩
theorem Aft.r0' (A : Aft K w M H F ρ p σ H1 ρ1 F1 []) : Rep K w H1 M ρ1 σ F1 := A.rep.weak fun a h => .inl h
section
variable {e e' : Rho → Option (D × Rho)} {et : Rho → Option (Bool × Rho)} {te te' : TE} {tt : TT} {Ve : List Nat} {pe pt : Bool}
theorem Rep.w0 (R : Rep K w H M ρ σ F) : Rep K w H (fun a => M a ∨ a ∈ ([] : List Addr)) ρ σ F := R.weak fun a m => m.elim id nno
/-- a value and its kept state -/
theorem Aft.keptE {v : V} {d : D} (A : Aft K w M H F ρ p σ H1 ρ1 F1 T) (h : Dn K w H1 (Al M T F1 Vx) v d T) : Aft K w M H F ρ false σ H1 (kept Vx d.clean ρ1) (keptF Vx d.clean F1) T ∧ Dn K w H1 (Al0 M T (keptF Vx d.clean F1)) v d T :=
  ⟨A.slots (A.rep.kept Vx d.clean) (fun a h => h.imp id fun ⟨i, hi⟩ => ⟨i, keptF_sub hi⟩) A.nd A.tM, h.kept⟩
theorem sfs_set {i : Nat} (he : SF K w e pe Ve te) : SFS K w (fun ρ => (e ρ).map fun p => .nx ((kept Ve p.1.clean p.2).set i (some p.1))) [i] (tAsg te (gName i)) := by
  intro ρ σ H F M o D R h q
  obtain ⟨⟨d, ρ1⟩, e1, h⟩ := Option.map_eq_some_iff.mp h
  cases h
  refine he ρ σ H F M d ρ1 _ R e1 fun v H1 F1 T A hv => ?_
  obtain ⟨A', hv'⟩ := A.keptE hv
  obtain ⟨F', R', s1, _⟩ := Rep.set' A'.rep hv' A.nd A.tM i
  exact q _ H1 F' (A'.slots R'.w0 (fun a h => h.elim (fun z => nno z) fun ⟨j, hj⟩ => (s1 j a hj).elim (fun z => .inr ⟨j, z⟩) .inl) List.nodup_nil fun _ => nno) fun j hj => List.getElem?_set_ne fun z => hj (by rw [z]; exact List.mem_singleton_self _)
theorem sfs_drop (he : SF K w e pe Ve te) : SFS K w (fun ρ => (e ρ).map fun p => .nx p.2) [] (tDrop te) := by
  intro ρ σ H F M o D R h q
  obtain ⟨⟨d, ρ1⟩, e1, h⟩ := Option.map_eq_some_iff.mp h
  cases h
  exact he ρ σ H F M d ρ1 _ R e1 fun v H1 F1 T A hv => q σ H1 F1 (A.drop.wk fun z => by cases z) Keeps.refl
theorem sfs_ret (he : SF K w e pe Ve te) : SFS K w (fun ρ => (e ρ).map fun p => .rt p.1 (kept Ve p.1.clean p.2)) [] (tRet te) := by
  intro ρ σ H F M o D R h q
  obtain ⟨⟨d, ρ1⟩, e1, h⟩ := Option.map_eq_some_iff.mp h
  cases h
  refine he ρ σ H F M d ρ1 _ R e1 fun v H1 F1 T A hv => ?_
  obtain ⟨A', hv'⟩ := A.keptE hv
  exact q v σ H1 _ T A' hv' Keeps.refl
theorem sfs_retN : SFS K w (fun ρ => some (.rt .non ρ)) [] tRetN := by
  intro ρ σ H F M o D R h q
  cases h
  exact q .non σ H F [] (Aft.refl R) .non Keeps.refl
theorem sfs_brk : SFS K w (fun ρ => some (.bk ρ)) [] tBreak := by
  intro ρ σ H F M o D R h q
  cases h
  exact q σ H F (Aft.refl R) Keeps.refl
theorem sfs_cnt : SFS K w (fun ρ => some (.ct ρ)) [] tCont := by
  intro ρ σ H F M o D R h q
  cases h
  exact q σ H F (Aft.refl R) Keeps.refl
theorem sfsS_nil : SFS K w (fun ρ => some (.nx ρ)) [] tNext := by
  intro ρ σ H F M o D R h q
  cases h
  exact q σ H F (Aft.refl R) Keeps.refl
/-- an end behind what came ahead -/
theorem Post.behind {D : Ends} {o : Out} (q : Post K w M H F (A ++ B) ρ σ D o) (X : Aft K w M H F ρ p σ1 H1 ρ1 F1 []) (k : Keeps A σ σ1) : Post K w M H1 F1 B ρ1 σ1 D o := by
  cases o with
  | nx ρ' => exact fun σ' H' F' Y k' => q σ' H' F' (X.thenS Y) (k.trans k')
  | bk ρ' => exact fun σ' H' F' Y k' => q σ' H' F' (X.thenS Y) (k.trans k')
  | ct ρ' => exact fun σ' H' F' Y k' => q σ' H' F' (X.thenS Y) (k.trans k')
  | rt d ρ' => exact fun v σ' H' F' T Y hv k' => q v σ' H' F' T (X.thenS Y) hv (k.trans k')
theorem Post.mono {D : Ends} {o : Out} (q : Post K w M H F B ρ σ D o) (hs : ∀ j ∈ A, j ∈ B) : Post K w M H F A ρ σ D o := by
  cases o with
  | nx ρ' => exact fun σ' H' F' Y k' => q σ' H' F' Y (k'.mono hs)
  | bk ρ' => exact fun σ' H' F' Y k' => q σ' H' F' Y (k'.mono hs)
  | ct ρ' => exact fun σ' H' F' Y k' => q σ' H' F' Y (k'.mono hs)
  | rt d ρ' => exact fun v σ' H' F' T Y hv k' => q v σ' H' F' T Y hv (k'.mono hs)
theorem SFS.mono {ev : Rho → Option Out} {t : TS} (h : SFS K w ev A t) (hs : ∀ j ∈ A, j ∈ B) : SFS K w ev B t := fun ρ σ H F M o D R e q => h ρ σ H F M o D R e (q.mono hs)
variable {ea eb : Rho → Option Out} {ta tb : TS}
theorem sfs_if (ht : SFT K w et pt tt) (ha : SFS K w ea A ta) (hb : SFS K w eb B tb) : SFS K w (fun ρ => (et ρ).bind fun r => if r.1 = true then ea r.2 else eb r.2) (A ++ B) (tIfS tt ta tb) := by
  intro ρ σ H F M o D R h q
  obtain ⟨⟨b, ρ1⟩, e1, h⟩ := Option.bind_eq_some_iff.mp h
  refine ht ρ σ H F M b ρ1 _ R e1 fun H1 F1 X => ?_
  have q' : Post K w M H1 F1 (A ++ B) ρ1 σ D o := Post.behind (A := []) q X Keeps.refl
  cases b with
  | true => exact iteT (ha ρ1 σ H1 F1 M o D X.r0 (by simpa using h) (q'.mono fun j hj => List.mem_append_left _ hj))
  | false => exact iteF (hb ρ1 σ H1 F1 M o D X.r0 (by simpa using h) (q'.mono fun j hj => List.mem_append_right _ hj))
def seqO (eb : Rho → Option Out) : Out → Option Out
  | .nx ρ1 => eb ρ1
  | o => some o
theorem sfs_seq (ha : SFS K w ea A ta) (hb : SFS K w eb B tb) : SFS K w (fun ρ => (ea ρ).bind (seqO eb)) (A ++ B) (tSeq ta tb) := by
  intro ρ σ H F M o D R h q
  obtain ⟨o1, e1, h⟩ := Option.bind_eq_some_iff.mp h
  refine ha ρ σ H F M o1 _ R e1 ?_
  cases o1 with
  | nx ρ1 => exact fun σ1 H1 F1 X k => hb ρ1 σ1 H1 F1 M o D X.r0' h (q.behind X k)
  | bk ρ1 =>
    cases h
    exact fun σ' H' F' Y k' => q σ' H' F' Y (k'.mono fun j hj => List.mem_append_left _ hj)
  | ct ρ1 =>
    cases h
    exact fun σ' H' F' Y k' => q σ' H' F' Y (k'.mono fun j hj => List.mem_append_left _ hj)
  | rt d ρ1 =>
    cases h
    exact fun v σ' H' F' T Y hv k' => q v σ' H' F' T Y hv (k'.mono fun j hj => List.mem_append_left _ hj)
end
end
end Eng
namespace Eng
open PySem PySem.Spec PyProof.Rows L2 RT
section
variable {K : PySem.W.Frag} {w : World} {M : Addr → Prop} {H H1 H2 : Hp} {F F1 F2 : Foot} {ρ ρ1 ρ2 : Rho} {σ σ1 σ2 : L2.St} {T T1 T2 : List Addr} {p p1 p2 : Bool} {Vx : List Nat} {A B : List Nat}
variable {e e' : Rho → Option (D × Rho)} {et : Rho → Option (Bool × Rho)} {te te' : TE} {tt : TT} {Ve : List Nat} {pe pt pi : Bool} {ea eb : Rho → Option Out} {ta tb : TS}
/-! ### loops -/
theorem foldl_eq {α : Type} {a b : α} (h : a = b) : a = b := h
theorem sfs_for {ei : Rho → Option (List D × Bool × Rho)} {Vi : List Nat} {wi : TI} {tg : Tgt} {g : TG} (hI : SFI K w ei pi Vi wi) (hg : BT K w tg g) (hb : SFS K w eb B tb) :
    SFS K w (fun ρ => (ei ρ).bind fun p => loopL tg eb p.1 (kept Vi p.2.1 p.2.2)) (tg.slots ++ B) (tFor wi g tb) := by
  intro ρ σ H F M o D R h q
  obtain ⟨⟨ds, c, ρ1⟩, e1, h⟩ := Option.bind_eq_some_iff.mp h
  refine hI ρ σ H F M ds c ρ1 _ R e1 fun J H1 F1 T1 X w1 w2 => ?_
  have X0 : Aft K w M H F ρ false σ H1 (kept Vi c ρ1) (keptF Vi c F1) [] := X.drop.slots ((X.drop.rep.weak fun a m => m).kept Vi c) (fun a h => h.elim (fun z => nno z) fun ⟨i, hi⟩ => .inr ⟨i, keptF_sub hi⟩) List.nodup_nil fun _ => nno
  have R1 := X0.r0'
  generalize hFk : keptF Vi c F1 = Fk at X0 R1
  generalize hρk : kept Vi c ρ1 = ρk at X0 R1
  simp only at h
  rw [hρk] at h
  have Fk1 : ∀ j a, a ∈ Fk j → a ∈ F1 j := fun j a z => by subst hFk; exact keptF_sub z
  have hw : ∃ Fy : Addr → Prop, WalkD K w J ds H1 Fy ∧ ∀ a, Fy a → ¬ M a ∧ (∀ i, a ∉ Fk i) ∧ H1 a ≠ none := by
    by_cases hcc : c = true
    · exact ⟨_, w2 hcc, fun a ha => ⟨X.tM a ha, fun i hi => X.rep.hM i a (Fk1 i a hi) (.inr ha), X.rep.dom a (.inr ha)⟩⟩
    · refine ⟨_, w1, fun a ha => ⟨ha.1.elim (X.tM a) fun z => z.1, fun i hi => ?_, ha.2⟩⟩
      rcases ha.1 with z | z
      · exact X.rep.hM i a (Fk1 i a hi) (.inr z)
      · subst hFk
        unfold keptF at hi
        rw [if_neg hcc] at hi
        obtain ⟨h3, h4⟩ := Foot.frz_sub hi
        exact z.2.2 i h4 h3
  obtain ⟨Fy, hw, hFy⟩ := hw
  refine for_it hw (fun i σi Hi => ∃ ρi Fi, Aft K w M H1 Fk ρk false σi Hi ρi Fi [] ∧ Keeps (tg.slots ++ B) σ σi ∧ loopL tg eb (ds.drop i) ρi = some o) ⟨ρk, Fk, Aft.refl R1, Keeps.refl, by rw [List.drop_zero]; exact h⟩ (fun i σi Hi _ ⟨ρi, Fi, Y, _, _⟩ => ?_) (fun i x σi Hi H' hi ⟨ρi, Fi, Y, ky, ev⟩ ⟨sm, dx, ed, hx⟩ => ?_) fun σi Hi ⟨ρi, Fi, Y, ky, ev⟩ => ?_
  · refine ⟨fun b o' eb' f => Y.keep b o' eb' (hFy b f).2.1, fun b xs r => ?_⟩
    have hn := R1.notup r
    exact r.imp (fun r => Y.keep b _ r hn) fun ⟨o', r⟩ => ⟨o', Y.keep b _ r hn⟩
  · have eD : ds.drop i = dx :: ds.drop (i + 1) := by
      have hl := (List.getElem?_eq_some_iff.mp ed).1
      rw [List.drop_eq_getElem_cons hl, (List.getElem?_eq_some_iff.mp ed).2]
    rw [eD] at ev
    obtain ⟨ρ2, eb', ev⟩ := Option.bind_eq_some_iff.mp ev
    obtain ⟨o2, eo, ev⟩ := Option.bind_eq_some_iff.mp ev
    have Ys : Aft K w M H1 Fk ρk false σi H' ρi Fi [] := ⟨Y.rep.same sm, fun b o' e h => sm _ _ (Y.keep b o' e h), Y.fresh, Y.nd, Y.tM, fun z => by cases z⟩
    have Ri := Ys.r0'
    have hx' : Dn K w H' (Al0 M [] Fi) x dx [] := hx.keyFz fun a f => by
      rcases f with f | f
      · obtain ⟨f1, f2, f3⟩ := hFy a f
        obtain ⟨o', e⟩ := ne_some f3
        exact ⟨f1, nno, Ys.notF1 e f2⟩
      · refine ⟨fun m => ?_, nno, fun j hj => Y.rep.thereN hj f⟩
        have := Y.rep.dom a (.inl m)
        exact this f
    refine hg x dx ρi ρ2 σi H' Fi M _ Ri hx' eb' fun σ2 F2 R2 b1 b2 b3 b4 => ?_
    have Y2 : Aft K w M H1 Fk ρk false σ2 H' ρ2 F2 [] := Ys.slots R2.w0 (fun a h => h.elim (fun z => nno z) fun ⟨j, hj⟩ => .inr ⟨j, b1 j a hj⟩) List.nodup_nil fun _ => nno
    have k2 : Keeps (tg.slots ++ B) σ σ2 := ky.trans' (Keeps.mono (A := tg.slots) (fun j hj => b4 j hj) fun j hj => List.mem_append_left _ hj)
    refine hb ρ2 σ2 H' F2 M o2 _ R2 eo ?_
    have BB : ∀ j ∈ B, j ∈ tg.slots ++ B := fun j hj => List.mem_append_right _ hj
    cases o2 with
    | nx ρ3 => exact fun σ3 H3 F3 Z k3 => ⟨ρ3, F3, Y2.thenS Z, k2.trans' (k3.mono BB), ev⟩
    | ct ρ3 => exact fun σ3 H3 F3 Z k3 => ⟨ρ3, F3, Y2.thenS Z, k2.trans' (k3.mono BB), ev⟩
    | bk ρ3 =>
      cases ev
      exact fun σ3 H3 F3 Z k3 => q σ3 H3 F3 (X0.thenS (Y2.thenS Z)) (k2.trans' (k3.mono BB))
    | rt d ρ3 =>
      cases ev
      exact fun v σ3 H3 F3 T Z hv k3 => q v σ3 H3 F3 T (X0.thenS (Y2.thenS Z)) hv (k2.trans' (k3.mono BB))
  · rw [List.drop_length] at ev
    cases ev
    exact q σi Hi Fi (X0.thenS Y) ky
/-- a while's meaning: the turns as they come -/
noncomputable def whl (c : Rho → Option (Bool × Rho)) (b : Rho → Option Out) (ρ : Rho) : Option Out :=
  open Classical in if h : ∃ o n, whileN c b n ρ = some o then some h.choose else none
theorem whl_some {c : Rho → Option (Bool × Rho)} {b : Rho → Option Out} {ρ : Rho} {o : Out} (h : whl c b ρ = some o) : ∃ n, whileN c b n ρ = some o := by
  unfold whl at h
  split at h
  · rename_i hh
    cases h
    exact hh.choose_spec
  · cases h
theorem sfs_while (hc : SFT K w et pt tt) (hb : SFS K w eb B tb) : SFS K w (whl et eb) B (tWhile tt tb) := by
  intro ρ σ H F M o D R h q
  obtain ⟨n, h⟩ := whl_some h
  refine ⟨fun m σi Hi => ∃ ρi Fi, Aft K w M H F ρ false σi Hi ρi Fi [] ∧ Keeps B σ σi ∧ whileN et eb m ρi = some o, ⟨n, ρ, F, Aft.refl R, Keeps.refl, h⟩, fun m σi Hi ⟨ρi, Fi, Y, ky, ev⟩ => ?_⟩
  cases m with
  | zero => cases ev
  | succ m =>
    obtain ⟨⟨t, ρ1⟩, e1, ev⟩ := Option.bind_eq_some_iff.mp ev
    refine hc ρi σi Hi Fi M t ρ1 _ Y.r0' e1 fun H1 F1 Z => ?_
    have YZ := Y.thenS Z
    cases t with
    | false =>
      simp only [Bool.false_eq_true, if_false, Option.some.injEq] at ev
      cases ev
      exact iteF (q σi H1 F1 YZ ky)
    | true =>
      simp only [if_true] at ev
      obtain ⟨o2, eo, ev⟩ := Option.bind_eq_some_iff.mp ev
      refine iteT ⟨fun σ' H' => ∃ ρ' F', Aft K w M H F ρ false σ' H' ρ' F' [] ∧ Keeps B σ σ' ∧ whileN et eb m ρ' = some o, fun σ' H' h => ⟨m, Nat.lt_succ_self m, h⟩, hb ρ1 σi H1 F1 M o2 _ YZ.r0' eo ?_⟩
      cases o2 with
      | nx ρ3 => exact fun σ3 H3 F3 Z k3 => ⟨ρ3, F3, YZ.thenS Z, ky.trans' k3, ev⟩
      | ct ρ3 => exact fun σ3 H3 F3 Z k3 => ⟨ρ3, F3, YZ.thenS Z, ky.trans' k3, ev⟩
      | bk ρ3 =>
        cases ev
        exact fun σ3 H3 F3 Z k3 => q σ3 H3 F3 (YZ.thenS Z) (ky.trans' k3)
      | rt d ρ3 =>
        cases ev
        exact fun v σ3 H3 F3 T Z hv k3 => q v σ3 H3 F3 T (YZ.thenS Z) hv (ky.trans' k3)
/-! the turns -/
theorem whileN_mono {c : Rho → Option (Bool × Rho)} {b : Rho → Option Out} : ∀ {n m : Nat} {ρ : Rho} {o : Out}, n ≤ m → whileN c b n ρ = some o → whileN c b m ρ = some o
  | 0, _, _, _, _, h => by cases h
  | n + 1, 0, _, _, hl, _ => by omega
  | n + 1, m + 1, ρ, o, hl, h => by
    obtain ⟨⟨t, ρ1⟩, e1, h⟩ := Option.bind_eq_some_iff.mp h
    unfold whileN
    rw [e1]
    show (if t = true then _ else _) = _
    cases t with
    | false => exact h
    | true =>
      simp only [if_true] at h ⊢
      obtain ⟨o2, e2, h⟩ := Option.bind_eq_some_iff.mp h
      rw [e2]
      show (match o2 with | .nx ρ2 => _ | .ct ρ2 => _ | .bk ρ2 => _ | .rt d ρ2 => _) = _
      cases o2 with
      | nx ρ3 => exact whileN_mono (by omega) h
      | ct ρ3 => exact whileN_mono (by omega) h
      | bk ρ3 => exact h
      | rt d ρ3 => exact h
theorem whl_of {c : Rho → Option (Bool × Rho)} {b : Rho → Option Out} {ρ : Rho} {o : Out} {n : Nat} (h : whileN c b n ρ = some o) : whl c b ρ = some o := by
  have hh : ∃ o n, whileN c b n ρ = some o := ⟨o, n, h⟩
  unfold whl
  rw [dif_pos hh]
  obtain ⟨m, hm⟩ := hh.choose_spec
  have h1 := whileN_mono (Nat.le_max_left n m) h
  have h2 := whileN_mono (Nat.le_max_right n m) hm
  rw [h1] at h2
  exact h2.symm
theorem whl_end {c : Rho → Option (Bool × Rho)} {b : Rho → Option Out} {ρ ρ1 : Rho} (h : c ρ = some (false, ρ1)) : whl c b ρ = some (.nx ρ1) := whl_of (n := 1) (by unfold whileN; rw [h]; rfl)
theorem whl_step {c : Rho → Option (Bool × Rho)} {b : Rho → Option Out} {ρ ρ1 ρ2 : Rho} {o : Out} (h : c ρ = some (true, ρ1)) (hb : b ρ1 = some (.nx ρ2) ∨ b ρ1 = some (.ct ρ2)) (hr : whl c b ρ2 = some o) : whl c b ρ = some o := by
  obtain ⟨n, hn⟩ := whl_some hr
  refine whl_of (n := n + 1) ?_
  unfold whileN
  rw [h]
  simp only [Option.bind_some, if_true]
  rcases hb with hb | hb <;> (rw [hb]; exact hn)
theorem whl_bk {c : Rho → Option (Bool × Rho)} {b : Rho → Option Out} {ρ ρ1 ρ2 : Rho} (h : c ρ = some (true, ρ1)) (hb : b ρ1 = some (.bk ρ2)) : whl c b ρ = some (.nx ρ2) := by
  refine whl_of (n := 1) ?_
  unfold whileN
  rw [h]
  simp only [Option.bind_some, if_true]
  rw [hb]; rfl
theorem whl_rt {c : Rho → Option (Bool × Rho)} {b : Rho → Option Out} {ρ ρ1 ρ2 : Rho} {d : D} (h : c ρ = some (true, ρ1)) (hb : b ρ1 = some (.rt d ρ2)) : whl c b ρ = some (.rt d ρ2) := by
  refine whl_of (n := 1) ?_
  unfold whileN
  rw [h]
  simp only [Option.bind_some, if_true]
  rw [hb]; rfl
end
end Eng
namespace Eng
open PySem PySem.Spec PyProof.Rows L2 RT
section
variable {K : PySem.W.Frag} {w : World} {M : Addr → Prop} {H H1 H2 : Hp} {F F1 F2 : Foot} {ρ ρ1 ρ2 : Rho} {σ σ1 σ2 : L2.St} {T T1 T2 : List Addr} {p p1 p2 : Bool} {Vx : List Nat} {A B : List Nat}
variable {e e' : Rho → Option (D × Rho)} {et : Rho → Option (Bool × Rho)} {te te' : TE} {tt : TT} {Ve Vk : List Nat} {pe pt pi pk : Bool} {ea eb : Rho → Option Out} {ta tb : TS}
/-- a tuple's parts, owned ones too, to names -/
theorem bindAllO : ∀ {is : List Nat} {vs : List V} {ds : List D} {S : List Addr} {ρ : Rho} {σ : L2.St} {F : Foot} {M : Addr → Prop}, Rep K w H (fun a => M a ∨ a ∈ S) ρ σ F → DnL K w H (Al0 M S F) vs ds S → S.Nodup → (∀ a ∈ S, ¬ M a) → is.length = ds.length →
    ∃ F', Rep K w H M (setAll is ds ρ) ((is.zip vs).foldl (fun σ p => σ.set p.1 (some p.2)) σ) F' ∧ ∀ j a, a ∈ F' j → a ∈ F j ∨ a ∈ S
  | [], _, _, _, ρ, σ, F, M, R, h, _, _, hl => by
    cases h with
    | nil => exact ⟨F, R.weak fun a m => .inl m, fun j a ha => .inl ha⟩
    | cons _ _ => simp at hl
  | i :: is, _, _, _, ρ, σ, F, M, R, h, nd, hS, hl => by
    cases h with
    | nil => simp at hl
    | @cons v vs d ds S1 S2 h1 h2 =>
      have nd' := List.nodup_append.mp nd
      have R1 : Rep K w H (fun a => (M a ∨ a ∈ S2) ∨ a ∈ S1) ρ σ F := R.weak fun a m => by
        rcases m with (m | m) | m
        · exact .inl m
        · exact .inr (List.mem_append_right _ m)
        · exact .inr (List.mem_append_left _ m)
      obtain ⟨F1, R2, s1, _⟩ := Rep.set' R1 (h1.keyFz fun a f => ⟨fun m => m.elim f.1 fun z => f.2.1 (List.mem_append_right _ z), fun z => f.2.1 (List.mem_append_left _ z), f.2.2⟩) nd'.1
        (fun a ha m => m.elim (hS a (List.mem_append_left _ ha)) fun z => nd'.2.2 a ha a z rfl) i
      have h2' : DnL K w H (Al0 M S2 F1) vs ds S2 := h2.keyFz fun a f => ⟨f.1, fun z => f.2.1 (List.mem_append_right _ z), fun j hj => (s1 j a hj).elim (f.2.2 j) fun z => f.2.1 (List.mem_append_left _ z)⟩
      obtain ⟨F', R3, hF⟩ := bindAllO (is := is) R2 h2' nd'.2.1 (fun a ha => hS a (List.mem_append_right _ ha)) (by simpa using hl)
      refine ⟨F', R3, fun j a ha => ?_⟩
      rcases hF j a ha with z | z
      · exact (s1 j a z).imp id fun z => List.mem_append_left _ z
      · exact .inr (List.mem_append_right _ z)
theorem sfs_unp {is : List Nat} (he : SF K w e pe Ve te) : SFS K w (fun ρ => (e ρ).bind fun p => (bindT (.tp is) p.1 (kept Ve p.1.clean p.2)).map .nx) is (tAsg te (gTup K is.length (gNames is))) := by
  intro ρ σ H F M o D R h q
  obtain ⟨⟨d, ρ1⟩, e1, h⟩ := Option.bind_eq_some_iff.mp h
  obtain ⟨ρ2, e2, h⟩ := Option.map_eq_some_iff.mp h
  subst h
  refine he ρ σ H F M d ρ1 _ R e1 fun v H1 F1 T X hv => ?_
  obtain ⟨X', hv'⟩ := X.keptE hv
  simp only at e2
  generalize kept Ve d.clean ρ1 = ρk at X' e2
  generalize keptF Ve d.clean F1 = Fk at X' hv'
  clear hv X
  match d with
  | .tup xs =>
    change (if xs.length = is.length then some (setAll is xs ρk) else none) = some ρ2 at e2
    split at e2
    · rename_i hl
      cases e2
      cases hv' with
      | @tup a vs _ _ hT r =>
        obtain ⟨F', R', s1⟩ := bindAllO (is := is) X'.rep r X'.nd X'.tM hl.symm
        refine ⟨a, vs, rfl, hT, by rw [r.length, hl], gNames_go (by rw [r.length, hl]) (q _ H1 F' (X'.slots R'.w0 (fun b h => h.elim (fun z => nno z) fun ⟨j, hj⟩ => (s1 j b hj).elim (fun z => .inr ⟨j, z⟩) .inl) List.nodup_nil fun _ => nno) fun j hj => fold_keep is vs σ j hj)⟩
    · cases e2
  | .non | .bl _ | .int _ | .str _ | .lst _ _ | .dct _ _ => cases e2
/-- the owned list at slot i gets other items -/
theorem Rep.mut {i : Nat} {a : Addr} {xs ds' : List D} {vs vs' : List V} {S' S2 : List Addr} (R : Rep K w H (fun b => M b ∨ b ∈ T) ρ σ F) (e : get0 ρ i = some (.lst true xs)) (es : σ[i]? = some (some (.ref a))) (hH : H a = some (.lst vs)) (eF : F i = a :: S')
    (h : DnL K w H (Al0 M T F) vs' ds' S2) (nd : S2.Nodup) (sub : ∀ b ∈ S2, b ∈ S' ∨ b ∈ T) (tM : ∀ b ∈ T, ¬ M b) : Rep K w (upd H a (.lst vs')) M (ρ.set i (some (.lst true ds'))) σ (F.set i (a :: S2)) := by
  have hi := get0_lt e
  have ai : a ∈ F i := by rw [eF]; exact List.mem_cons_self
  have nda := List.nodup_cons.mp (eF ▸ R.nd i)
  have aT : a ∉ T := fun z => R.hM i a ai (.inr z)
  have aS : a ∉ S2 := fun z => (sub a z).elim nda.1 aT
  have sF : ∀ b ∈ S2, b ∈ F i ∨ b ∈ T := fun b hb => (sub b hb).imp (fun z => by rw [eF]; exact List.mem_cons_of_mem _ z) id
  have tups : ∀ b ys, Rd H b (.tup ys) → Rd (upd H a (.lst vs')) b (.tup ys) := fun b ys r => by
    have hb : b ≠ a := fun e => by subst e; rcases r with r | ⟨_, r⟩ <;> (rw [hH] at r; cases r)
    exact r.imp (fun r => by rw [upd_ne hb]; exact r) fun ⟨o', r⟩ => ⟨o', by rw [upd_ne hb]; exact r⟩
  have newFz : ∀ b, ¬ (M b ∨ b ∈ T) → (∀ j, b ∉ F j) → Fz M (F.set i (a :: S2)) b := fun b h1 h2 => ⟨fun m => h1 (.inl m), fun k hk => by
    by_cases hk' : k = i
    · subst hk'
      rw [Foot.set_same] at hk
      rcases List.mem_cons.mp hk with z | z
      · subst z; exact h2 k ai
      · exact (sF b z).elim (h2 k) fun z => h1 (.inr z)
    · rw [Foot.set_ne hk'] at hk; exact h2 k hk⟩
  refine ⟨by rw [List.length_set]; exact R.len, fun j dj ej => ?_, fun j ej => ?_, fun j => ?_, fun j k b h1 h2 => ?_, fun j b hb m => ?_, fun b m => ?_⟩
  · by_cases hj : i = j
    · subst hj
      rw [get0_set_same hi] at ej
      cases ej
      refine ⟨.ref a, es, ?_⟩
      rw [Foot.set_same]
      refine .lstO upd_same (h.carry ⟨tups, fun b o' eb f => ?_, fun b o' eb hb => by rw [upd_ne (show b ≠ a from fun z => aS (z ▸ hb))]; exact eb⟩)
      refine ⟨by rw [upd_ne (show b ≠ a from fun z => f.2.2 i (z ▸ ai))]; exact eb, newFz b (fun m => m.elim f.1 f.2.1) f.2.2⟩
    · rw [get0_set_ne hj] at ej
      obtain ⟨v, ev, hd⟩ := R.den j dj ej
      refine ⟨v, ev, ?_⟩
      rw [Foot.set_ne (Ne.symm hj)]
      refine hd.carry ⟨tups, fun b o' eb f => ⟨by rw [upd_ne (show b ≠ a from fun z => f.2 i (z ▸ ai))]; exact eb, newFz b f.1 f.2⟩, fun b o' eb hb => by rw [upd_ne (show b ≠ a from fun z => hj (R.dis i j b (z ▸ ai) hb))]; exact eb⟩
  · by_cases hj : i = j
    · subst hj; rw [get0_set_same hi] at ej; cases ej
    · rw [get0_set_ne hj] at ej
      rw [Foot.set_ne (Ne.symm hj)]
      exact R.un j ej
  · by_cases hj : j = i
    · subst hj; rw [Foot.set_same]; exact List.nodup_cons.mpr ⟨aS, nd⟩
    · rw [Foot.set_ne hj]; exact R.nd j
  · have key : ∀ {j k : Nat} {b : Addr}, j = i → k ≠ i → b ∈ (F.set i (a :: S2)) j → b ∈ F k → False := fun {j' k' b'} hj hk g1 g2 => by
      subst hj
      rw [Foot.set_same] at g1
      rcases List.mem_cons.mp g1 with z | z
      · subst z; exact hk (R.dis k' j' b' g2 ai)
      · exact (sF b' z).elim (fun z => hk (R.dis k' j' b' g2 z)) fun z => R.hM k' b' g2 (.inr z)
    by_cases hj : j = i
    · by_cases hk : k = i
      · rw [hj, hk]
      · exact (key hj hk h1 (by rw [Foot.set_ne hk] at h2; exact h2)).elim
    · by_cases hk : k = i
      · exact (key hk hj h2 (by rw [Foot.set_ne hj] at h1; exact h1)).elim
      · rw [Foot.set_ne hj] at h1
        rw [Foot.set_ne hk] at h2
        exact R.dis j k b h1 h2
  · by_cases hj : j = i
    · subst hj
      rw [Foot.set_same] at hb
      rcases List.mem_cons.mp hb with z | z
      · subst z; exact R.hM j b ai (.inl m)
      · exact (sF b z).elim (fun z => R.hM j b z (.inl m)) fun z => tM b z m
    · rw [Foot.set_ne hj] at hb
      exact R.hM j b hb (.inl m)
  · by_cases z : b = a
    · subst z; rw [upd_same]; exact fun z => by cases z
    · rw [upd_ne z]; exact R.dom b (.inl m)
/-- behind it -/
theorem Aft.mut {i : Nat} {a : Addr} {xs ds' : List D} {vs vs' : List V} {S' S2 : List Addr} (X : Aft K w M H F ρ p σ H1 ρ1 F1 T) (e : get0 ρ1 i = some (.lst true xs)) (es : σ[i]? = some (some (.ref a))) (hH : H1 a = some (.lst vs)) (eF : F1 i = a :: S')
    (h : DnL K w H1 (Al0 M T F1) vs' ds' S2) (nd : S2.Nodup) (sub : ∀ b ∈ S2, b ∈ S' ∨ b ∈ T) : Aft K w M H F ρ false σ (upd H1 a (.lst vs')) (ρ1.set i (some (.lst true ds'))) (F1.set i (a :: S2)) [] := by
  have ai : a ∈ F1 i := by rw [eF]; exact List.mem_cons_self
  refine ⟨(X.rep.mut e es hH eF h nd sub X.tM).w0, fun b o hb hf => ?_, fun b hb => ?_, List.nodup_nil, fun _ => nno, fun z => by cases z⟩
  · rw [upd_ne (show b ≠ a from fun z => X.notF1 hb hf i (z ▸ ai))]
    exact X.keep b o hb hf
  · rcases hb with hb | ⟨j, hb⟩
    · exact nno hb
    · by_cases hj : j = i
      · subst hj
        rw [Foot.set_same] at hb
        rcases List.mem_cons.mp hb with z | z
        · subst z; exact X.fresh b (.inr ⟨j, ai⟩)
        · exact (sub b z).elim (fun z => X.fresh b (.inr ⟨j, by rw [eF]; exact List.mem_cons_of_mem _ z⟩)) fun z => X.fresh b (.inl z)
      · rw [Foot.set_ne hj] at hb
        exact X.fresh b (.inr ⟨j, hb⟩)
/-- what an owned list at a slot is -/
theorem Rep.own {i : Nat} {xs : List D} (R : Rep K w H M ρ σ F) (e : get0 ρ i = some (.lst true xs)) : ∃ a vs S', σ[i]? = some (some (.ref a)) ∧ H a = some (.lst vs) ∧ F i = a :: S' ∧ DnL K w H (Fz M F) vs xs S' := by
  obtain ⟨v, ev, hd⟩ := R.den i _ e
  generalize hS : F i = S at hd
  cases hd with
  | @lstO a vs ds S' h r => exact ⟨a, vs, S', ev, h, rfl, r⟩
theorem DnL.fzAl {vs : List V} {ds : List D} {S : List Addr} (h : DnL K w H (Fz (fun b => M b ∨ b ∈ T) F) vs ds S) : DnL K w H (Al0 M T F) vs ds S := h.keyFz fun b f => ⟨fun m => f.1 (.inl m), fun m => f.1 (.inr m), f.2⟩
theorem appD_some {i : Nat} {v : D} {ρ' : Rho} (h : appD i v ρ = some ρ') : ∃ xs, get0 ρ i = some (.lst true xs) ∧ xs.length + 1 ≤ sizeLine ∧ ρ' = ρ.set i (some (.lst true (xs ++ [v]))) := by
  unfold appD at h
  split at h
  · rename_i xs e
    obtain ⟨h1, h2⟩ := chk_some h
    exact ⟨xs, e, fits_le h1, (Option.some.inj h2).symm⟩
  · cases h
theorem sfs_app {i : Nat} (he : SF K w e pe Ve te) : SFS K w (fun ρ => chk (isLst ρ i) ((e ρ).bind fun p => (appD i p.1 (kept Ve p.1.clean p.2)).map .nx)) [] (tDrop (tBM K "list" rAppend (tVar i) (tCons te tNil))) := by
  intro ρ σ H F M o D R h q
  obtain ⟨hi, h⟩ := chk_some h
  obtain ⟨⟨d, ρ1⟩, e1, h⟩ := Option.bind_eq_some_iff.mp h
  obtain ⟨ρ2, e2, h⟩ := Option.map_eq_some_iff.mp h
  subst h
  obtain ⟨xs0, e0⟩ := isLst_some hi
  obtain ⟨a, vs0, S0, ea, h0, _, _⟩ := R.own e0
  refine ⟨.ref a, ea, .inl ⟨rfl, vs0, .inl (.inl h0)⟩, he ρ σ H F M d ρ1 _ R e1 fun v H1 F1 T X hv => ?_⟩
  obtain ⟨X', hv'⟩ := X.keptE hv
  obtain ⟨xs, e3, hz, rfl⟩ := appD_some e2
  obtain ⟨a', vs, S', ea', hH, eF, r⟩ := X'.rep.own e3
  rw [ea] at ea'
  cases ea'
  have nds := List.nodup_cons.mp (eF ▸ X'.rep.nd i)
  refine ⟨a, vs, v, rfl, rfl, hH, by rw [r.length]; exact hz, q σ _ _ (X'.mut e3 ea hH eF (DnL.snoc hv' r.fzAl) ?_ fun b hb => List.mem_append.mp hb) Keeps.refl⟩
  refine List.nodup_append.mpr ⟨nds.2, X'.nd, fun b hb b' hb' z => ?_⟩
  subst z
  exact X'.rep.hM i b (by rw [eF]; exact List.mem_cons_of_mem _ hb) (.inr hb')
/-! ### extend -/
def rExtR (K : PySem.W.Frag) : V → List V → Hp → VK → Prop := fun x vs H Q => ∃ l b xs zs, x = .ref l ∧ vs = [.ref b] ∧ H l = some (.lst xs) ∧ (SqL K H b zs ∨ SqT K H b zs) ∧ xs.length + zs.length ≤ sizeLine ∧ Q .non (upd H l (.lst (xs ++ zs)))
theorem ext_meets (l : Addr) (items : Array Value) (n : Nat) (b : Addr) (items2 : Array Value) (n2 : Nat) (dd2 : Option Addr) (sl2 : Array (Option Value)) (hc0 : ¬(!items.isEmpty && Builtin.List.listTooLong (items.size + items2.size)) = true) (hc1 : items.size ≤ sizeLine) (hs2 : items.size + items2.size ≤ sizeLine + 1) :
    Meets (Builtin.«list.extend» ⟨[.ref l, .ref b], []⟩) (fun _ R s => s.heap.get? l = some { cls := .type "list", dict := none, data := .seq items n, slots := #[] } ∧ s.heap.get? b = some { cls := .type "list", dict := dd2, data := .seq items2 n2, slots := sl2 } ∧ R (.ok (.ret Value.none)) { s with heap := s.heap.update l (Obj.mapSeq fun xs => xs ++ items2), toks := s.toks }) :=
  .of_wp fun prog w A R s h => by
    obtain ⟨hp, g, d, tk, os⟩ := s
    obtain ⟨hl, hb, h⟩ := h
    have f1 := AutoSeq1.idx_int
    have f2 := AutoSeq1.sub_tuple_tuple
    have f3 := AutoSeq1.sub_list_list
    have f4 := AutoSeq1.sub_tuple_list
    have f5 := AutoSeq1.sub_list_tuple
    have hz' : (items ++ items2).size ≤ sizeLine + 1 := by rw [Array.size_append]; exact hs2
    wp_walk using (wpAny_updateSeq hl rfl (hz := hc1) (_hz' := hz')), AutoSeq1.wpAny_loadPart' hl, AutoSeq1.wpAny_loadPart' hb
    exact ⟨_, rfl, h⟩
theorem ext_meetsT (l : Addr) (items : Array Value) (n : Nat) (b : Addr) (items2 : Array Value) (n2 : Nat) (dd2 : Option Addr) (sl2 : Array (Option Value)) (hc0 : ¬(!items.isEmpty && Builtin.List.listTooLong (items.size + items2.size)) = true) (hc1 : items.size ≤ sizeLine) (hs2 : items.size + items2.size ≤ sizeLine + 1) :
    Meets (Builtin.«list.extend» ⟨[.ref l, .ref b], []⟩) (fun _ R s => s.heap.get? l = some { cls := .type "list", dict := none, data := .seq items n, slots := #[] } ∧ s.heap.get? b = some { cls := .type "tuple", dict := dd2, data := .seq items2 n2, slots := sl2 } ∧ R (.ok (.ret Value.none)) { s with heap := s.heap.update l (Obj.mapSeq fun xs => xs ++ items2), toks := s.toks }) :=
  .of_wp fun prog w A R s h => by
    obtain ⟨hp, g, d, tk, os⟩ := s
    obtain ⟨hl, hb, h⟩ := h
    have f1 := AutoSeq1.idx_int
    have f2 := AutoSeq1.sub_tuple_tuple
    have f3 := AutoSeq1.sub_list_list
    have f4 := AutoSeq1.sub_tuple_list
    have f5 := AutoSeq1.sub_list_tuple
    have hz' : (items ++ items2).size ≤ sizeLine + 1 := by rw [Array.size_append]; exact hs2
    wp_walk using (wpAny_updateSeq hl rfl (hz := hc1) (_hz' := hz')), AutoSeq1.wpAny_loadPart' hl, AutoSeq1.wpAny_loadPart' hb
    exact ⟨_, rfl, h⟩
theorem mt_extR {X : Cx} : MtR X "list.extend" (rExtR X.K) := by
  intro pins s σ H x vs v us Q I rx rv h
  obtain ⟨l, b, xs, zs, rfl, rfl, hH, hB, hz, q⟩ := h
  cases rx
  obtain ⟨u, rfl, ru⟩ := rv.one
  cases ru
  obtain ⟨z, its, n, r, hl, e⟩ := I.lstM hH
  rcases hB with hB | hB
  rotate_left
  · obtain ⟨its2, r2, ⟨⟨cls2, dd2, data2, sl2⟩, ho2, hc2, n2, hd2⟩, z2⟩ := I.tuple hB
    simp only at hc2 hd2
    subst hc2 hd2
    have hl2 := r2.length
    have hsz : its.toArray.size + its2.toArray.size ≤ sizeLine := by rw [List.size_toArray, List.size_toArray]; omega
    have hlong : ¬ (!its.toArray.isEmpty && Builtin.List.listTooLong (its.toArray.size + its2.toArray.size)) = true := by
      rw [notLongL hsz, Bool.and_false]
      exact Bool.false_ne_true
    refine call_meets F.slot_list_extend ⟨_, e, rfl⟩ F.entry_list_extend (F.args_list_extend_2 _ _)
      (ext_meetsT l its.toArray n b its2.toArray n2 dd2 sl2 hlong (by rw [List.size_toArray]; omega) (by omega)) ⟨e, ho2, ?_⟩
    refine ⟨.non, _, I.lset (its' := its ++ its2) hH e (by simp) (r.append r2) (by rw [List.length_append]; exact hz), rfl, q⟩
  obtain ⟨its2, r2, ⟨⟨cls2, dd2, data2, sl2⟩, n2, ho2, hc2, hd3, hd2⟩, z2⟩ := I.list hB
  simp only at hc2 hd2
  subst hc2 hd2
  have hl2 := r2.length
  have hsz : its.toArray.size + its2.toArray.size ≤ sizeLine := by rw [List.size_toArray, List.size_toArray]; omega
  have hlong : ¬ (!its.toArray.isEmpty && Builtin.List.listTooLong (its.toArray.size + its2.toArray.size)) = true := by
    rw [notLongL hsz, Bool.and_false]
    exact Bool.false_ne_true
  refine call_meets F.slot_list_extend ⟨_, e, rfl⟩ F.entry_list_extend (F.args_list_extend_2 _ _)
    (ext_meets l its.toArray n b its2.toArray n2 dd2 sl2 hlong (by rw [List.size_toArray]; omega) (by omega)) ⟨e, ho2, ?_⟩
  refine ⟨.non, _, I.lset (its' := its ++ its2) hH e (by simp) (r.append r2) (by rw [List.length_append]; exact hz), rfl, q⟩
theorem extD_some {i : Nat} {v : D} {ρ' : Rho} (h : extD i v ρ = some ρ') : ∃ xs ys, get0 ρ i = some (.lst true xs) ∧ dItems v = some ys ∧ xs.length + ys.length ≤ sizeLine ∧ ρ' = ρ.set i (some (.lst true (xs ++ ys))) := by
  unfold extD at h
  split at h
  · rename_i xs e
    obtain ⟨ys, e2, h⟩ := Option.bind_eq_some_iff.mp h
    obtain ⟨h1, h2⟩ := chk_some h
    exact ⟨xs, ys, e, e2, fits_le h1, (Option.some.inj h2).symm⟩
  · cases h
theorem lItems_some {d : D} {ys : List D} (h : lItems d = some ys) : ∃ o, d = .lst o ys := by
  cases d <;> first | (cases h; done) | skip
  cases h
  exact ⟨_, rfl⟩
end
end Eng
namespace Eng
open PySem PySem.Spec PyProof.Rows L2 RT
section
variable {K : PySem.W.Frag} {w : World} {M : Addr → Prop} {H H1 H2 : Hp} {F F1 F2 : Foot} {ρ ρ1 ρ2 : Rho} {σ σ1 σ2 : L2.St} {T T1 T2 : List Addr} {p p1 p2 : Bool} {Vx : List Nat} {A B : List Nat}
variable {e e' : Rho → Option (D × Rho)} {et : Rho → Option (Bool × Rho)} {te te' tk : TE} {tt : TT} {Ve Vk : List Nat} {pe pt pi pk : Bool} {ea eb ek : Rho → Option (D × Rho)}
theorem lItems_frz {d : D} {ys : List D} (h : lItems d.frz = some ys) : ∃ o zs, d = .lst o zs ∧ ys = frzL zs := by
  cases d <;> first | (cases h; done) | skip
  rename_i o xs
  change some (frzL xs) = some ys at h
  cases h
  exact ⟨o, xs, rfl, rfl⟩
theorem dItems_frz {d : D} {ys : List D} (h : dItems d.frz = some ys) : d.frz = .tup ys ∨ ∃ o, d.frz = .lst o ys := by
  cases d <;> first | (cases h; done) | skip
  · cases h; exact .inl rfl
  · cases h; exact .inr ⟨_, rfl⟩
theorem sfs_ext {i : Nat} (he : SF K w e pe Ve te) : SFS K w (fun ρ => chk (isLst ρ i) ((e ρ).bind fun p => (extD i p.1.frz (kept Ve p.1.clean p.2)).map .nx)) [] (tDrop (tBM K "list" (rExtR K) (tVar i) (tCons te tNil))) := by
  intro ρ σ H F M o D R h q
  obtain ⟨hi, h⟩ := chk_some h
  obtain ⟨⟨d, ρ1⟩, e1, h⟩ := Option.bind_eq_some_iff.mp h
  obtain ⟨ρ2, e2, h⟩ := Option.map_eq_some_iff.mp h
  subst h
  obtain ⟨xs0, e0⟩ := isLst_some hi
  obtain ⟨a, vs0, S0, ea, h0, _, _⟩ := R.own e0
  refine ⟨.ref a, ea, .inl ⟨rfl, vs0, .inl (.inl h0)⟩, he ρ σ H F M d ρ1 _ R e1 fun v H1 F1 T X hv => ?_⟩
  obtain ⟨X', hv'⟩ := X.keptE hv
  obtain ⟨xs, ys, e3, e4, hz, rfl⟩ := extD_some e2
  obtain ⟨a', vs, S', ea', hH, eF, r⟩ := X'.rep.own e3
  rw [ea] at ea'
  cases ea'
  have nds := List.nodup_cons.mp (eF ▸ X'.rep.nd i)
  -- the argument, let go: frozen and not at the slots' own
  have X2 := X'.drop
  have hv2 : Dn K w H1 (Al0 M [] (keptF Ve d.clean F1)) v d.frz [] := hv'.frz (fun b f => ⟨f.1, nno, f.2.2⟩) fun b hb => ⟨X'.tM b hb, nno, fun j hj => X'.rep.hM j b hj (.inr hb)⟩
  obtain ⟨b, us, rfl, hB, rz⟩ : ∃ b us, v = .ref b ∧ (SqL K H1 b us ∨ SqT K H1 b us) ∧ DnL K w H1 (Al0 M [] (keptF Ve d.clean F1)) us ys [] := by
    rcases dItems_frz e4 with e | ⟨o, e⟩
    · rw [e] at hv2
      obtain ⟨b, us, rfl, hB, rz⟩ := hv2.sqT
      exact ⟨b, us, rfl, .inr hB, rz⟩
    · rw [e] at hv2
      obtain ⟨b, us, rfl, _, hB, rz⟩ := hv2.sqL
      exact ⟨b, us, rfl, .inl hB, rz⟩
  have happ : DnL K w H1 (Al0 M [] (keptF Ve d.clean F1)) (vs ++ us) (xs ++ ys) (S' ++ []) := DnL.append (X2.rep.own e3 |> fun ⟨a2, vs2, S2, ea2, hH2, eF2, r2⟩ => by
    rw [ea] at ea2; cases ea2
    rw [hH] at hH2; cases hH2
    rw [eF] at eF2; cases eF2
    exact r2.fzAl) rz
  rw [List.append_nil] at happ
  exact ⟨a, b, vs, us, rfl, rfl, hH, hB, by rw [r.length, rz.length]; exact hz, q σ _ _ (X2.mut e3 ea hH eF happ nds.2 fun b hb => .inl hb) Keeps.refl⟩
/-! ### an item of a list changed -/
theorem DnL.split {Fy : Addr → Prop} : ∀ {vs : List V} {ds : List D} {S : List Addr} {j : Nat}, DnL K w H Fy vs ds S → j < ds.length → ∃ v d S1 S2 S3, vs[j]? = some v ∧ ds[j]? = some d ∧ Dn K w H Fy v d S2 ∧ S = S1 ++ (S2 ++ S3) ∧
    ∀ (v' : V) (d' : D) (S' : List Addr), Dn K w H Fy v' d' S' → DnL K w H Fy (vs.set j v') (ds.set j d') (S1 ++ (S' ++ S3))
  | _, _, _, _, .nil, h => by simp at h
  | _, _, _, 0, .cons (v := v) (d := d) (S := S2) (S' := S3) h r, _ => ⟨v, d, [], S2, S3, rfl, rfl, h, rfl, fun v' d' S' h' => by have := DnL.cons h' r; exact this⟩
  | _, _, _, j + 1, .cons (S := S0) h r, hl => by
    obtain ⟨v, d, S1, S2, S3, e1, e2, hd, eS, g⟩ := DnL.split (j := j) r (by simpa using hl)
    refine ⟨v, d, S0 ++ S1, S2, S3, by simpa using e1, by simpa using e2, hd, by rw [eS, List.append_assoc], fun v' d' S' h' => ?_⟩
    have := DnL.cons h (g v' d' S' h')
    rw [List.append_assoc]
    exact this
theorem ixN_lt {n : Nat} {k : Int} {j : Nat} (h : ixN n k = some j) : j < n := by
  unfold ixN at h
  split at h <;> split at h <;> first | (cases h; omega) | (cases h)
theorem Aft.pure1 (A : Aft K w M H F ρ p σ H1 ρ1 F1 T) (hp : p = true) : ρ1 = ρ ∧ F1 = F ∧ Same H H1 ∧ ∀ a ∈ T, H a = none := A.pur hp
end
end Eng
namespace Eng
open PySem PySem.Spec PyProof.Rows L2 RT
section
variable {K : PySem.W.Frag} {w : World} {M : Addr → Prop} {H H1 H2 : Hp} {F F1 F2 : Foot} {ρ ρ1 ρ2 : Rho} {σ σ1 σ2 : L2.St} {T T1 T2 : List Addr} {p p1 p2 : Bool} {Vx : List Nat} {A B : List Nat}
variable {e e' : Rho → Option (D × Rho)} {te te' tk : TE} {Ve Vk : List Nat} {pe pk : Bool} {ea eb ek : Rho → Option (D × Rho)}
/-! ### a slot's own thing changed -/
def offF (F : Foot) (i : Nat) : Foot := fun j => if j = i then [] else F j
theorem Rep.noTup (R : Rep K w H M ρ σ F) {i : Nat} {b : Addr} (bi : b ∈ F i) (xs : List V) : ¬ Rd H b (.tup xs) := fun r => R.notup r i bi
theorem Rep.chg {i : Nat} {b : Addr} {o : HO} {d0 dnew : D} {v0 : V} {S' : List Addr} (R : Rep K w H (fun b => M b ∨ b ∈ T) ρ σ F) (e : get0 ρ i = some d0) (es : σ[i]? = some (some v0)) (bi : b ∈ F i)
    (h : Dn K w (upd H b o) (Al0 M S' (offF F i)) v0 dnew S') (nd : S'.Nodup) (sub : ∀ x ∈ S', x ∈ F i ∨ x ∈ T) (tM : ∀ x ∈ T, ¬ M x) :
    ∃ F', Rep K w (upd H b o) M (ρ.set i (some dnew)) σ F' ∧ ∀ j x, x ∈ F' j → x ∈ F j ∨ x ∈ T := by
  obtain ⟨o', hb⟩ := ne_some (R.thereN bi)
  have R1 := (R.unset i (get0_lt e)).updN (o := o) hb (R.noTup bi) (.inr bi)
  have R2 : Rep K w (upd H b o) (fun x => M x ∨ x ∈ S') (ρ.set i none) σ (offF F i) := R1.weak fun x m => m.elim (fun m => .inl (.inl m)) fun m => (sub x m).elim .inr fun z => .inl (.inr z)
  obtain ⟨F', R3, f1, _⟩ := Rep.set' R2 h nd (fun x hx m => (sub x hx).elim (fun z => R.hM i x z (.inl m)) fun z => tM x z m) i
  rw [set_set, set_id es] at R3
  refine ⟨F', R3, fun j x hx => ?_⟩
  rcases f1 j x hx with z | z
  · exact .inl (of_if z)
  · by_cases hj : j = i
    · subst hj; exact sub x z
    · -- at another slot it cannot be
      exact .inl (by
        by_cases h3 : x ∈ F j
        · exact h3
        · exfalso
          have hx2 : x ∈ F' i ∨ True := .inr trivial
          exact absurd z fun z => h3 (by
            have : F' j = offF F i j := by
              have := (‹∀ j, j ≠ i → F' j = offF F i j›) j hj
              exact this
            rw [this] at hx; exact of_if hx))
end
end Eng
namespace Eng
open PySem PySem.Spec PyProof.Rows L2 RT
section
variable {K : PySem.W.Frag} {w : World} {M : Addr → Prop} {H H1 H2 : Hp} {F F1 F2 : Foot} {ρ ρ1 ρ2 : Rho} {σ σ1 σ2 : L2.St} {T T1 T2 : List Addr} {p p1 p2 : Bool} {Vx : List Nat} {A B : List Nat}
variable {e e' : Rho → Option (D × Rho)} {te te' tk : TE} {Ve Vk : List Nat} {pe pk : Bool} {ea eb ek : Rho → Option (D × Rho)}
theorem Aft.chg {i : Nat} {b : Addr} {o : HO} {d0 dnew : D} {v0 : V} {S' : List Addr} (X : Aft K w M H F ρ p σ H1 ρ1 F1 T) (e : get0 ρ1 i = some d0) (es : σ[i]? = some (some v0)) (bi : b ∈ F1 i)
    (h : Dn K w (upd H1 b o) (Al0 M S' (offF F1 i)) v0 dnew S') (nd : S'.Nodup) (sub : ∀ x ∈ S', x ∈ F1 i ∨ x ∈ T) : ∃ F', Aft K w M H F ρ false σ (upd H1 b o) (ρ1.set i (some dnew)) F' [] := by
  obtain ⟨F', R, f⟩ := X.rep.chg e es bi h nd sub X.tM
  refine ⟨F', R.w0, fun c o' hc hf => ?_, fun c hc => ?_, List.nodup_nil, fun _ => nno, fun z => by cases z⟩
  · rw [upd_ne (show c ≠ b from fun z => X.notF1 hc hf i (z ▸ bi))]
    exact X.keep c o' hc hf
  · rcases hc with hc | ⟨j, hc⟩
    · exact nno hc
    · rcases f j c hc with z | z
      · exact X.fresh c (.inr ⟨j, z⟩)
      · exact X.fresh c (.inl z)
/-- an owned dict at a slot -/
theorem Rep.ownD {i : Nat} {kvs : List (D × D)} (R : Rep K w H M ρ σ F) (e : get0 ρ i = some (.dct true kvs)) : ∃ a ob es S', σ[i]? = some (some (.ref a)) ∧ H a = some (rawO a ob) ∧ DcOk a ob es ∧ F i = a :: S' ∧ DnE K w H (Fz M F) es.toList kvs S' ∧ (kvs.map fun p => p.1.nk).Nodup := by
  obtain ⟨v, ev, hd⟩ := R.den i _ e
  generalize hS : F i = S at hd
  cases hd with
  | @dctO a o es _ S' h k r n => exact ⟨a, o, es, S', ev, h, k, rfl, r, n⟩
theorem dPut_some {k v d d' : D} (h : dPut k v d = some d') : (∃ xs i j, d = .lst true xs ∧ k = .int i ∧ ixN xs.length i = some j ∧ d' = .lst true (xs.set j v)) ∨ ∃ kvs n, d = .dct true kvs ∧ dKey k = some n ∧ kvs.length + 1 ≤ sizeLine ∧ d' = .dct true (dSet k v kvs) := by
  cases d <;> first | (cases h; done) | skip
  · rename_i o xs
    cases o <;> first | (cases h; done) | skip
    cases k <;> first | (cases h; done) | skip
    rename_i i
    obtain ⟨j, e1, e2⟩ := Option.map_eq_some_iff.mp (show (ixN xs.length i).map (fun j => D.lst true (xs.set j v)) = some d' from h)
    exact .inl ⟨xs, i, j, rfl, rfl, e1, e2.symm⟩
  · rename_i o kvs
    cases o <;> first | (cases h; done) | skip
    simp only [dPut] at h
    split at h
    · rename_i n en
      obtain ⟨h1, h2⟩ := chk_some h
      exact .inr ⟨kvs, n, rfl, en, fits_le h1, (Option.some.inj h2).symm⟩
    · cases h
/-- what a store does, by what stands there: the state behind it -/
theorem Aft.putAt {i : Nat} {d0 d1 dk d : D} {v u : V} {Fk : Addr → Prop} (X : Aft K w M H F ρ p σ H1 ρ1 F1 T) (hv : Dn K w H1 (Al0 M T F1) v d T) (hu : Dn K w H1 Fk u dk []) (e : get0 ρ1 i = some d0) (h : dPut dk d d0 = some d1) {v0 : V} (es : σ[i]? = some (some v0)) {Q : Hp → Prop}
    (q : ∀ H' F', Aft K w M H F ρ false σ H' (ρ1.set i (some d1)) F' [] → Q H') : rPutR K w v0 u v H1 Q := by
  have disj : ∀ b, b ∈ F1 i → b ∉ T := fun b hb z => X.rep.hM i b hb (.inr z)
  rcases dPut_some h with ⟨xs, k, j, rfl, rfl, hj, rfl⟩ | ⟨kvs, n, rfl, hn, hz, rfl⟩
  · obtain ⟨a, vs, S', ea, hH, eF, r⟩ := X.rep.own e
    rw [es] at ea; cases ea
    cases hu
    refine .inl ⟨a, vs, k, j, rfl, rfl, hH, by rw [r.length]; exact hj, ?_⟩
    obtain ⟨_, _, S1, S2, S3, _, _, _, eS, g⟩ := r.fzAl.split (ixN_lt hj)
    have nds := List.nodup_cons.mp (eF ▸ X.rep.nd i)
    refine q _ _ (X.mut e es hH eF (g v d T hv) ?_ fun b hb => ?_)
    · have n1 := nds.2
      rw [eS] at n1
      have dT : ∀ b, b ∈ S' → b ∉ T := fun b hb => disj b (by rw [eF]; exact List.mem_cons_of_mem _ hb)
      have m1 := List.nodup_append.mp n1
      have m2 := List.nodup_append.mp m1.2.1
      refine List.nodup_append.mpr ⟨m1.1, List.nodup_append.mpr ⟨X.nd, m2.2.1, fun b hb b' hb' z => ?_⟩, fun b hb b' hb' z => ?_⟩
      · subst z
        exact dT b (by rw [eS]; exact List.mem_append_right _ (List.mem_append_right _ hb')) hb
      · subst z
        rcases List.mem_append.mp hb' with z | z
        · exact dT b (by rw [eS]; exact List.mem_append_left _ hb) z
        · exact m1.2.2 b hb b (List.mem_append_right _ z) rfl
    · rcases List.mem_append.mp hb with z | z
      · exact .inl (by rw [eS]; exact List.mem_append_left _ z)
      · rcases List.mem_append.mp z with z | z
        · exact .inr z
        · exact .inl (by rw [eS]; exact List.mem_append_right _ (List.mem_append_right _ z))
  · obtain ⟨a, ob, es', S', ea, hH, k, eF, r, nk⟩ := X.rep.ownD e
    rw [es] at ea; cases ea
    have ai : a ∈ F1 i := by rw [eF]; exact List.mem_cons_self
    have nds := List.nodup_cons.mp (eF ▸ X.rep.nd i)
    have sF : ∀ b ∈ S', b ∈ F1 i := fun b hb => by rw [eF]; exact List.mem_cons_of_mem _ hb
    have nt := X.rep.noTup ai
    refine .inr ⟨a, rfl, ob, es', kvs, S', _, dk, n, hH, k, r, nk, hu.key (dKey_some hn).1, hn, by omega, fun ob' es2 k' hp => ?_⟩
    -- all read with one set of frozen things
    have r2 : DnE K w H1 (Al0 M T F1) es'.toList kvs S' := r.keyFz fun b f => ⟨fun m => f.1 (.inl m), fun m => f.1 (.inr m), f.2⟩
    obtain ⟨S2, r3, n3, s3⟩ := r2.put nk (hu.key (dKey_some hn).1) hn hv hp nds.2 X.nd fun b hb => disj b (sF b hb)
    have a3 : a ∉ S2 := fun z => (s3 a z).elim nds.1 (disj a ai)
    have sub : ∀ x ∈ a :: S2, x ∈ F1 i ∨ x ∈ T := fun x hx => by
      rcases List.mem_cons.mp hx with z | z
      · rw [z]; exact .inl ai
      · exact (s3 x z).imp (sF x) id
    obtain ⟨F', A⟩ := X.chg (b := a) (o := rawO a ob') e es ai (dnew := .dct true (dSet dk d kvs)) (.dctO upd_same k' (r3.carry (Carry.atR (o1 := .own 0) nt (fun b o' _ f => ⟨fun z => f.2.2 i (z ▸ ai), f.1, fun z => (sub b z).elim (f.2.2 i) f.2.1, fun j hj => f.2.2 j (of_if hj)⟩) a3)) (dSet_keys nk)) (List.nodup_cons.mpr ⟨a3, n3⟩) sub
    exact q _ _ A
theorem Dn.keep1 {v : V} {d : D} {S : List Addr} {Fy : Addr → Prop} (h : Dn K w H Fy v d S) (s : Same H H1) : Dn K w H1 Fy v d S := h.carry (Carry.same s fun _ _ _ f => f)
theorem sfs_put {i : Nat} (he : SF K w e pe Ve te) (hk : SF K w ek pk Vk tk) : SFS K w (fun ρ => (e ρ).bind fun p => chk pk ((ek p.2).bind fun q => (putD i q.1.frz p.1 (kept Ve p.1.clean p.2)).map .nx)) [] (tAsg te (gSub (tVar i) tk (rPutR K w))) := by
  intro ρ σ H F M o D R h q
  obtain ⟨⟨d, ρ1⟩, e1, h⟩ := Option.bind_eq_some_iff.mp h
  obtain ⟨hpk, h⟩ := chk_some h
  obtain ⟨⟨k, ρ2⟩, e2, h⟩ := Option.bind_eq_some_iff.mp h
  obtain ⟨ρ3, e3, h⟩ := Option.map_eq_some_iff.mp h
  subst h
  refine he ρ σ H F M d ρ1 _ R e1 fun v H1 F1 T X hv => ?_
  simp only at e3
  obtain ⟨d0, e4, e5⟩ := Option.bind_eq_some_iff.mp e3
  obtain ⟨d1, e6, e7⟩ := Option.map_eq_some_iff.mp e5
  subst e7
  obtain ⟨X', hv'⟩ := X.keptE hv
  obtain ⟨v0, ev0, _⟩ := X'.rep.den i d0 e4
  refine ⟨v0, ev0, hk ρ1 σ H1 F1 _ k ρ2 _ X.rep e2 fun u H2 F2 T2 Y hu => ?_⟩
  obtain ⟨e8, e9, sm, nT⟩ := Y.pur hpk
  have hu' := Y.letgo (fun _ z => z) hu
  have X2 : Aft K w M H F ρ false σ H2 (kept Ve d.clean ρ1) (keptF Ve d.clean F1) T := ⟨X'.rep.same sm, fun b o' eb hf => sm _ _ (X'.keep b o' eb hf), X'.fresh, X'.nd, X'.tM, fun z => by cases z⟩
  exact X2.putAt (hv'.keep1 sm) hu' e4 e6 ev0 fun H' F' A => q σ H' F' A Keeps.refl
end
end Eng
namespace Eng
open PySem PySem.Spec PyProof.Rows L2 RT
section
variable {K : PySem.W.Frag} {w : World} {M : Addr → Prop} {H H1 H2 : Hp} {F F1 F2 : Foot} {ρ ρ1 ρ2 : Rho} {σ σ1 σ2 : L2.St} {T T1 T2 : List Addr} {p p1 p2 : Bool} {Vx : List Nat} {A B : List Nat} {Fy Fy' : Addr → Prop}
/-! ### things within things -/
theorem DnL.parts : ∀ {vs : List V} {ds : List D} {S : List Addr} {j : Nat}, DnL K w H Fy vs ds S → j < ds.length → ∃ v d S1 S2 S3, vs[j]? = some v ∧ ds[j]? = some d ∧ Dn K w H Fy v d S2 ∧ S = S1 ++ (S2 ++ S3) ∧
    ∀ (H' : Hp) (Fy' : Addr → Prop) (d' : D) (S' : List Addr), Carry H H' Fy Fy' (S1 ++ S3) → Dn K w H' Fy' v d' S' → DnL K w H' Fy' vs (ds.set j d') (S1 ++ (S' ++ S3))
  | _, _, _, _, .nil, h => by simp at h
  | _, _, _, 0, .cons (v := v) (d := d) (S := S2) (S' := S3) h r, _ => ⟨v, d, [], S2, S3, rfl, rfl, h, rfl, fun H' Fy' d' S' c h' => by have := DnL.cons h' (r.carry c); exact this⟩
  | _, _, _, j + 1, .cons (S := S0) h r, hl => by
    obtain ⟨v, d, S1, S2, S3, e1, e2, hd, eS, g⟩ := DnL.parts (j := j) r (by simpa using hl)
    refine ⟨v, d, S0 ++ S1, S2, S3, by simpa using e1, by simpa using e2, hd, by rw [eS, List.append_assoc], fun H' Fy' d' S' c h' => ?_⟩
    rw [List.append_assoc] at c
    have := DnL.cons (h.carry (c.sub fun a ha => List.mem_append_left _ ha)) (g H' Fy' d' S' (c.sub fun a ha => List.mem_append_right _ ha) h')
    rw [List.append_assoc]
    exact this
theorem DnE.parts : ∀ {es : List DictEntry} {kvs : List (D × D)} {S : List Addr} {j : Nat} {p : D × D}, DnE K w H Fy es kvs S → kvs[j]? = some p → ∃ v e S1 S2 S3, es[j]? = some e ∧ RelV v e.val ∧ Dn K w H Fy v p.2 S2 ∧ S = S1 ++ (S2 ++ S3) ∧
    ∀ (H' : Hp) (Fy' : Addr → Prop) (d' : D) (S' : List Addr), Carry H H' Fy Fy' (S1 ++ S3) → Dn K w H' Fy' v d' S' → DnE K w H' Fy' es (kvs.set j (p.1, d')) (S1 ++ (S' ++ S3))
  | _, _, _, _, _, .nil, h => by simp at h
  | _, _, _, 0, _, .cons (e := e0) (v := v) (S := S2) (S' := S3) h1 h2 h3 h4 h5 h6 h7 r, h => by
    simp at h; subst h
    refine ⟨v, e0, [], S2, S3, rfl, h2, h7, rfl, fun H' Fy' d' S' c h' => ?_⟩
    have := DnE.cons h1 h2 (h3.carry (c.sub fun _ => nno)) h4 h5 h6 h' (r.carry c)
    exact this
  | _, _, _, j + 1, _, .cons (S := S0) h1 h2 h3 h4 h5 h6 h7 r, h => by
    obtain ⟨v, e, S1, S2, S3, e1, rv, hd, eS, g⟩ := DnE.parts (j := j) r (by simpa using h)
    refine ⟨v, e, S0 ++ S1, S2, S3, by simpa using e1, rv, hd, by rw [eS, List.append_assoc], fun H' Fy' d' S' c h' => ?_⟩
    rw [List.append_assoc] at c
    have := DnE.cons h1 h2 (h3.carry (c.sub fun _ => nno)) h4 h5 h6 (h7.carry (c.sub fun a ha => List.mem_append_left _ ha)) (g H' Fy' d' S' (c.sub fun a ha => List.mem_append_right _ ha) h')
    rw [List.append_assoc]
    exact this
def Cell (K : PySem.W.Frag) (w : World) (H : Hp) (Fy : Addr → Prop) (S : List Addr) (v0 : V) (d0 : D) (ks : List D) (vc : V) : Prop := ∃ dc Sc S1 S2, getP ks d0 = some dc ∧ S = S1 ++ (Sc ++ S2) ∧ Dn K w H Fy vc dc Sc ∧
  ∀ (H' : Hp) (Fy' : Addr → Prop) (Sc' : List Addr) (dc' d' : D), Carry H H' Fy Fy' (S1 ++ S2) → Dn K w H' Fy' vc dc' Sc' → putP ks dc' d0 = some d' → Dn K w H' Fy' v0 d' (S1 ++ (Sc' ++ S2))
theorem Carry.trans {H3 : Hp} {Fz2 : Addr → Prop} {S : List Addr} (s : Same H H1) (c : Carry H1 H3 Fy Fz2 S) : Carry H H3 Fy Fz2 S :=
  ⟨fun b xs r => c.tup b xs (r.imp (s _ _) fun ⟨o, r⟩ => ⟨o, s _ _ r⟩), fun b o e f => c.fz b o (s _ _ e) f, fun b o e hb => c.own b o (s _ _ e) hb⟩
theorem Cell.keep {S : List Addr} {v0 : V} {d0 : D} {ks : List D} {vc : V} (c : Cell K w H Fy S v0 d0 ks vc) (s : Same H H1) : Cell K w H1 Fy S v0 d0 ks vc := by
  obtain ⟨dc, Sc, S1, S2, e1, e2, hd, g⟩ := c
  exact ⟨dc, Sc, S1, S2, e1, e2, hd.keep1 s, fun H' Fy' Sc' dc' d' cc h e => g H' Fy' Sc' dc' d' (Carry.trans s cc) h e⟩
theorem Cell.nil {S : List Addr} {v0 : V} {d0 : D} (h : Dn K w H Fy v0 d0 S) : Cell K w H Fy S v0 d0 [] v0 :=
  ⟨d0, S, [], [], rfl, by simp, h, fun H' Fy' Sc' dc' d' _ h' e => by cases e; simpa using h'⟩
/-- one key more: where it leads, as the subscript has it -/
def rIxDc (K : PySem.W.Frag) (w : World) : R2 := fun x y H Q => ∃ (a : Addr) (ob : Obj) (es : Array DictEntry) (kvs : List (D × D)) (S : List Addr) (Fy : Addr → Prop) (kd : D) (n : NestedKey) (j : Nat) (p : D × D) (e : DictEntry) (v : V),
  x = .ref a ∧ H a = some (rawO a ob) ∧ DcOk a ob es ∧ DnE K w H Fy es.toList kvs S ∧ (kvs.map fun p => p.1.nk).Nodup ∧ Dn K w H Fy y kd [] ∧ dKey kd = some n ∧ kvs[j]? = some p ∧ p.1.nk = some n ∧ es.toList[j]? = some e ∧ RelV v e.val ∧ Q v H
def rSubI (K : PySem.W.Frag) (w : World) : R2 := fun x y H Q => rIx K x y H Q ∨ rIxDc K w x y H Q
theorem ixN_of {n : Nat} {i : Int} {j : Nat} (h : ixN n i = some j) : j < n := ixN_lt h
theorem dFind_some {kvs : List (D × D)} {n : NestedKey} {d : D} (h : dFind kvs n = some d) : ∃ (j : Nat) (p : D × D), kvs[j]? = some p ∧ p.1.nk = some n ∧ p.2 = d := by
  unfold dFind at h
  obtain ⟨p, hp, e⟩ := Option.map_eq_some_iff.mp h
  obtain ⟨j, hj⟩ := List.mem_iff_getElem?.mp (List.mem_of_find?_eq_some hp)
  exact ⟨j, p, hj, by simpa using List.find?_some hp, e⟩
theorem Cell.step {S : List Addr} {v0 y : V} {d0 d2 k : D} {ks : List D} {vc : V} {Fk : Addr → Prop} (c : Cell K w H Fy S v0 d0 ks vc) (hy : Dn K w H Fk y k []) {dc : D} (e : getP ks d0 = some dc) (e2 : sub1 k dc = some d2) {Q : VK}
    (q : ∀ v2, Cell K w H Fy S v0 d0 (k :: ks) v2 → Q v2 H) : rSubI K w vc y H Q := by
  obtain ⟨dc', Sc, S1, S2, e1, eS, hd, g⟩ := c
  rw [e] at e1; cases e1
  match dc with
  | .lst true xs =>
    match k with
    | .int i =>
      change atI xs i = some d2 at e2
      obtain ⟨j, j1, j2⟩ := Option.bind_eq_some_iff.mp e2
      cases hd with
      | @lstO a vs _ S' hH r =>
        cases hy
        obtain ⟨v2, d2', P1, P2, P3, a1, a2, h2, eP, gp⟩ := r.parts (ixN_lt j1)
        rw [j2] at a2; cases a2
        refine .inl (.inl ⟨a, vs, i, v2, rfl, rfl, .inl (.inl hH), by unfold atI; rw [r.length, j1]; exact a1, q v2 ⟨d2, P2, S1 ++ a :: P1, P3 ++ S2, ?_, ?_, h2, fun H' Fy' Sc' dx d' cc hx ex => ?_⟩⟩)
        · simp only [getP, e, Option.bind_some, sub1]; exact e2
        · rw [eS, eP]; simp [List.append_assoc]
        · simp only [putP, e, Option.bind_some, rep1, j1, Option.map_some] at ex
          have := g H' Fy' (a :: (P1 ++ (Sc' ++ P3))) _ d' (cc.sub fun b hb => ?_) (.lstO (cc.own a _ hH (by simp)) (gp H' Fy' dx Sc' (cc.sub fun b hb => ?_) hx)) ex
          · simpa [List.append_assoc] using this
          · rcases List.mem_append.mp hb with z | z <;> simp [z]
          · rcases List.mem_append.mp hb with z | z <;> simp [z]
    | .non | .bl _ | .str _ | .tup _ | .lst _ _ | .dct _ _ => cases e2
  | .tup xs =>
    match k with
    | .int i =>
      change atI xs i = some d2 at e2
      obtain ⟨j, j1, j2⟩ := Option.bind_eq_some_iff.mp e2
      cases hd with
      | @tup a vs _ _ hT r =>
        cases hy
        obtain ⟨v2, d2', P1, P2, P3, a1, a2, h2, eP, gp⟩ := r.parts (ixN_lt j1)
        rw [j2] at a2; cases a2
        refine .inl (.inr (.inl ⟨a, vs, i, v2, rfl, rfl, hT, by unfold atI; rw [r.length, j1]; exact a1, q v2 ⟨d2, P2, S1 ++ P1, P3 ++ S2, ?_, ?_, h2, fun H' Fy' Sc' dx d' cc hx ex => ?_⟩⟩))
        · simp only [getP, e, Option.bind_some, sub1]; exact e2
        · rw [eS, eP]; simp [List.append_assoc]
        · simp only [putP, e, Option.bind_some, rep1, j1, Option.map_some] at ex
          have := g H' Fy' (P1 ++ (Sc' ++ P3)) _ d' (cc.sub fun b hb => ?_) (.tup (cc.sqT hT) (gp H' Fy' dx Sc' (cc.sub fun b hb => ?_) hx)) ex
          · simpa [List.append_assoc] using this
          · rcases List.mem_append.mp hb with z | z <;> simp [z]
          · rcases List.mem_append.mp hb with z | z <;> simp [z]
    | .non | .bl _ | .str _ | .tup _ | .lst _ _ | .dct _ _ => cases e2
  | .dct true kvs =>
    obtain ⟨n, en, ef⟩ := Option.bind_eq_some_iff.mp (show (dKey k).bind (dFind kvs) = some d2 from e2)
    obtain ⟨j, p, hp, hpn, rfl⟩ := dFind_some ef
    cases hd with
    | @dctO a ob es _ S' hH kk r nk =>
      obtain ⟨v2, en2, P1, P2, P3, a1, rv, h2, eP, gp⟩ := r.parts hp
      have hk0 : Dn K w H Fy y k [] := hy.key (dKey_some en).1
      refine .inr ⟨a, ob, es, kvs, S', Fy, k, n, j, p, en2, v2, rfl, hH, kk, r, nk, hk0, en, hp, hpn, a1, rv, q v2 ⟨p.2, P2, S1 ++ a :: P1, P3 ++ S2, ?_, ?_, h2, fun H' Fy' Sc' dx d' cc hx ex => ?_⟩⟩
      · simp only [getP, e, Option.bind_some]; exact e2
      · rw [eS, eP]; simp [List.append_assoc]
      · simp only [putP, e, Option.bind_some, rep1, en, Option.map_some] at ex
        rw [dSet_at nk hp (hpn.trans (dKey_some en).1.symm)] at ex
        have := g H' Fy' (a :: (P1 ++ (Sc' ++ P3))) _ d' (cc.sub fun b hb => ?_) (.dctO (cc.own a _ hH (by simp)) kk (gp H' Fy' dx Sc' (cc.sub fun b hb => ?_) hx) (by
          rw [← dSet_at (k := k) nk hp (hpn.trans (dKey_some en).1.symm)]; exact dSet_keys nk)) ex
        · simpa [List.append_assoc] using this
        · rcases List.mem_append.mp hb with z | z <;> simp [z]
        · rcases List.mem_append.mp hb with z | z <;> simp [z]
  | .lst false _ | .dct false _ => cases e2
  | .non | .bl _ | .int _ | .str _ => cases e2
end
section
variable {X : Cx}
theorem ix_dcI (hu : X.A.units + 9 < cLine) : IxR X (rIxDc X.K X.w) := by
  intro value slice pins s σ H x y v u Q I rx ry ⟨a, ob, es, kvs, S, Fy, kd, n, j, p, e, v2, ex, hH, k, r, nk, hy, ek, hp, hpn, he, rv, q⟩ hs
  subst ex
  cases rx
  obtain ⟨e1, e2⟩ := dKey_some ek
  obtain ⟨ep, hdt⟩ := k.dt
  obtain ⟨kn, ekn⟩ := r.kn
  have En := r.ent I nk ekn
  have ho : s.heap.get? a = some ob := (I.hok _ _ hH).1
  have hT := typeIs_dc ho k
  have hkey := hy.nested I e1 ry
  have hu1 : X.A.in1.units + 8 < cLine := by show X.A.units + 1 + 8 < cLine; omega
  refine tail_any hT F.slot_dict_getitem.lookup ?_ hs
  unfold getItem
  try with_reducible refine wpAny_holding ?_
  refine wpAny_bind (wpAny_sequenceKey hT (by decide) (wpAny_bind (wpAny_callSpecial?_slot (name := Str.ofString "__getitem__") hT F.slot_dict_getitem
    (wpAny_call_entry F.slot_dict_getitem hT F.entry_dict_getitem ?_ (F.args_dict_getitem_2 _ _)))))
  show wpAny _ _ (dictGet a u >>= _) _ _ s
  refine wpAny_bind ?_
  unfold dictGet
  try with_reducible refine wpAny_holding ?_
  have hj0 : kn[j]? = some n := by
    have := congrArg (·[j]?) ekn
    simp only [List.getElem?_map, hp, Option.map_some, hpn] at this
    cases hk : kn[j]? with
    | none => rw [hk] at this; cases this
    | some m => rw [hk] at this; cases this; rfl
  refine wpAny_bind (pyHash_key n u _ s _ hkey (by omega) (wpAny_bind (find_D (s := { s with toks := s.toks + n.draws }) hu1 ho hdt En hkey e2 (fun hno => absurd (List.mem_of_getElem? hj0) hno) fun j' hj => ?_)))
  have : j' = j := nd_get En.nd hj hj0
  subst this
  refine wpAny_bind (wpAny_dictEntries (s := { s with toks := s.toks + n.draws }) ho hdt ?_)
  rw [← Array.getElem?_toList, he]
  exact wpAny_pure (wpAny_pure ⟨e.val, rfl, wpAny_pure ⟨v2, H, I.tok _, rv, q⟩⟩)
theorem ix_subI (hu : X.A.units + 9 < cLine) : IxR X (rSubI X.K X.w) := ix_seq.or (ix_dcI hu)
end
end Eng
namespace Eng
open PySem PySem.Spec PyProof.Rows L2 RT
section
variable {K : PySem.W.Frag} {w : World} {M : Addr → Prop} {H H1 H2 : Hp} {F F1 F2 : Foot} {ρ ρ1 ρ2 : Rho} {σ σ1 σ2 : L2.St} {T T1 T2 : List Addr} {p p1 p2 : Bool} {Vx : List Nat} {A B : List Nat} {Fy Fy' : Addr → Prop}
variable {e e' : Rho → Option (D × Rho)} {te te' tk : TE} {Ve Vk : List Nat} {pe pk : Bool} {ea eb ek : Rho → Option (D × Rho)}
def SFP (K : PySem.W.Frag) (w : World) (i : Nat) (ek : Rho → Option (List D)) (t : TE) : Prop :=
  ∀ (ρ : Rho) (σ : L2.St) (H : Hp) (F : Foot) (M : Addr → Prop) (ks : List D) (d0 : D) (v0 : V) (Q : VK), Rep K w H M ρ σ F → ek ρ = some ks → get0 ρ i = some d0 → σ[i]? = some (some v0) → (getP ks d0).isSome = true →
    (∀ vc H', Same H H' → Rep K w H' M ρ σ F → Cell K w H' (Fz M F) (F i) v0 d0 ks vc → Q vc H') → t σ H Q
theorem sfp_var {i : Nat} : SFP K w i (fun _ => some []) (tVar i) := by
  intro ρ σ H F M ks d0 v0 Q R e e0 es _ q
  cases e
  obtain ⟨v, ev, hd⟩ := R.den i d0 e0
  rw [es] at ev; cases ev
  exact ⟨v0, es, q v0 H (Same.refl _) R (Cell.nil hd)⟩
theorem sfp_sub {i : Nat} {ek : Rho → Option (List D)} {t : TE} {kk : Rho → Option (D × Rho)} (h : SFP K w i ek t) (hk : SF K w kk true Vk tk) : SFP K w i (fun ρ => (ek ρ).bind fun ks => (kk ρ).map fun q => q.1.frz :: ks) (tOp (rSubI K w) t tk) := by
  intro ρ σ H F M ks' d0 v0 Q R e e0 es hs q
  obtain ⟨ks, e1, e⟩ := Option.bind_eq_some_iff.mp e
  obtain ⟨⟨k, ρ'⟩, e2, e⟩ := Option.map_eq_some_iff.mp e
  cases e
  simp only [getP] at hs
  obtain ⟨d2, e3⟩ := Option.isSome_iff_exists.mp hs
  obtain ⟨dc, e4, e5⟩ := Option.bind_eq_some_iff.mp e3
  refine h ρ σ H F M ks d0 v0 _ R e1 e0 es (by rw [e4]; rfl) fun vc H1 s1 R1 c => hk ρ σ H1 F M k ρ' _ R1 e2 fun u H2 F2 T2 Y hu => ?_
  obtain ⟨e6, e7, sm, nT⟩ := Y.pur rfl
  have hu' := Y.letgo (fun _ z => z) hu
  subst e6 e7
  exact (c.keep sm).step hu' e4 e5 fun v2 c2 => q v2 H2 (fun b o z => sm _ _ (s1 _ _ z)) (R1.same sm) c2
theorem Cell.keepF {S : List Addr} {v0 : V} {d0 : D} {ks : List D} {vc : V} (c : Cell K w H Fy S v0 d0 ks vc) (s : Same H H1) (f : ∀ b o, H b = some o → Fy b → Fy' b) : Cell K w H1 Fy' S v0 d0 ks vc := by
  obtain ⟨dc, Sc, S1, S2, e1, e2, hd, g⟩ := c
  refine ⟨dc, Sc, S1, S2, e1, e2, hd.carry (Carry.same s f), fun H' Fy'' Sc' dc' d' cc h e => g H' Fy'' Sc' dc' d' ⟨fun b xs r => cc.tup b xs (r.imp (s _ _) fun ⟨o, r⟩ => ⟨o, s _ _ r⟩), fun b o e z => cc.fz b o (s _ _ e) (f b o e z), fun b o e hb => cc.own b o (s _ _ e) hb⟩ h e⟩
/-- a thing within the slot's thing is changed: the state behind it -/
theorem Aft.cell {i : Nat} {b : Addr} {o : HO} {d0 d1 dc' : D} {v0 vc : V} {ks : List D} {Sc Sc' S1 S2 : List Addr} (X : Aft K w M H F ρ p σ H1 ρ1 F1 T) (e : get0 ρ1 i = some d0) (es : σ[i]? = some (some v0)) (eS : F1 i = S1 ++ (Sc ++ S2))
    (g : ∀ (H' : Hp) (Fy' : Addr → Prop) (Sc' : List Addr) (dc' d' : D), Carry H1 H' (Fz (fun b => M b ∨ b ∈ T) F1) Fy' (S1 ++ S2) → Dn K w H' Fy' vc dc' Sc' → putP ks dc' d0 = some d' → Dn K w H' Fy' v0 d' (S1 ++ (Sc' ++ S2)))
    (bS : b ∈ Sc) (nd' : Sc'.Nodup) (sub' : ∀ x ∈ Sc', x ∈ Sc ∨ x ∈ T) (h : ∀ Fy' : Addr → Prop, (∀ c o', H1 c = some o' → Fz (fun b => M b ∨ b ∈ T) F1 c → c ≠ b ∧ Fy' c) → Dn K w (upd H1 b o) Fy' vc dc' Sc') (pp : putP ks dc' d0 = some d1) :
    ∃ F', Aft K w M H F ρ false σ (upd H1 b o) (ρ1.set i (some d1)) F' [] := by
  have nd := X.rep.nd i
  rw [eS] at nd
  have m1 := List.nodup_append.mp nd
  have m2 := List.nodup_append.mp m1.2.1
  have inF : ∀ x, x ∈ Sc → x ∈ F1 i := fun x hx => by rw [eS]; exact List.mem_append_right _ (List.mem_append_left _ hx)
  have in1 : ∀ x, x ∈ S1 → x ∈ F1 i := fun x hx => by rw [eS]; exact List.mem_append_left _ hx
  have in2 : ∀ x, x ∈ S2 → x ∈ F1 i := fun x hx => by rw [eS]; exact List.mem_append_right _ (List.mem_append_right _ hx)
  have dT : ∀ x, x ∈ F1 i → x ∉ T := fun x hx z => X.rep.hM i x hx (.inr z)
  have bF := inF b bS
  have b12 : b ∉ S1 ++ S2 := fun z => by
    rcases List.mem_append.mp z with z | z
    · exact m1.2.2 b z b (List.mem_append_left _ bS) rfl
    · exact m2.2.2 b bS b z rfl
  have sub : ∀ x ∈ S1 ++ (Sc' ++ S2), x ∈ F1 i ∨ x ∈ T := fun x hx => by
    rcases List.mem_append.mp hx with z | z
    · exact .inl (in1 x z)
    · rcases List.mem_append.mp z with z | z
      · exact (sub' x z).imp (inF x) id
      · exact .inl (in2 x z)
  have nds : (S1 ++ (Sc' ++ S2)).Nodup := by
    refine List.nodup_append.mpr ⟨m1.1, List.nodup_append.mpr ⟨nd', m2.2.1, fun x hx y hy z => ?_⟩, fun x hx y hy z => ?_⟩
    · subst z
      rcases sub' x hx with z | z
      · exact m2.2.2 x z x hy rfl
      · exact dT x (in2 x hy) z
    · subst z
      rcases List.mem_append.mp hy with z | z
      · rcases sub' x z with z | z
        · exact m1.2.2 x hx x (List.mem_append_left _ z) rfl
        · exact dT x (in1 x hx) z
      · exact m1.2.2 x hx x (List.mem_append_right _ z) rfl
  have fz : ∀ c o', H1 c = some o' → Fz (fun b => M b ∨ b ∈ T) F1 c → c ≠ b ∧ Al0 M (S1 ++ (Sc' ++ S2)) (offF F1 i) c := fun c o' _ f => ⟨fun z => f.2 i (z ▸ bF), fun m => f.1 (.inl m), fun z => (sub c z).elim (f.2 i) fun z => f.1 (.inr z), fun j hj => f.2 j (of_if hj)⟩
  exact X.chg (b := b) (o := o) e es bF (g _ _ _ _ _ (Carry.atR (o1 := .own 0) (X.rep.noTup bF) fz b12) (h _ fz) pp) nds sub
theorem Aft.fzT {v : V} {d : D} {S : List Addr} (X : Aft K w M H F ρ p σ H1 ρ1 F1 T) (hv : Dn K w H1 (Al0 M T F1) v d S) : Dn K w H1 (Fz (fun b => M b ∨ b ∈ T) F1) v d S := hv.keyFz fun b f => ⟨fun m => m.elim f.1 f.2.1, f.2.2⟩
theorem Aft.putCell {i : Nat} {d0 d1 dk d c c' : D} {v u v0 vc : V} {Fk : Addr → Prop} {ks : List D} {Q : Hp → Prop} (X : Aft K w M H F ρ p σ H1 ρ1 F1 T) (hv : Dn K w H1 (Al0 M T F1) v d T) (hu : Dn K w H1 Fk u dk []) (e : get0 ρ1 i = some d0) (es : σ[i]? = some (some v0))
    (cell : Cell K w H1 (Fz (fun b => M b ∨ b ∈ T) F1) (F1 i) v0 d0 ks vc) (ec : getP ks d0 = some c) (h : dPut dk d c = some c') (pp : putP ks c' d0 = some d1) (q : ∀ H' F', Aft K w M H F ρ false σ H' (ρ1.set i (some d1)) F' [] → Q H') : rPutR K w vc u v H1 Q := by
  obtain ⟨dc, Sc, S1, S2, e1, eS, hd, g⟩ := cell
  rw [ec] at e1; cases e1
  have hv2 := X.fzT hv
  have nd := X.rep.nd i
  rw [eS] at nd
  have m1 := List.nodup_append.mp nd
  have m2 := List.nodup_append.mp m1.2.1
  have inF : ∀ x, x ∈ Sc → x ∈ F1 i := fun x hx => by rw [eS]; exact List.mem_append_right _ (List.mem_append_left _ hx)
  have dT : ∀ x, x ∈ Sc → x ∉ T := fun x hx z => X.rep.hM i x (inF x hx) (.inr z)
  rcases dPut_some h with ⟨xs, k, j, rfl, rfl, hj, rfl⟩ | ⟨kvs, n, rfl, hn, hz, rfl⟩
  · cases hd with
    | @lstO a vs _ S' hH r =>
      cases hu
      have nds := List.nodup_cons.mp m2.1
      obtain ⟨_, _, P1, P2, P3, _, _, _, eP, gs⟩ := r.split (ixN_lt hj)
      have hn2 := gs v d T hv2
      have n1 := nds.2
      rw [eP] at n1
      have k1 := List.nodup_append.mp n1
      have k2 := List.nodup_append.mp k1.2.1
      have inS : ∀ x, x ∈ P1 ∨ x ∈ P3 → x ∈ a :: S' := fun x hx => List.mem_cons_of_mem _ (by rw [eP]; exact hx.elim (fun z => List.mem_append_left _ z) fun z => List.mem_append_right _ (List.mem_append_right _ z))
      have sub3 : ∀ x ∈ P1 ++ (T ++ P3), x ∈ S' ∨ x ∈ T := fun x hx => by
        rcases List.mem_append.mp hx with z | z
        · exact .inl (by rw [eP]; exact List.mem_append_left _ z)
        · rcases List.mem_append.mp z with z | z
          · exact .inr z
          · exact .inl (by rw [eP]; exact List.mem_append_right _ (List.mem_append_right _ z))
      have nd3 : (P1 ++ (T ++ P3)).Nodup := List.nodup_append.mpr ⟨k1.1, List.nodup_append.mpr ⟨X.nd, k2.2.1, fun x hx y hy z => dT y (inS y (.inr hy)) (z ▸ hx)⟩, fun x hx y hy z => by
        subst z
        rcases List.mem_append.mp hy with z | z
        · exact dT x (inS x (.inl hx)) z
        · exact k1.2.2 x hx x (List.mem_append_right _ z) rfl⟩
      have a3 : a ∉ P1 ++ (T ++ P3) := fun z => (sub3 a z).elim nds.1 (dT a List.mem_cons_self)
      obtain ⟨F', A'⟩ := X.cell (b := a) (o := .lst (vs.set j v)) (dc' := .lst true (xs.set j d)) (Sc' := a :: (P1 ++ (T ++ P3))) e es eS g List.mem_cons_self (List.nodup_cons.mpr ⟨a3, nd3⟩)
        (fun x hx => (List.mem_cons.mp hx).elim (fun z => .inl (by rw [z]; exact List.mem_cons_self)) fun z => (sub3 x z).imp (fun z => List.mem_cons_of_mem _ z) id)
        (fun Fy' f => .lstO upd_same (hn2.carry (Carry.atR (o1 := .own 0) (X.rep.noTup (inF a List.mem_cons_self)) f a3))) pp
      exact .inl ⟨a, vs, k, j, rfl, rfl, hH, by rw [r.length]; exact hj, q _ _ A'⟩
  · cases hd with
    | @dctO a ob es' _ S' hH kk r nk =>
      have nds := List.nodup_cons.mp m2.1
      refine .inr ⟨a, rfl, ob, es', kvs, S', _, dk, n, hH, kk, r, nk, hu.key (dKey_some hn).1, hn, by omega, fun ob' es2 k' hp => ?_⟩
      obtain ⟨S3, r3, n3, s3⟩ := r.put nk (hu.key (dKey_some hn).1) hn hv2 hp nds.2 X.nd fun b hb => dT b (List.mem_cons_of_mem _ hb)
      have a3 : a ∉ S3 := fun z => (s3 a z).elim nds.1 (dT a List.mem_cons_self)
      obtain ⟨F', A'⟩ := X.cell (b := a) (o := rawO a ob') (dc' := .dct true (dSet dk d kvs)) (Sc' := a :: S3) e es eS g List.mem_cons_self (List.nodup_cons.mpr ⟨a3, n3⟩)
        (fun x hx => (List.mem_cons.mp hx).elim (fun z => .inl (by rw [z]; exact List.mem_cons_self)) fun z => (s3 x z).imp (fun z => List.mem_cons_of_mem _ z) id)
        (fun Fy' f => .dctO upd_same k' (r3.carry (Carry.atR (o1 := .own 0) (X.rep.noTup (inF a List.mem_cons_self)) f a3)) (dSet_keys nk)) pp
      exact q _ _ A'
theorem app1_some {v c c' : D} (h : app1 v c = some c') : ∃ xs, c = .lst true xs ∧ xs.length + 1 ≤ sizeLine ∧ c' = .lst true (xs ++ [v]) := by
  unfold app1 at h
  split at h
  · rename_i xs
    obtain ⟨h1, h2⟩ := chk_some h
    exact ⟨xs, rfl, fits_le h1, (Option.some.inj h2).symm⟩
  · cases h
theorem Aft.appCell {i : Nat} {d0 d1 d c c' : D} {v v0 vc : V} {ks : List D} {Q : VK} (X : Aft K w M H F ρ p σ H1 ρ1 F1 T) (hv : Dn K w H1 (Al0 M T F1) v d T) (e : get0 ρ1 i = some d0) (es : σ[i]? = some (some v0))
    (cell : Cell K w H1 (Fz (fun b => M b ∨ b ∈ T) F1) (F1 i) v0 d0 ks vc) (ec : getP ks d0 = some c) (h : app1 d c = some c') (pp : putP ks c' d0 = some d1) (q : ∀ H' F', Aft K w M H F ρ false σ H' (ρ1.set i (some d1)) F' [] → Q .non H') : rAppend vc [v] H1 Q := by
  obtain ⟨dc, Sc, S1, S2, e1, eS, hd, g⟩ := cell
  rw [ec] at e1; cases e1
  have hv2 := X.fzT hv
  have nd := X.rep.nd i
  rw [eS] at nd
  have m1 := List.nodup_append.mp nd
  have m2 := List.nodup_append.mp m1.2.1
  have inF : ∀ x, x ∈ Sc → x ∈ F1 i := fun x hx => by rw [eS]; exact List.mem_append_right _ (List.mem_append_left _ hx)
  have dT : ∀ x, x ∈ Sc → x ∉ T := fun x hx z => X.rep.hM i x (inF x hx) (.inr z)
  obtain ⟨xs, rfl, hz, rfl⟩ := app1_some h
  cases hd with
  | @lstO a vs _ S' hH r =>
    have nds := List.nodup_cons.mp m2.1
    have nd3 : (S' ++ T).Nodup := List.nodup_append.mpr ⟨nds.2, X.nd, fun x hx y hy z => dT x (List.mem_cons_of_mem _ hx) (z ▸ hy)⟩
    have a3 : a ∉ S' ++ T := fun z => (List.mem_append.mp z).elim nds.1 (dT a List.mem_cons_self)
    obtain ⟨F', A'⟩ := X.cell (b := a) (o := .lst (vs ++ [v])) (dc' := .lst true (xs ++ [d])) (Sc' := a :: (S' ++ T)) e es eS g List.mem_cons_self (List.nodup_cons.mpr ⟨a3, nd3⟩)
      (fun x hx => (List.mem_cons.mp hx).elim (fun z => .inl (by rw [z]; exact List.mem_cons_self)) fun z => (List.mem_append.mp z).imp (fun z => List.mem_cons_of_mem _ z) id)
      (fun Fy' f => .lstO upd_same ((DnL.snoc hv2 r).carry (Carry.atR (o1 := .own 0) (X.rep.noTup (inF a List.mem_cons_self)) f a3))) pp
    exact ⟨a, vs, v, rfl, rfl, hH, by rw [r.length]; omega, q _ _ A'⟩
theorem deepD_some {i : Nat} {ks : List D} {f : D → Option D} {ρ' : Rho} (h : deepD i ks f ρ = some ρ') : ∃ d0 c c' d1, get0 ρ i = some d0 ∧ getP ks d0 = some c ∧ f c = some c' ∧ putP ks c' d0 = some d1 ∧ ρ' = ρ.set i (some d1) := by
  unfold deepD at h
  obtain ⟨d0, e0, h⟩ := Option.bind_eq_some_iff.mp h
  obtain ⟨c, e1, h⟩ := Option.bind_eq_some_iff.mp h
  obtain ⟨c', e2, h⟩ := Option.bind_eq_some_iff.mp h
  obtain ⟨d1, e3, h⟩ := Option.map_eq_some_iff.mp h
  exact ⟨d0, c, c', d1, e0, e1, e2, e3, h.symm⟩
theorem Rep.slotV {i : Nat} {d0 : D} (R : Rep K w H M ρ σ F) (e : get0 ρ i = some d0) : ∃ v0, σ[i]? = some (some v0) := let ⟨v, ev, _⟩ := R.den i d0 e; ⟨v, ev⟩
/-- x[..][k] = v -/
theorem sfs_putAt {i : Nat} {ep : Rho → Option (List D)} {tp : TE} (he : SF K w e pe Ve te) (hP : SFP K w i ep tp) (hk : SF K w ek true Vk tk) :
    SFS K w (fun ρ => (e ρ).bind fun p => (ep (kept Ve p.1.clean p.2)).bind fun ks => (ek (kept Ve p.1.clean p.2)).bind fun q => (deepD i ks (dPut q.1.frz p.1) (kept Ve p.1.clean p.2)).map .nx) [] (tAsg te (gSub tp tk (rPutR K w))) := by
  intro ρ σ H F M o D R h q
  obtain ⟨⟨d, ρ1⟩, e1, h⟩ := Option.bind_eq_some_iff.mp h
  obtain ⟨ks, e2, h⟩ := Option.bind_eq_some_iff.mp h
  obtain ⟨⟨k, ρ2⟩, e3, h⟩ := Option.bind_eq_some_iff.mp h
  obtain ⟨ρ3, e4, h⟩ := Option.map_eq_some_iff.mp h
  subst h
  simp only at e2 e3 e4
  obtain ⟨d0, c, c', d1, g0, g1, g2, g3, rfl⟩ := deepD_some e4
  refine he ρ σ H F M d ρ1 _ R e1 fun v H1 F1 T X hv => ?_
  obtain ⟨X', hv'⟩ := X.keptE hv
  obtain ⟨v0, ev0⟩ := X'.rep.slotV g0
  refine hP _ σ H1 _ _ ks d0 v0 _ X'.rep e2 g0 ev0 (by rw [g1]; rfl) fun vc H2 s2 R2 cell => hk _ σ H2 _ _ k ρ2 _ R2 e3 fun u H3 F3 T3 Y hu => ?_
  obtain ⟨e8, e9, sm, nT⟩ := Y.pur rfl
  have hu' := Y.letgo (fun _ z => z) hu
  have ss : Same H1 H3 := fun b o z => sm _ _ (s2 _ _ z)
  have X2 : Aft K w M H F ρ false σ H3 (kept Ve d.clean ρ1) (keptF Ve d.clean F1) T := ⟨X'.rep.same ss, fun b o' eb hf => ss _ _ (X'.keep b o' eb hf), X'.fresh, X'.nd, X'.tM, fun z => by cases z⟩
  exact X2.putCell (hv'.keep1 ss) hu' g0 ev0 (cell.keep sm) g1 g2 g3 fun H' F' A => q σ H' F' A Keeps.refl
/-- x[..].append(v) -/
theorem sfs_appAt {i : Nat} {ep : Rho → Option (List D)} {tp : TE} (hP : SFP K w i ep tp) (he : SF K w e true Ve te) :
    SFS K w (fun ρ => (ep ρ).bind fun ks => (e ρ).bind fun p => chk (p.1.clean || !decide (i ∈ Ve)) ((deepD i ks (app1 p.1) (kept Ve p.1.clean ρ)).map .nx)) [] (tDrop (tBM K "list" rAppend tp (tCons te tNil))) := by
  intro ρ σ H F M o D R h q
  obtain ⟨ks, e1, h⟩ := Option.bind_eq_some_iff.mp h
  obtain ⟨⟨d, ρ1⟩, e2, h⟩ := Option.bind_eq_some_iff.mp h
  obtain ⟨hc, h⟩ := chk_some h
  obtain ⟨ρ3, e4, h⟩ := Option.map_eq_some_iff.mp h
  subst h
  simp only at hc e4
  obtain ⟨d0, c, c', d1, g0, g1, g2, g3, rfl⟩ := deepD_some e4
  have kp : get0 (kept Ve d.clean ρ) i = get0 ρ i ∧ keptF Ve d.clean F i = F i := by
    unfold kept keptF
    by_cases hcl : d.clean = true
    · rw [if_pos hcl, if_pos hcl]; exact ⟨rfl, rfl⟩
    · rw [if_neg hcl, if_neg hcl]
      have hi : i ∉ Ve := by
        have : d.clean = false := by simpa using hcl
        rw [this, Bool.false_or] at hc
        simpa using hc
      refine ⟨?_, if_neg hi⟩
      unfold get0 frzAt
      rw [List.getElem?_mapIdx]
      cases hh : ρ[i]? with
      | none => rfl
      | some o => simp only [Option.map_some, if_neg hi]
  have g0' : get0 ρ i = some d0 := by rw [← kp.1]; exact g0
  obtain ⟨v0, ev0⟩ := R.slotV g0'
  obtain ⟨xs, rfl, hz, ecc⟩ := app1_some g2
  refine hP ρ σ H F M ks d0 v0 _ R e1 g0' ev0 (by rw [g1]; rfl) fun vc H1 s1 R1 cell => ?_
  have ty : tyV K "list" vc H1 := by
    obtain ⟨dc, Sc, S1, S2, z1, z2, hd, _⟩ := cell
    rw [g1] at z1; cases z1
    cases hd with
    | @lstO a vs _ S' hH r => exact .inl ⟨rfl, vs, .inl (.inl hH)⟩
  refine ⟨ty, he ρ σ H1 F M d ρ1 _ R1 e2 fun v H2 F2 T Y hv => ?_⟩
  obtain ⟨z1, z2, sm, nT⟩ := Y.pur rfl
  subst z1 z2
  obtain ⟨Y', hv'⟩ := Y.keptE hv
  have ss : Same H H2 := fun b o z => sm _ _ (s1 _ _ z)
  have X' : Aft K w M H F2 ρ1 false σ H2 (kept Ve d.clean ρ1) (keptF Ve d.clean F2) T := by
    refine ⟨Y'.rep, fun b o z hf => ss _ _ z, fun a ha => ?_, Y'.nd, Y'.tM, fun z => by cases z⟩
    rcases ha with ha | ⟨j, hj⟩
    · exact .inr (s1.free (nT a ha))
    · exact .inl ⟨j, keptF_sub hj⟩
  have cell2 : Cell K w H2 (Fz (fun b => M b ∨ b ∈ T) (keptF Ve d.clean F2)) (keptF Ve d.clean F2 i) v0 d0 ks vc := by
    rw [kp.2]
    exact cell.keepF sm fun b o z f => ⟨fun m => m.elim f.1 fun t => (by rw [nT b t] at z; cases z), fun j hj => f.2 j (keptF_sub hj)⟩
  exact X'.appCell (Q := fun _ H' => D.nx σ H') hv' g0 ev0 cell2 g1 g2 g3 fun H' F' A => q σ H' F' A Keeps.refl
end
end Eng
namespace Eng
open PySem PySem.Spec PyProof.Rows L2 RT
/-! ### for one in xs: one.append(c) -/
section
variable {K : PySem.W.Frag} {w : World} {M : Addr → Prop} {H H1 H2 : Hp} {F F1 F2 : Foot} {ρ ρ1 ρ2 : Rho} {σ σ1 σ2 : L2.St} {T T1 T2 : List Addr} {p p1 p2 : Bool} {Vx : List Nat} {Fy : Addr → Prop}
theorem get0_set {ρ : Rho} {i j : Nat} {o : Option D} (h : i < ρ.length) : get0 (ρ.set i o) j = if j = i then o else get0 ρ j := by
  unfold get0
  rw [List.getElem?_set]
  by_cases e : i = j
  · subst e
    rw [if_pos rfl, if_pos rfl, if_pos h]; rfl
  · rw [if_neg e, if_neg (Ne.symm e)]
def clr (j : Nat) (F : Foot) : Foot := fun k => if k = j then [] else F k
theorem clr_sub {j : Nat} {F : Foot} {k : Nat} {a : Addr} (h : a ∈ clr j F k) : a ∈ F k := by
  unfold clr at h
  split at h
  · exact nno h
  · exact h
theorem Rep.forget (R : Rep K w H M ρ σ F) (j : Nat) : Rep K w H M (ρ.set j none) σ (clr j F) := by
  refine ⟨by rw [List.length_set]; exact R.len, fun i d e => ?_, fun i e => ?_, fun i => ?_, fun i k a h1 h2 => R.dis i k a (clr_sub h1) (clr_sub h2), fun i a h => R.hM i a (clr_sub h), R.dom⟩
  · rw [get0_set_none] at e
    split at e
    · cases e
    · rename_i ne
      obtain ⟨v, ev, hd⟩ := R.den i d e
      refine ⟨v, ev, ?_⟩
      have : clr j F i = F i := if_neg ne
      rw [this]
      exact hd.keyFz fun b f => ⟨f.1, fun k z => f.2 k (clr_sub z)⟩
  · unfold clr
    split
    · rfl
    · rename_i ne
      rw [get0_set_none, if_neg ne] at e
      exact R.un i e
  · unfold clr
    split
    · exact List.nodup_nil
    · exact R.nd i
theorem Rep.store (R : Rep K w H M ρ σ F) {j : Nat} (e : get0 ρ j = none) (v : V) : Rep K w H M ρ (σ.set j (some v)) F := by
  refine ⟨by rw [List.length_set]; exact R.len, fun i d h => ?_, R.un, R.nd, R.dis, R.hM, R.dom⟩
  have ne : j ≠ i := fun z => by rw [← z, e] at h; cases h
  obtain ⟨u, ev, hd⟩ := R.den i d h
  exact ⟨u, by rw [List.getElem?_set, if_neg ne]; exact ev, hd⟩
theorem atI_nat {α : Type} {xs : List α} {k : Nat} {x : α} (h : xs[k]? = some x) : atI xs (k : Int) = some x ∧ ixN xs.length (k : Int) = some k := by
  have hl := (List.getElem?_eq_some_iff.mp h).1
  have e : ixN xs.length (k : Int) = some k := by
    unfold ixN
    rw [if_pos (by omega), if_pos (by omega)]
    rfl
  exact ⟨by unfold atI; rw [e]; exact h, e⟩
theorem cell_ix {S : List Addr} {a : Addr} {vs : List V} {zs : List D} {k : Nat} {dk : D} {vk : V} (h : Dn K w H Fy (.ref a) (.lst true zs) S) (hH : H a = some (.lst vs)) (e1 : zs[k]? = some dk) (e2 : vs[k]? = some vk) : Cell K w H Fy S (.ref a) (.lst true zs) [.int (k : Int)] vk := by
  cases h with
  | @lstO _ vs' _ S' hH' r =>
    rw [hH] at hH'; cases hH'
    obtain ⟨v2, d2, P1, P2, P3, a1, a2, h2, eP, gp⟩ := r.parts (List.getElem?_eq_some_iff.mp e1).1
    rw [e1] at a2; cases a2
    rw [e2] at a1; cases a1
    obtain ⟨g1, g2⟩ := atI_nat e1
    refine ⟨dk, P2, a :: P1, P3, ?_, by rw [eP]; simp, h2, fun H' Fy' Sc' dx d' cc hx ex => ?_⟩
    · show (sub1 (.int (k : Int)) (.lst true zs)) = some dk
      exact g1
    · simp only [putP, getP, Option.bind_some, rep1, g2, Option.map_some, Option.some.injEq] at ex
      subst ex
      have := Dn.lstO (cc.own a _ hH (by simp)) (gp H' Fy' dx Sc' (cc.sub fun b hb => by simp at hb ⊢; rcases hb with z | z <;> simp [z]) hx)
      simpa using this
theorem mapO_some {f : D → Option D} : ∀ {xs ys : List D}, mapO f xs = some ys → ys.length = xs.length ∧ ∀ (k : Nat) (x : D), xs[k]? = some x → ∃ y, f x = some y ∧ ys[k]? = some y
  | [], ys, h => by cases h; exact ⟨rfl, fun k x e => by simp at e⟩
  | x :: xs, ys, h => by
    obtain ⟨y, e1, h⟩ := Option.bind_eq_some_iff.mp h
    obtain ⟨r, e2, h⟩ := Option.map_eq_some_iff.mp h
    subst h
    obtain ⟨l, g⟩ := mapO_some e2
    refine ⟨by simp [l], fun k z e => ?_⟩
    cases k with
    | zero => cases e; exact ⟨y, e1, rfl⟩
    | succ k => exact g k z e
theorem sfs_each {i j : Nat} {d : D} {te : TE} (hij : i ≠ j) (hc : d.clean = true) (he : SF K w (fun ρ => some (d, ρ)) true [] te) :
    SFS K w (fun ρ => (eachD i j d ρ).map .nx) [j] (tFor (iOf K (tVar i)) (gName j) (tDrop (tBM K "list" rAppend (tVar j) (tCons te tNil)))) := by
  intro ρ σ H F M o D R h0 q
  obtain ⟨ρ9, h, ho⟩ := Option.map_eq_some_iff.mp (show (eachD i j d ρ).map Out.nx = some o from h0)
  clear h0
  subst ho
  unfold eachD at h
  split at h
  rotate_left
  · cases h
  rename_i xs e
  obtain ⟨hj, h⟩ := chk_some h
  obtain ⟨ys, hm, rfl⟩ := Option.map_eq_some_iff.mp h
  have hj := of_decide_eq_true hj
  obtain ⟨yl, yg⟩ := mapO_some hm
  obtain ⟨a, vs, S', ea, hH, eF, r⟩ := R.own e
  have vl : vs.length = xs.length := r.length
  have il := get0_lt e
  refine ⟨.ref a, ea, .inl ⟨a, vs, rfl, .inl (.inl hH), ?_⟩⟩
  -- what holds ahead of turn k
  let st : Nat → Rho := fun k => (ρ.set i (some (.lst true (ys.take k ++ xs.drop k)))).set j none
  have sti : ∀ k, get0 (st k) i = some (.lst true (ys.take k ++ xs.drop k)) := fun k => by
    show get0 ((ρ.set i _).set j none) i = _
    rw [get0_set_none, if_neg hij, get0_set il, if_pos rfl]
  have stj : ∀ k, get0 (st k) j = none := fun k => by
    show get0 ((ρ.set i _).set j none) j = _
    rw [get0_set_none, if_pos rfl]
  have st0 : st 0 = ρ.set j none := by
    show (ρ.set i (some (.lst true (ys.take 0 ++ xs.drop 0)))).set j none = _
    rw [List.take_zero, List.drop_zero, List.nil_append]
    congr 1
    refine set_id ?_
    unfold get0 at e
    cases hh : ρ[i]? with
    | none => rw [hh] at e; cases e
    | some o => rw [hh] at e; rw [show o = some (Eng.D.lst true xs) from e]
  have A0 : Aft K w M H F ρ false σ H (st 0) (clr j F) [] := by
    rw [st0]
    exact (Aft.refl (p := false) R).slots (R.forget j).w0 (fun a h => h.elim (fun z => nno z) fun ⟨k, hk⟩ => .inr ⟨k, clr_sub hk⟩) List.nodup_nil fun _ => nno
  refine for_it walk_list (fun k σk Hk => ∃ Fk, Aft K w M H F ρ false σk Hk (st k) Fk [] ∧ Keeps [j] σ σk ∧ Hk a = some (.lst vs) ∧ σk[i]? = some (some (.ref a))) ⟨clr j F, A0, Keeps.refl, hH, ea⟩ (fun k σk Hk _ ⟨Fk, Y, ky, hHk, eak⟩ => .inl (.inl hHk)) (fun k x σk Hk H' hk ⟨Fk, Y, ky, hHk, eak⟩ ⟨eH, hx⟩ => ?_) fun σk Hk ⟨Fk, Y, ky, hHk, eak⟩ => ?_
  · subst eH
    have hkx : k < xs.length := by omega
    have e1 : xs[k]? = some xs[k] := List.getElem?_eq_getElem hkx
    obtain ⟨y, ey, eyk⟩ := yg k _ e1
    have ez : (ys.take k ++ xs.drop k)[k]? = some xs[k] := by
      rw [List.getElem?_append_right (by rw [List.length_take]; omega), List.length_take, List.getElem?_drop]
      have : k + (k - min k ys.length) = k := by omega
      rw [this]; exact e1
    have ezs : (ys.take k ++ xs.drop k).set k y = ys.take (k + 1) ++ xs.drop (k + 1) := by
      have hy : k < ys.length := by omega
      rw [List.set_append_right _ _ (by rw [List.length_take]; omega), List.length_take, show k - min k ys.length = 0 from by omega, List.drop_eq_getElem_cons hkx, List.set_cons_zero, List.take_succ, eyk]
      simp
    have R1 : Rep K w H' M (st k) (σk.set j (some x)) Fk := Y.r0'.store (stj k) x
    have jl : j < (σk.set j (some x)).length ∨ ¬ j < (σk.set j (some x)).length := Nat.lt_or_ge _ _ |>.imp id Nat.not_lt.mpr
    have ejx : j < σk.length → (σk.set j (some x))[j]? = some (some x) := fun h => by rw [List.getElem?_set, if_pos rfl, if_pos h]
    have eix : (σk.set j (some x))[i]? = some (some (.ref a)) := by rw [List.getElem?_set, if_neg (Ne.symm hij)]; exact eak
    have hjl : j < σk.length := by
      have := Y.rep.len
      rw [← this]
      show j < ((ρ.set i _).set j none).length
      rw [List.length_set, List.length_set]
      exact hj
    show tDrop _ _ (σk.set j (some x)) H'
    obtain ⟨us, exk, hz, eyx⟩ := app1_some ey
    obtain ⟨u0, eu0, hd0⟩ := R1.den i _ (sti k)
    rw [eix] at eu0
    cases eu0
    have cell := cell_ix hd0 hHk ez hx
    have ty : tyV K "list" x H' := by
      obtain ⟨dc, Sc, S1, S2, z1, z2, hd, _⟩ := cell
      have z1' : atI (ys.take k ++ xs.drop k) (k : Int) = some dc := z1
      rw [(atI_nat ez).1] at z1'
      cases z1'
      rw [exk] at hd
      cases hd with
      | @lstO a vs _ S' hH r => exact .inl ⟨rfl, vs, .inl (.inl hH)⟩
    refine ⟨x, ejx hjl, ty, he (st k) _ H' Fk M d (st k) _ R1 rfl fun v H2 F2 T Z hv => ?_⟩
    obtain ⟨z1, z2, sm, nT⟩ := Z.pur rfl
    subst z2
    obtain ⟨Z', hv'⟩ := Z.keptE hv
    unfold kept keptF at Z'
    unfold keptF at hv'
    rw [if_pos hc, if_pos hc] at Z'
    rw [if_pos hc] at hv'
    have cell2 : Cell K w H2 (Fz (fun b => M b ∨ b ∈ T) F2) (F2 i) (.ref a) (.lst true (ys.take k ++ xs.drop k)) [.int (k : Int)] x :=
      cell.keepF sm fun b o z f => ⟨fun m => m.elim f.1 fun t => (by rw [nT b t] at z; cases z), f.2⟩
    have ec : getP [.int (k : Int)] (.lst true (ys.take k ++ xs.drop k)) = some xs[k] := (atI_nat ez).1
    have pp : putP [.int (k : Int)] y (.lst true (ys.take k ++ xs.drop k)) = some (.lst true (ys.take (k + 1) ++ xs.drop (k + 1))) := by
      simp only [putP, getP, Option.bind_some, rep1, (atI_nat ez).2, Option.map_some, ezs]
    have ap := Z'.appCell (Q := fun _ H3 => ∃ F', Aft K w M H' F2 (st k) false (σk.set j (some x)) H3 ((st k).set i (some (.lst true (ys.take (k + 1) ++ xs.drop (k + 1))))) F' []) hv' (sti k) eix cell2 ec ey pp fun H3 F' A => ⟨F', A⟩
    obtain ⟨b, us', v', ex, ev, hb, hz', F', A⟩ := ap
    have nba : b ≠ a := by
      generalize hS : F2 i = S at hd0
      have nd := R1.nd i
      rw [hS] at nd
      cases hd0 with
      | @lstO _ vs' _ S' hH' r2 =>
        rw [hHk] at hH'; cases hH'
        obtain ⟨v2, d2, P1, P2, P3, a1, a2, h2, eP, _⟩ := r2.parts (List.getElem?_eq_some_iff.mp ez).1
        rw [ez] at a2; cases a2
        rw [hx] at a1; cases a1
        rw [exk, ex] at h2
        cases h2 with
        | @lstO _ vs2 _ S2 hH2 r3 =>
          have nda := (List.nodup_cons.mp nd).1
          intro z
          rw [eP, ← z] at nda
          exact nda (by simp)
    refine ⟨b, us', v', ex, ev, hb, hz', F', ?_, ?_, ?_, eix⟩
    · have e3 : (st k).set i (some (.lst true (ys.take (k + 1) ++ xs.drop (k + 1)))) = st (k + 1) := by
        show ((ρ.set i _).set j none).set i _ = (ρ.set i _).set j none
        rw [List.set_comm _ _ (Ne.symm hij), List.set_set]
      rw [e3] at A
      exact Y.thenS A
    · exact ky.trans' fun k hk => by rw [List.getElem?_set, if_neg (fun z => hk (by rw [z]; exact List.mem_cons_self))]
    · rw [upd_ne (Ne.symm nba)]
      exact sm _ _ hHk
  · refine q σk Hk Fk ?_ ky
    have : st vs.length = (ρ.set i (some (.lst true ys))).set j none := by
      show (ρ.set i (some (.lst true (ys.take vs.length ++ xs.drop vs.length)))).set j none = _
      rw [vl, List.drop_length, List.append_nil, ← yl, List.take_length]
    rw [← this]
    exact Y
end
end Eng
namespace Eng
open PySem PySem.Spec PyProof.Rows L2 RT
structure GdS (c : Cfg) (s : Sco) (X : Cx) : Prop where
  gd : Gd c s X
  own : PassesOwn (model X.prog X.w) X.A X.env X.xe
mutual
/-- the slots that a statement stores to -/
def St.asg : St → List Nat
  | .set i _ => [i]
  | .unp is _ => is
  | .ife _ a b => a.asg ++ b.asg
  | .whl _ b => b.asg
  | .loop t _ b => t.slots ++ b.asg
  | .drop _ => [] | .put _ _ _ => [] | .augPut _ _ _ _ => [] | .app _ _ => [] | .ext _ _ => [] | .ret _ => [] | .retN => [] | .brk => [] | .cnt => [] | .pass => [] | .putAt _ _ _ _ => [] | .appAt _ _ _ => []
  | .each _ j _ => [j] | .stuck => []
def Sts.asg : Sts → List Nat
  | .nil => []
  | .cons s r => s.asg ++ r.asg
end
def GS (c : Cfg) (s : Sco) (st : Eng.St) (x : Stmt) : Prop := ∃ t, (∀ X, GdS c s X → PS X x t) ∧ SFS c.K c.w (evS c.S whl st) st.asg t
def GSs (c : Cfg) (s : Sco) (st : Sts) (x : List Stmt) : Prop := ∃ t, (∀ X, GdS c s X → PSs X x t) ∧ SFS c.K c.w (evSs c.S whl st) st.asg t
theorem SFS.cg {K : PySem.W.Frag} {w : World} {ev ev' : Rho → Option Out} {A B : List Nat} {t : TS} (s : SFS K w ev' A t) (h : ∀ ρ, ev ρ = ev' ρ) (e : A = B) : SFS K w ev B t := by
  have : ev = ev' := funext h
  rw [this]; subst e; exact s
def noComp (x : Expr) : Bool := match x with
  | .ListComp _ _ _ _ => false | .SetComp _ _ _ _ => false | .DictComp _ _ _ _ _ => false
  | _ => true
theorem noComp_ok {x : Expr} (h : noComp x = true) (t : Option Expr) (l : Nat) (env : Env) : swapsWith x t l env = pure false := by
  cases x <;> first | (cases h; done) | rfl
def noTup (x : Expr) : Bool := match x with
  | .Tuple _ _ _ => false
  | _ => true
section
variable {c : Cfg} {s : Sco} {a b d : Ex} {x y z tg : Expr} {i : Nat} {pos p : Pos} {nm : Str}
theorem gs_set (h1 : slot s i nm = true) (h2 : locB s nm = true) (ha : GE c s a x) (hs : ∀ X, GdS c s X → swapsWith x (some (.Name nm p)) pos.line X.env = pure false) : GS c s (.set i a) (.Assign [.Name nm p] x pos) := by
  obtain ⟨t, a1, a2⟩ := ha
  exact ⟨_, fun X g => ps_set g.gd.nd (g.gd.slot h1) (g.gd.loc h2).1 (a1 X g.gd) (hs X g) (g.gd.loc h2).2, (sfs_set a2).cg (fun ρ => by rw [evS]) (by rw [St.asg])⟩
/-- what a comprehension's store asks -/
def swB (s : Sco) (nm : Str) (l1 l2 : Nat) (scope : Scope) : Bool := decide (s.sc.names.lookup nm = some .local) && (l1 == l2) && !(scope.names.any fun (n, k) => n == nm && (k == .local || k == .cell))
theorem sw_no {X : Cx} (g : GdS c s X) {elt : Expr} {gs : List Comprehension} {scope : Scope} {vpos : Pos} {l : Nat} (h : swB s nm p.line vpos.line scope = false) : swapsWith (.ListComp elt gs scope vpos) (some (.Name nm p)) l X.env = pure false := by
  show (pure (X.env.blockKind == .function && X.env.kindOf nm == some .local && p.line == vpos.line && !(scope.names.any fun (n, k) => n == nm && (k == .local || k == .cell))) : Sem Bool) = pure false
  congr 1
  have hk : X.env.kindOf nm = s.sc.names.lookup nm := by
    show X.env.scope.names.lookup nm = _
    rw [g.gd.hsc]
  rw [hk]
  unfold swB at h
  cases h1 : decide (s.sc.names.lookup nm = some .local) with
  | false =>
    have : (s.sc.names.lookup nm == some .local) = false := by
      cases hh : (s.sc.names.lookup nm == some .local) with
      | false => rfl
      | true => rw [eq_of_beq hh] at h1; simp at h1
    rw [this]; simp
  | true =>
    rw [h1] at h
    rw [Bool.true_and] at h
    rw [Bool.and_assoc, h, Bool.and_false]
theorem gs_setLc {e : Ex} {t : Tgt} {it : Eng.Itr} {o : Ox} {elt iter : Expr} {ifs : List Expr} {scope : Scope} {vpos : Pos} (h1 : slot s i nm = true) (h2 : locB s nm = true) (hI : GI c s it tg iter) (hg : GG c (inS s scope) t tg) (hc : GC c (inS s scope) o ifs)
    (he : GE c (inS s scope) e elt) (hb : blkC s.N s.sc scope (ownOf s t.slots) = true) : GS c s (.set i (.comp e t it o)) (.Assign [.Name nm p] (.ListComp elt [⟨tg, iter, ifs, 0⟩] scope vpos) pos) := by
  cases hsw : swB s nm p.line vpos.line scope with
  | false => exact gs_set h1 h2 (ge_comp hI hg hc he hb) fun X g => sw_no g hsw
  | true =>
    unfold swB at hsw
    simp only [Bool.and_eq_true, decide_eq_true_eq, Bool.not_eq_true'] at hsw
    obtain ⟨⟨k1, k2⟩, k3⟩ := hsw
    obtain ⟨wi, i1, i2, i3⟩ := hI
    obtain ⟨g, g1, g2⟩ := hg
    obtain ⟨tt, t1, t2⟩ := hc
    obtain ⟨te, e1, e2⟩ := he
    refine ⟨tAsg (tLc wi g tt te t.slots) (gName i), fun X gd0 => ?_, (sfs_set (e := evE c.S (.comp e t it o)) (pe := (Ex.comp e t it o).pure) (((sf_comp (Vc := o.vars) i2 t2 e2 g2).pv ?_ ?_).cg fun ρ => by rw [evE])).cg (fun ρ => by rw [evS]) (by rw [St.asg])⟩
    · have gd := gd0.gd
      have ok : BlkOk X.N X.env.scope scope (ownOf s t.slots) := by
        rw [gd.hN, gd.hsc]
        exact blkOk_by hb
      have hy : X.env.scope.names.lookup nm = some .local := by rw [gd.hsc]; exact k1
      have key : PE X (.ListComp elt [⟨tg, iter, ifs, 0⟩] scope vpos) (tLc wi g tt te ((ownOf s t.slots).map (·.2))) → PS X (.Assign [.Name nm p] (.ListComp elt [⟨tg, iter, ifs, 0⟩] scope vpos) pos) (tAsg (tLc wi g tt te ((ownOf s t.slots).map (·.2))) (gName i)) := fun _ => by
        refine ⟨fun pins s' σ H D I h => ?_⟩
        exact (ps_setLc gd.calm gd.nd (gd.slot h1) hy (sw_true I.ok.kind hy k2 k3) (i1 X gd) ok (fun s' H C cl fp => g1 _ (gd.blk s' H scope C cl fp)) (fun s' H C cl fp => t1 _ (gd.blk s' H scope C cl fp)) (fun s' H C cl fp => e1 _ (gd.blk s' H scope C cl fp)) (i3 X.env)).run pins s' σ H D I h
      have := key (pe_lc (pos := vpos) gd.calm gd.nd (i1 X gd) ok (fun s' H C cl fp => g1 _ (gd.blk s' H scope C cl fp)) (fun s' H C cl fp => t1 _ (gd.blk s' H scope C cl fp)) (fun s' H C cl fp => e1 _ (gd.blk s' H scope C cl fp)) (i3 X.env))
      rw [ownOf_snd] at this
      exact this
    · rw [Ex.pure]
    · rw [Ex.vars]
theorem sole_tup {xs : List Expr} {k : Nat} (v : Expr) (l : Nat) (env : Env) : swapsWithSole [.Tuple xs k p] v l env = pure false := by
  cases v <;> rfl
theorem stores_no {xs : List Expr} {k : Nat} {v : Expr} (h : noTup v = true) (env : Env) : swappedStores [.Tuple xs k p] v env = pure none := by
  cases v <;> first | (cases h; done) | rfl
theorem gs_unp {is : List Nat} {xs : List Expr} {k : Nat} (h : okNs s is xs = true) (ha : GE c s a x) (hx : noTup x = true) : GS c s (.unp is a) (.Assign [.Tuple xs k p] x pos) := by
  obtain ⟨t, a1, a2⟩ := ha
  refine ⟨tAsg t (gTup c.K is.length (gNames is)), fun X g => ?_, (sfs_unp a2).cg (fun ρ => by rw [evS]) (by rw [St.asg])⟩
  obtain ⟨k1, k2, k3⟩ := okNs_ok g.gd h
  rw [← g.gd.hK]
  exact ps_asg (a1 X g.gd) (pg_tup g.gd.calm k1 k2 (List.findIdx?_eq_none_iff.mpr k3)) (sole_tup _ _ _) (stores_no hx _)
theorem gs_drop (ha : GE c s a x) (hx : noComp x = true) : GS c s (.drop a) (.Expr x pos) := by
  obtain ⟨t, a1, a2⟩ := ha
  exact ⟨_, fun X g => ps_expr (a1 X g.gd) (noComp_ok hx _ _ _), (sfs_drop a2).cg (fun ρ => by rw [evS]) (by rw [St.asg])⟩
theorem gs_ret (ha : GE c s a x) : GS c s (.ret a) (.Return (some x) pos) := by
  obtain ⟨t, a1, a2⟩ := ha
  exact ⟨_, fun X g => ps_ret (a1 X g.gd), (sfs_ret a2).cg (fun ρ => by rw [evS]) (by rw [St.asg])⟩
theorem gs_retN : GS c s .retN (.Return none pos) := ⟨_, fun X g => ps_retN, sfs_retN.cg (fun ρ => by rw [evS]) (by rw [St.asg])⟩
theorem gs_brk : GS c s .brk (.Break pos) := ⟨_, fun X g => ps_break, sfs_brk.cg (fun ρ => by rw [evS]) (by rw [St.asg])⟩
theorem gs_cnt : GS c s .cnt (.Continue pos) := ⟨_, fun X g => ps_continue, sfs_cnt.cg (fun ρ => by rw [evS]) (by rw [St.asg])⟩
theorem gs_pass : GS c s .pass (.Pass pos) := ⟨_, fun X g => ps_pass, sfsS_nil.cg (fun ρ => by rw [evS]) (by rw [St.asg])⟩
theorem gs_doc {x : Str} {j : Nat} {pos' : Pos} : GS c s .pass (.Expr (.Constant (.str x) j pos') pos) := ⟨_, fun X g => ps_doc, sfsS_nil.cg (fun ρ => by rw [evS]) (by rw [St.asg])⟩
theorem gs_app {p1 p2 cpos : Pos} (h1 : slot s i nm = true) (h2 : visB s nm = true) (ha : GE c s a x) (hx : noStar x = true) (hl : (p2.endLine == cpos.line) = true) : GS c s (.app i a) (.Expr (.Call (.Attribute (.Name nm p1) "append" p2) [x] [] cpos) pos) := by
  obtain ⟨t, a1, a2⟩ := ha
  refine ⟨_, fun X g => ps_expr ?_ rfl, (sfs_app (i := i) a2).cg (fun ρ => by rw [evS]) (by rw [St.asg])⟩
  have hv : PE X (.Name nm p1) (tVar i) := pe_var (g.gd.slot h1) (g.gd.vis h2) (dbg_ok (visB_ok h2).2).1 (dbg_ok (visB_ok h2).2).2.1
  have hs : [x].all noStar = true := by simp [hx]
  rw [← g.gd.hK]
  exact pe_bm F.plainAttrs_list F.slot_list_append F.type_list_append mt_append hv (pa_cons (a1 X g.gd) pa_nil (star_one hx _ _)) rfl (few_ok hs (by decide) X.env cpos) hl (star_one hx _ _) (star_any (xs := []) rfl _ _)
theorem gs_ext {p1 p2 cpos : Pos} (h1 : slot s i nm = true) (h2 : visB s nm = true) (ha : GE c s a x) (hx : noStar x = true) (hl : (p2.endLine == cpos.line) = true) : GS c s (.ext i a) (.Expr (.Call (.Attribute (.Name nm p1) "extend" p2) [x] [] cpos) pos) := by
  obtain ⟨t, a1, a2⟩ := ha
  refine ⟨_, fun X g => ps_expr ?_ rfl, (sfs_ext (i := i) a2).cg (fun ρ => by rw [evS]) (by rw [St.asg])⟩
  have hv : PE X (.Name nm p1) (tVar i) := pe_var (g.gd.slot h1) (g.gd.vis h2) (dbg_ok (visB_ok h2).2).1 (dbg_ok (visB_ok h2).2).2.1
  have hs : [x].all noStar = true := by simp [hx]
  rw [← g.gd.hK]
  exact pe_bm F.plainAttrs_list F.slot_list_extend F.type_list_extend mt_extR hv (pa_cons (a1 X g.gd) pa_nil (star_one hx _ _)) rfl (few_ok hs (by decide) X.env cpos) hl (star_one hx _ _) (star_any (xs := []) rfl _ _)
theorem sub_sole {k : Expr} {o : Expr} (v : Expr) (l : Nat) (env : Env) : swapsWithSole [.Subscript o k p] v l env = pure false := by
  cases v <;> rfl
theorem sub_stores {k : Expr} {o : Expr} (v : Expr) (env : Env) : swappedStores [.Subscript o k p] v env = pure none := by
  cases v <;> rfl
theorem gs_put {p1 p2 : Pos} (h1 : slot s i nm = true) (h2 : visB s nm = true) (hk : GE c s b y) (ha : GE c s a x) (hy : plainIxB y = true) : GS c s (.put i b a) (.Assign [.Subscript (.Name nm p1) y p2] x pos) := by
  obtain ⟨t, a1, a2⟩ := ha
  obtain ⟨tk, b1, b2⟩ := hk
  have hputR : ∀ X, GdS c s X → PSet X (rPutR c.K c.w) := fun X g => by rw [← g.gd.hK, ← g.gd.hw]; exact set_putR g.gd.hu9
  refine ⟨_, fun X g => ps_asg (a1 X g.gd) (pg_sub (pe_var (g.gd.slot h1) (g.gd.vis h2) (dbg_ok (visB_ok h2).2).1 (dbg_ok (visB_ok h2).2).2.1) (b1 X g.gd) (hputR X g) ?_) (sub_sole _ _ _) (sub_stores _ _), (sfs_put (i := i) a2 b2).cg (fun ρ => by rw [evS]) (by rw [St.asg])⟩
  intro v
  cases y <;> first | (cases hy; done) | rfl
/-- a way within, outwards -/
def GP (c : Cfg) (s : Sco) (i : Nat) (p : Exs) (x : Expr) : Prop := ∃ t, (∀ X, Gd c s X → PE X x t) ∧ SFP c.K c.w i (evP c.S p) t
theorem SFP.cg {K : PySem.W.Frag} {w : World} {i : Nat} {ek ek' : Rho → Option (List D)} {t : TE} (s : SFP K w i ek' t) (h : ∀ ρ, ek ρ = ek' ρ) : SFP K w i ek t := by
  have : ek = ek' := funext h
  rw [this]; exact s
theorem gp_var {p1 : Pos} (h1 : slot s i nm = true) (h2 : visB s nm = true) : GP c s i .nil (.Name nm p1) :=
  ⟨_, fun X g => pe_var (g.slot h1) (g.vis h2) (dbg_ok (visB_ok h2).2).1 (dbg_ok (visB_ok h2).2).2.1, sfp_var.cg fun ρ => by rw [evP]⟩
theorem gp_sub {p : Exs} {p2 : Pos} (h : GP c s i p x) (hk : GE c s b y) (hy : plainIxB y = true) (hp : b.pure = true) : GP c s i (.cons b p) (.Subscript x y p2) := by
  obtain ⟨t, a1, a2⟩ := h
  obtain ⟨tk, b1, b2⟩ := hk
  rw [hp] at b2
  refine ⟨_, fun X g => pe_ix (r := rSubI c.K c.w) ?_ (a1 X g) (b1 X g) (plainIx_ok hy), (sfp_sub a2 b2).cg fun ρ => by rw [evP]⟩
  rw [← g.hK, ← g.hw]; exact ix_subI g.hu9
theorem gs_putAt {p : Exs} {p2 : Pos} {o : Expr} (h : GP c s i p o) (hk : GE c s b y) (ha : GE c s a x) (hy : plainIxB y = true) (hp : b.pure = true) : GS c s (.putAt i p b a) (.Assign [.Subscript o y p2] x pos) := by
  obtain ⟨t, a1, a2⟩ := ha
  obtain ⟨tk, b1, b2⟩ := hk
  obtain ⟨tp, p1, p2⟩ := h
  rw [hp] at b2
  have hputR : ∀ X, GdS c s X → PSet X (rPutR c.K c.w) := fun X g => by rw [← g.gd.hK, ← g.gd.hw]; exact set_putR g.gd.hu9
  refine ⟨_, fun X g => ps_asg (a1 X g.gd) (pg_sub (p1 X g.gd) (b1 X g.gd) (hputR X g) ?_) (sub_sole _ _ _) (sub_stores _ _), (sfs_putAt (i := i) a2 p2 b2).cg (fun ρ => by rw [evS]) (by rw [St.asg])⟩
  intro v
  cases y <;> first | (cases hy; done) | rfl
theorem gs_appAt {p : Exs} {p2 cpos : Pos} {o : Expr} (h : GP c s i p o) (ha : GE c s a x) (hp : a.pure = true) (hx : noStar x = true) (hb : baseB o = true) (hl : (p2.endLine == cpos.line) = true) : GS c s (.appAt i p a) (.Expr (.Call (.Attribute o "append" p2) [x] [] cpos) pos) := by
  obtain ⟨t, a1, a2⟩ := ha
  obtain ⟨tp, p1, p2⟩ := h
  rw [hp] at a2
  refine ⟨_, fun X g => ps_expr ?_ rfl, (sfs_appAt (i := i) p2 a2).cg (fun ρ => by rw [evS]) (by rw [St.asg])⟩
  have hs : [x].all noStar = true := by simp [hx]
  rw [← g.gd.hK]
  exact pe_bm F.plainAttrs_list F.slot_list_append F.type_list_append mt_append (p1 X g.gd) (pa_cons (a1 X g.gd) pa_nil (star_one hx _ _)) (baseB_ok hb _ _ _) (few_ok hs (by decide) X.env cpos) hl (star_one hx _ _) (star_any (xs := []) rfl _ _)
theorem gs_ife {st sf : Sts} {xt xf : List Stmt} (hc : GT c s a x) (ht : GSs c s st xt) (hf : GSs c s sf xf) : GS c s (.ife a st sf) (.If x xt xf pos) := by
  obtain ⟨tc, c1, c2⟩ := hc
  obtain ⟨tt, t1, t2⟩ := ht
  obtain ⟨tf, f1, f2⟩ := hf
  exact ⟨_, fun X g => ps_if (c1 X g.gd) (t1 X g) (f1 X g), (sfs_if c2 t2 f2).cg (fun ρ => by rw [evS]) (by rw [St.asg])⟩
theorem gs_whl {st : Sts} {xt : List Stmt} (hc : GT c s a x) (ht : GSs c s st xt) : GS c s (.whl a st) (.While x xt [] pos) := by
  obtain ⟨tc, c1, c2⟩ := hc
  obtain ⟨tt, t1, t2⟩ := ht
  exact ⟨_, fun X g => ps_while g.own (c1 X g.gd) (t1 X g), (sfs_while c2 t2).cg (fun ρ => by rw [evS]) (by rw [St.asg])⟩
theorem gs_loop {t : Tgt} {it : Eng.Itr} {st : Sts} {iter : Expr} {xt : List Stmt} (hI : GI c s it tg iter) (hg : GG c s t tg) (ht : GSs c s st xt) : GS c s (.loop t it st) (.For tg iter xt [] pos) := by
  obtain ⟨wi, i1, i2, i3⟩ := hI
  obtain ⟨g, g1, g2⟩ := hg
  obtain ⟨tt, t1, t2⟩ := ht
  exact ⟨_, fun X gd => ps_for gd.own gd.gd.calm (i1 X gd.gd) (g1 X gd.gd) (t1 X gd) (i3 X.env), (sfs_for i2 g2 t2).cg (fun ρ => by rw [evS]) (by rw [St.asg])⟩
theorem gs_each {i j : Nat} {d : D} {ni nj : Str} {v : Expr} {p1 p2 p3 p4 cpos bpos pos : Pos} (h1 : slot s i ni = true) (h2 : visB s ni = true) (h3 : slot s j nj = true) (h4 : locB s nj = true) (h5 : visB s nj = true) (ha : GE c s (.con d) v) (hd : d.clean = true) (hx : noStar v = true) (hl : (p4.endLine == cpos.line) = true) (hij : i ≠ j) :
    GS c s (.each i j d) (.For (.Name nj p1) (.Name ni p2) [.Expr (.Call (.Attribute (.Name nj p3) "append" p4) [v] [] cpos) bpos] [] pos) := by
  obtain ⟨te, a1, a2⟩ := ha
  have e1 : evE c.S (.con d) = fun ρ => some (d, ρ) := by funext ρ; rw [evE]
  have a2' : SF c.K c.w (fun ρ => some (d, ρ)) true [] te := by rw [← e1]; exact a2
  refine ⟨tFor (iOf c.K (tVar i)) (gName j) (tDrop (tBM c.K "list" rAppend (tVar j) (tCons te tNil))), fun X g => ?_, (sfs_each hij hd a2').cg (fun ρ => by rw [evS]) (by rw [St.asg])⟩
  have hv : PE X (.Name ni p2) (tVar i) := pe_var (g.gd.slot h1) (g.gd.vis h2) (dbg_ok (visB_ok h2).2).1 (dbg_ok (visB_ok h2).2).2.1
  have hw : PE X (.Name nj p3) (tVar j) := pe_var (g.gd.slot h3) (g.gd.vis h5) (dbg_ok (visB_ok h5).2).1 (dbg_ok (visB_ok h5).2).2.1
  have hs : [v].all noStar = true := by simp [hx]
  have hg : PG X (.Name nj p1) (gName j) := pg_name g.gd.nd (g.gd.slot h3) (g.gd.loc h4).1 (g.gd.loc h4).2
  rw [← g.gd.hK]
  refine ps_for g.own g.gd.calm (pi_of hv) hg (pss_one (ps_expr ?_ rfl)) (fun _ => rfl)
  exact pe_bm F.plainAttrs_list F.slot_list_append F.type_list_append mt_append hw (pa_cons (a1 X g.gd) pa_nil (star_one hx _ _)) rfl (few_ok hs (by decide) X.env cpos) hl (star_one hx _ _) (star_any (xs := []) rfl _ _)
theorem gss_nil : GSs c s .nil [] := ⟨_, fun X g => pss_nil, sfsS_nil.cg (fun ρ => by rw [evSs]) (by rw [Sts.asg])⟩
theorem gss_cons {st : Eng.St} {r : Sts} {x : Stmt} {xs : List Stmt} (h : GS c s st x) (hr : GSs c s r xs) : GSs c s (.cons st r) (x :: xs) := by
  obtain ⟨t, a1, a2⟩ := h
  obtain ⟨u, b1, b2⟩ := hr
  refine ⟨_, fun X g => pss_cons (a1 X g) (b1 X g), (sfs_seq a2 b2).cg (fun ρ => ?_) (by rw [Sts.asg])⟩
  rw [evSs]
  congr 1
end
/-! ### the checker -/
def okP (sg : Sg) (s : Sco) (i : Nat) : Exs → Expr → Bool
  | .nil, x => (match x with | .Name nm _ => slot s i nm && visB s nm | _ => false)
  | .cons e p, x => (match x with | .Subscript o y _ => okP sg s i p o && okE sg s e y && plainIxB y && e.pure | _ => false)
theorem okP_ok {c : Cfg} {sg : Sg} (ok : c.Ok) (hf : c.fns = sg.fns) (hg : ∀ x ∈ sg.gls, (c.S.glob x).isSome = true) (i : Nat) : ∀ (p : Exs) (s : Sco) (x : Expr), okP sg s i p x = true → GP c s i p x
  | .nil, s, x, h => by
    unfold okP at h; split at h; rotate_left; (cases h)
    exact gp_var (and2 h).1 (and2 h).2
  | .cons e p, s, x, h => by
    unfold okP at h; split at h; rotate_left; (cases h)
    simp only [Bool.and_eq_true] at h
    exact gp_sub (okP_ok ok hf hg i p s _ h.1.1.1) (okE_ok ok hf hg e s _ h.1.1.2) h.1.2 h.2
mutual
def okS (sg : Sg) (s : Sco) : Eng.St → Stmt → Bool
  | .set i e, x => (match x with
    | .Assign [.Name nm _] v _ => slot s i nm && locB s nm && (match e, v with
      | .comp e t it o, .ListComp elt [⟨tg, iter, ifs, 0⟩] scope _ => okI sg s it tg iter && okG (inS s scope) t tg && okC sg (inS s scope) o ifs && okE sg (inS s scope) e elt && blkC s.N s.sc scope (ownOf s t.slots)
      | e, v => okE sg s e v && noComp v)
    | _ => false)
  | .unp is e, x => (match x with | .Assign [.Tuple xs _ _] v _ => okNs s is xs && okE sg s e v && noTup v | _ => false)
  | .drop e, x => (match x with | .Expr v _ => okE sg s e v && noComp v | _ => false)
  | .put i k e, x => (match x with | .Assign [.Subscript (.Name nm _) y _] v _ => slot s i nm && visB s nm && okE sg s k y && okE sg s e v && plainIxB y | _ => false)
  | .augPut _ _ _ _, _ => false
  | .app i e, x => (match x with | .Expr (.Call (.Attribute (.Name nm _) m p2) [v] [] cpos) _ => slot s i nm && visB s nm && okE sg s e v && noStar v && decide (m = "append") && (p2.endLine == cpos.line) | _ => false)
  | .ext i e, x => (match x with | .Expr (.Call (.Attribute (.Name nm _) m p2) [v] [] cpos) _ => slot s i nm && visB s nm && okE sg s e v && noStar v && decide (m = "extend") && (p2.endLine == cpos.line) | _ => false)
  | .ret e, x => (match x with | .Return (some v) _ => okE sg s e v | _ => false)
  | .retN, x => (match x with | .Return none _ => true | _ => false)
  | .ife e a b, x => (match x with | .If v p q _ => okT sg s e v && okSs sg s a p && okSs sg s b q | _ => false)
  | .whl e b, x => (match x with | .While v p [] _ => okT sg s e v && okSs sg s b p | _ => false)
  | .loop t it b, x => (match x with | .For tg iter p [] _ => okI sg s it tg iter && okG s t tg && okSs sg s b p | _ => false)
  | .putAt i p k e, x => (match x with | .Assign [.Subscript o y _] v _ => okP sg s i p o && okE sg s k y && okE sg s e v && plainIxB y && k.pure | _ => false)
  | .appAt i p e, x => (match x with | .Expr (.Call (.Attribute o m p2) [v] [] cpos) _ => okP sg s i p o && okE sg s e v && e.pure && noStar v && baseB o && decide (m = "append") && (p2.endLine == cpos.line) | _ => false)
  | .each i j d, x => (match x with | .For (.Name nj p1) (.Name ni p2) [.Expr (.Call (.Attribute (.Name nj2 p3) m p4) [v] [] cpos) _] [] _ => slot s i ni && visB s ni && slot s j nj && locB s nj && visB s nj && decide (nj2 = nj) && okE sg s (.con d) v && d.clean && noStar v && decide (m = "append") && (p4.endLine == cpos.line) && decide (i ≠ j) | _ => false)
  | .stuck, _ => true
  | .brk, x => (match x with | .Break _ => true | _ => false)
  | .cnt, x => (match x with | .Continue _ => true | _ => false)
  | .pass, x => (match x with | .Pass _ => true | .Expr (.Constant (.str _) _ _) _ => true | _ => false)
def okSs (sg : Sg) (s : Sco) : Sts → List Stmt → Bool
  | .nil, x => x.isEmpty
  | .cons st r, x => (match x with | x :: xs => okS sg s st x && okSs sg s r xs | _ => false)
end
section
variable {c : Cfg} {sg : Sg}
mutual
theorem okS_ok (ok : c.Ok) (hf : c.fns = sg.fns) (hg : ∀ x ∈ sg.gls, (c.S.glob x).isSome = true) : ∀ (st : Eng.St) (s : Sco) (x : Stmt), okS sg s st x = true → GS c s st x
  | .set i e, s, x, h => by
    unfold okS at h; split at h; rotate_left; (cases h)
    obtain ⟨h, h3⟩ := and2 h
    obtain ⟨h1, h2⟩ := and2 h
    split at h3
    · simp only [Bool.and_eq_true] at h3
      obtain ⟨⟨⟨⟨k1, k2⟩, k3⟩, k4⟩, k5⟩ := h3
      exact gs_setLc h1 h2 (okI_ok ok hf hg _ s _ _ k1) (okG_ok k2) (okC_ok ok hf hg _ _ _ k3) (okE_ok ok hf hg _ _ _ k4) k5
    · exact gs_set h1 h2 (okE_ok ok hf hg _ s _ (and2 h3).1) fun X g => noComp_ok (and2 h3).2 _ _ _
  | .unp is e, s, x, h => by
    unfold okS at h; split at h; rotate_left; (cases h)
    simp only [Bool.and_eq_true] at h
    exact gs_unp h.1.1 (okE_ok ok hf hg e s _ h.1.2) h.2
  | .drop e, s, x, h => by
    unfold okS at h; split at h; rotate_left; (cases h)
    exact gs_drop (okE_ok ok hf hg e s _ (and2 h).1) (and2 h).2
  | .put i k e, s, x, h => by
    unfold okS at h; split at h; rotate_left; (cases h)
    simp only [Bool.and_eq_true] at h
    obtain ⟨⟨⟨⟨h1, h2⟩, h3⟩, h4⟩, h5⟩ := h
    exact gs_put h1 h2 (okE_ok ok hf hg k s _ h3) (okE_ok ok hf hg e s _ h4) h5
  | .augPut _ _ _ _, s, x, h => by unfold okS at h; cases h
  | .app i e, s, x, h => by
    unfold okS at h; split at h; rotate_left; (cases h)
    simp only [Bool.and_eq_true, decide_eq_true_eq] at h
    obtain ⟨⟨⟨⟨⟨h1, h2⟩, h3⟩, h4⟩, rfl⟩, h6⟩ := h
    exact gs_app h1 h2 (okE_ok ok hf hg e s _ h3) h4 h6
  | .ext i e, s, x, h => by
    unfold okS at h; split at h; rotate_left; (cases h)
    simp only [Bool.and_eq_true, decide_eq_true_eq] at h
    obtain ⟨⟨⟨⟨⟨h1, h2⟩, h3⟩, h4⟩, rfl⟩, h6⟩ := h
    exact gs_ext h1 h2 (okE_ok ok hf hg e s _ h3) h4 h6
  | .each i j d, s, x, h => by
    unfold okS at h; split at h; rotate_left; (cases h)
    simp only [Bool.and_eq_true, decide_eq_true_eq] at h
    obtain ⟨⟨⟨⟨⟨⟨⟨⟨⟨⟨⟨h1, h2⟩, h3⟩, h4⟩, h5⟩, rfl⟩, h7⟩, h8⟩, h9⟩, rfl⟩, h10⟩, h11⟩ := h
    exact gs_each h1 h2 h3 h4 h5 (okE_ok ok hf hg _ s _ h7) h8 h9 h10 h11
  | .stuck, s, x, h => ⟨fun _ _ _ => False, fun X g => ⟨fun _ _ _ _ _ _ h => h.elim⟩, fun _ _ _ _ _ _ _ _ h => by cases h⟩
  | .ret e, s, x, h => by
    unfold okS at h; split at h; rotate_left; (cases h)
    exact gs_ret (okE_ok ok hf hg e s _ h)
  | .retN, s, x, h => by
    unfold okS at h; split at h; rotate_left; (cases h)
    exact gs_retN
  | .ife e a b, s, x, h => by
    unfold okS at h; split at h; rotate_left; (cases h)
    simp only [Bool.and_eq_true] at h
    exact gs_ife (okT_ok ok hf hg e s _ h.1.1) (okSs_ok ok hf hg a s _ h.1.2) (okSs_ok ok hf hg b s _ h.2)
  | .whl e b, s, x, h => by
    unfold okS at h; split at h; rotate_left; (cases h)
    exact gs_whl (okT_ok ok hf hg e s _ (and2 h).1) (okSs_ok ok hf hg b s _ (and2 h).2)
  | .loop t it b, s, x, h => by
    unfold okS at h; split at h; rotate_left; (cases h)
    simp only [Bool.and_eq_true] at h
    exact gs_loop (okI_ok ok hf hg it s _ _ h.1.1) (okG_ok h.1.2) (okSs_ok ok hf hg b s _ h.2)
  | .putAt i p k e, s, x, h => by
    unfold okS at h; split at h; rotate_left; (cases h)
    simp only [Bool.and_eq_true] at h
    obtain ⟨⟨⟨⟨h1, h2⟩, h3⟩, h4⟩, h5⟩ := h
    exact gs_putAt (okP_ok ok hf hg i p s _ h1) (okE_ok ok hf hg k s _ h2) (okE_ok ok hf hg e s _ h3) h4 h5
  | .appAt i p e, s, x, h => by
    unfold okS at h; split at h; rotate_left; (cases h)
    simp only [Bool.and_eq_true, decide_eq_true_eq] at h
    obtain ⟨⟨⟨⟨⟨⟨h1, h2⟩, h3⟩, h4⟩, h5⟩, rfl⟩, h7⟩ := h
    exact gs_appAt (okP_ok ok hf hg i p s _ h1) (okE_ok ok hf hg e s _ h2) h3 h4 h5 h7
  | .brk, s, x, h => by
    unfold okS at h; split at h; rotate_left; (cases h)
    exact gs_brk
  | .cnt, s, x, h => by
    unfold okS at h; split at h; rotate_left; (cases h)
    exact gs_cnt
  | .pass, s, x, h => by
    unfold okS at h
    split at h
    · exact gs_pass
    · exact gs_doc
    · cases h
theorem okSs_ok (ok : c.Ok) (hf : c.fns = sg.fns) (hg : ∀ x ∈ sg.gls, (c.S.glob x).isSome = true) : ∀ (st : Sts) (s : Sco) (x : List Stmt), okSs sg s st x = true → GSs c s st x
  | .nil, s, x, h => by
    unfold okSs at h
    cases List.isEmpty_iff.mp h
    exact gss_nil
  | .cons st r, s, x, h => by
    unfold okSs at h; split at h; rotate_left; (cases h)
    exact gss_cons (okS_ok ok hf hg st s _ (and2 h).1) (okSs_ok ok hf hg r s _ (and2 h).2)
end
end
end Eng
namespace Eng
open PySem PySem.Spec PyProof.Rows L2 RT
/-! ### defs -/
structure Fd where
  name : Str
  n : Nat
  io : List Nat
  N : List Str
  body : Sts
def outsOf (n : Nat) (io : List Nat) (ρ : Rho) : List (Option D) := (List.range n).map fun i => if i ∈ io then get0 ρ i else none
def env0 (n m : Nat) (ds : List D) : Rho := ds.map some ++ List.replicate (m - n) none
def endF (n : Nat) (io : List Nat) : Out → Option (D × List (Option D))
  | .nx ρ => some (.non, outsOf n io ρ)
  | .rt d ρ => some (d, outsOf n io ρ)
  | _ => none
noncomputable def runF (S : Sem0) (f : Fd) : DFn := fun ds => if ds.length = f.n then (evSs S whl f.body (env0 f.n f.N.length ds)).bind (endF f.n f.io) else none
noncomputable def semN (fds : List Fd) (gv : List (Str × D)) : Nat → Sem0
  | 0 => ⟨fun _ _ => none, fun x => gv.lookup x⟩
  | k + 1 => ⟨fun x ds => (fds.find? fun f => f.name == x).bind fun f => runF (semN fds gv k) f ds, fun x => gv.lookup x⟩
def sgOf (fds : List Fd) (gv : List (Str × D)) : Sg := ⟨fds.map fun f => (f.name, f.n, f.io), gv.map (·.1)⟩
def okF (sg : Sg) (f : Fd) (st : Stmt) : Bool :=
  C8.scC f.N (f.N.take f.n) (defScope st) && okSs sg ⟨defScope st, fun _ => true, f.N⟩ f.body (defBody st) && f.io.all (fun i => decide (i < f.n) && !decide (i ∈ f.body.asg)) && decide (f.n ≤ f.N.length)
/-- what the head tells of a def -/
structure Tb (K : PySem.W.Frag) (mg : Str → Option Value) (f : Fd) (st : Stmt) : Prop where
  ex : ∃ fa fd, FunD K f.name f.name (defArgs st) (defBody st) (defScope st) [] [] fa fd ∧ mg f.name = some (.ref fa) ∧ Binds K fd (f.N.take f.n) []
section
variable {K : PySem.W.Frag} {w : World}
theorem get0_pad (a : Rho) (k i : Nat) : get0 (a ++ List.replicate k none) i = get0 a i := by
  unfold get0
  by_cases h : i < a.length
  · rw [List.getElem?_append_left h]
  · rw [List.getElem?_append_right (by omega), List.getElem?_eq_none (l := a) (by omega), List.getElem?_replicate]
    split <;> rfl
theorem start_eq (N : List Str) (vs : List V) : start N vs = vs.map some ++ List.replicate (N.length - vs.length) none := rfl
theorem Rep.pad {H : Hp} {M : Addr → Prop} {ρ : Rho} {σ : L2.St} {F : Foot} (R : Rep K w H M ρ σ F) (k : Nat) : Rep K w H M (ρ ++ List.replicate k none) (σ ++ List.replicate k none) F := by
  refine ⟨by rw [List.length_append, List.length_append, R.len, List.length_replicate, List.length_replicate], fun i d e => ?_, fun i e => R.un i (by rw [get0_pad] at e; exact e), R.nd, R.dis, R.hM, R.dom⟩
  rw [get0_pad] at e
  obtain ⟨v, ev, hd⟩ := R.den i d e
  exact ⟨v, by rw [List.getElem?_append_left (List.getElem?_eq_some_iff.mp ev).1]; exact ev, hd⟩
theorem get0_outs (n : Nat) (io : List Nat) (ρ : Rho) (i : Nat) : get0 (outsOf n io ρ) i = if i < n ∧ i ∈ io then get0 ρ i else none := by
  unfold outsOf
  by_cases h : i < n
  · unfold get0
    rw [List.getElem?_map, List.getElem?_range h]
    by_cases h2 : i ∈ io
    · rw [if_pos ⟨h, h2⟩]
      simp only [Option.map_some, Option.join_some, if_pos h2]
    · rw [if_neg fun z => h2 z.2]
      simp only [Option.map_some, Option.join_some, if_neg h2]
  · rw [if_neg fun z => h z.1]
    unfold get0
    rw [List.getElem?_eq_none (by simp; omega)]
    rfl
def outF (n : Nat) (io : List Nat) (F : Foot) : Foot := fun i => if i < n ∧ i ∈ io then F i else []
theorem outF_sub {n : Nat} {io : List Nat} {F : Foot} {i : Nat} {a : Addr} (h : a ∈ outF n io F i) : a ∈ F i ∧ i < n ∧ i ∈ io := by
  unfold outF at h
  split at h
  · rename_i z; exact ⟨h, z⟩
  · exact nno h
/-- what of a def's own names comes out -/
theorem Rep.outs {H : Hp} {M : Addr → Prop} {ρ : Rho} {σ σ0 : L2.St} {F : Foot} (R : Rep K w H M ρ σ F) {n : Nat} {io : List Nat} (hl : σ0.length = n) (hk : ∀ i, i < n → i ∈ io → σ[i]? = σ0[i]?) : Rep K w H M (outsOf n io ρ) σ0 (outF n io F) := by
  refine ⟨by rw [hl]; unfold outsOf; rw [List.length_map, List.length_range], fun i d e => ?_, fun i e => ?_, fun i => ?_, fun i j a h1 h2 => R.dis i j a (outF_sub h1).1 (outF_sub h2).1, fun i a h => R.hM i a (outF_sub h).1, R.dom⟩
  · rw [get0_outs] at e
    split at e
    · rename_i z
      obtain ⟨v, ev, hd⟩ := R.den i d e
      refine ⟨v, by rw [← hk i z.1 z.2]; exact ev, ?_⟩
      rw [show outF n io F i = F i from if_pos z]
      exact hd.keyFz fun a f => ⟨f.1, fun j hj => f.2 j (outF_sub hj).1⟩
    · cases e
  · rw [get0_outs] at e
    split at e
    · rename_i z
      rw [show outF n io F i = F i from if_pos z]
      exact R.un i e
    · rename_i z
      exact if_neg z
  · unfold outF
    split
    · exact R.nd i
    · exact List.nodup_nil
theorem endF_some {n : Nat} {io : List Nat} {o : Out} {r : D × List (Option D)} (h : endF n io o = some r) : (∃ ρ, o = .nx ρ ∧ r = (.non, outsOf n io ρ)) ∨ ∃ d ρ, o = .rt d ρ ∧ r = (d, outsOf n io ρ) := by
  cases o with
  | nx ρ => exact .inl ⟨ρ, rfl, (Option.some.inj h).symm⟩
  | rt d ρ => exact .inr ⟨d, ρ, rfl, (Option.some.inj h).symm⟩
  | bk ρ => cases h
  | ct ρ => cases h
theorem runF_some {S : Sem0} {f : Fd} {ds : List D} {d : D} {outs : List (Option D)} (h : runF S f ds = some (d, outs)) : ds.length = f.n ∧ ∃ o, evSs S whl f.body (env0 f.n f.N.length ds) = some o ∧ endF f.n f.io o = some (d, outs) := by
  unfold runF at h
  split at h
  · rename_i hn
    obtain ⟨o, e1, e2⟩ := Option.bind_eq_some_iff.mp h
    exact ⟨hn, o, e1, e2⟩
  · cases h
theorem outs_none {n : Nat} {io : List Nat} {ρ : Rho} {i : Nat} (h : i ∉ io) : get0 (outsOf n io ρ) i = none := by
  rw [get0_outs, if_neg fun z => h z.2]
end
/-! ### each def keeps its promise -/
section
variable {P : Program} {w : World} {K : PySem.W.Frag} {mg : Str → Option Value} {base : Heap} {fds : List Fd} {gv : List (Str × D)}
noncomputable def cfgN (P : Program) (w : World) (K : PySem.W.Frag) (mg : Str → Option Value) (base : Heap) (fds : List Fd) (gv : List (Str × D)) (k : Nat) : Cfg := ⟨P, w, K, mg, base, k, semN fds gv k, (sgOf fds gv).fns, (sgOf fds gv).gls⟩
theorem find_lookup {x : Str} {n : Nat} {io : List Nat} : ∀ {fds : List Fd}, (fds.map fun f => (f.name, f.n, f.io)).lookup x = some (n, io) → ∃ f ∈ fds, (fds.find? fun f => f.name == x) = some f ∧ f.name = x ∧ f.n = n ∧ f.io = io
  | [], h => by cases h
  | f :: r, h => by
    rw [List.map_cons, List.lookup_cons] at h
    by_cases e : (x == f.name) = true
    · have e' := eq_of_beq e
      rw [e] at h
      cases h
      exact ⟨f, List.mem_cons_self, by rw [List.find?_cons, ← e', beq_self_eq_true], e'.symm, rfl, rfl⟩
    · have e2 : (x == f.name) = false := by simpa using e
      rw [e2] at h
      obtain ⟨g, hg, h1, h2⟩ := find_lookup h
      have e3 : (f.name == x) = false := by
        cases hh : f.name == x with
        | false => rfl
        | true => rw [eq_of_beq hh] at e2; simp at e2
      exact ⟨g, List.mem_cons_of_mem _ hg, by rw [List.find?_cons, e3]; exact h1, h2⟩
theorem sp_none {n : Nat} {io : List Nat} {vs : List V} {H : Hp} {Q : VK} {E : XK} (h : spD K w n io (fun _ => none) vs H Q E) : False := by
  obtain ⟨_, _, _, _, _, _, _, z, _⟩ := h
  cases z
theorem fn_none {f : Addr} {fd : FuncData} {ps : List Str} {n k : Nat} {io : List Nat} : FnOk P w K mg base C8.CX0 k f fd ps (spD K w n io fun _ => none) :=
  ⟨fun vs H Q E h => (sp_none h).elim, fun A outer s H args us vs Q E _ _ _ _ h => (sp_none h).elim⟩
/-- a def's body, run below -/
theorem fn_body {c : Cfg} (ok : c.Ok) (sg : Sg) (hf : c.fns = sg.fns) (hg : ∀ x ∈ sg.gls, (c.S.glob x).isSome = true) {f : Fd} {st : Stmt} {fa : Addr} {fd : FuncData} (hk : okF sg f st = true) (F : FunD c.K f.name f.name (defArgs st) (defBody st) (defScope st) [] [] fa fd) :
    FnOk c.P c.w c.K c.mg c.base C8.CX0 (c.n + 1) fa fd (f.N.take f.n) (spD c.K c.w f.n f.io (runF c.S f)) := by
  unfold okF at hk
  simp only [Bool.and_eq_true, decide_eq_true_eq, List.all_eq_true, Bool.not_eq_true', decide_eq_false_iff_not] at hk
  obtain ⟨⟨⟨k1, k2⟩, k3⟩, k4⟩ := hk
  have hS := C8.fnScope_by k1
  have hlen : (f.N.take f.n).length = f.n := by rw [List.length_take]; omega
  refine F.ok hS (fun vs H Q E h => by rw [hlen]; exact h.1) fun cdv A outer s H vs Q E hr h => ?_
  obtain ⟨t, t1, t2⟩ := okSs_ok ok hf hg f.body ⟨defScope st, fun _ => true, f.N⟩ (defBody st) k2
  refine ⟨t, (t1 _ ⟨⟨rfl, rfl, rfl, rfl, rfl, rfl, rfl, rfl, rfl, hr, hS.nd⟩, PassesOwn.never⟩).nox, ?_⟩
  obtain ⟨hn, ds, M, G, d, outs, R, e, hG, q⟩ := h
  obtain ⟨hd, o, e1, e2⟩ := runF_some e
  have R0 : Rep c.K c.w H M (env0 f.n f.N.length ds) (start f.N vs) G := by
    rw [start_eq, hn]
    exact R.pad _
  refine t2 _ _ H G M o _ R0 e1 ?_
  have hkp : ∀ {σ' : L2.St}, Keeps f.body.asg (start f.N vs) σ' → ∀ i, i < f.n → i ∈ f.io → σ'[i]? = (vs.map some)[i]? := fun {σ'} k i hi hio => by
    rw [k i (k3 i hio).2, start_eq, List.getElem?_append_left (by rw [List.length_map, hn]; exact hi)]
  have fin : ∀ {v : V} {dd : D} {σ' : L2.St} {H' : Hp} {ρ' : Rho} {F' : Foot} {T : List Addr}, Aft c.K c.w M H G (env0 f.n f.N.length ds) false σ' H' ρ' F' T → Dn c.K c.w H' (Al0 M T F') v dd T → Keeps f.body.asg (start f.N vs) σ' → (dd, outsOf f.n f.io ρ') = (d, outs) → Q v H' := fun {v dd σ' H' ρ' F' T} X hv k er => by
    cases er
    refine q v H' (outF f.n f.io F') T ⟨X.rep.outs (by rw [List.length_map, hn]) (hkp k), X.keep, fun a ha => X.fresh a (ha.imp id fun ⟨i, hi⟩ => ⟨i, (outF_sub hi).1⟩), X.nd, X.tM, fun z => by cases z⟩ (hv.keyFz fun a f => ⟨f.1, f.2.1, fun j _ hj => f.2.2 j (outF_sub hj).1⟩)
  rcases endF_some e2 with ⟨ρ', rfl, er⟩ | ⟨dd, ρ', rfl, er⟩
  · exact fun σ' H' F' X k => fin X .non k er.symm
  · exact fun v σ' H' F' T X hv k => fin X hv k er.symm
theorem cfg_ok (tb : ∀ f ∈ fds, ∃ st, Tb K mg f st ∧ okF (sgOf fds gv) f st = true) (hgl : ∀ x d, gv.lookup x = some d → ∃ v u, mg x = some u ∧ RelV v u ∧ ∀ H Fy, Dn K w H Fy v d []) (hgs : ∀ x ∈ gv.map (·.1), (gv.lookup x).isSome = true)
    (hb : ∀ x ∈ blts, mg x = none) : ∀ k, (cfgN P w K mg base fds gv k).Ok
  | 0 => by
    refine ⟨fun x n io h => ?_, fun x d h => hgl x d h, hb⟩
    obtain ⟨f, hf, _, rfl, rfl, rfl⟩ := find_lookup h
    obtain ⟨st, T, _⟩ := tb f hf
    obtain ⟨fa, fd, F, hm, hbn⟩ := T.ex
    exact ⟨⟨fa, fd, _, [], fn_none, hm, F.kp, hbn, .nil⟩, fun ds d outs z => by cases z⟩
  | k + 1 => by
    have ih := cfg_ok tb hgl hgs hb k
    refine ⟨fun x n io h => ?_, fun x d h => hgl x d h, hb⟩
    obtain ⟨f, hf, e, rfl, rfl, rfl⟩ := find_lookup h
    obtain ⟨st, T, hk⟩ := tb f hf
    obtain ⟨fa, fd, F, hm, hbn⟩ := T.ex
    have hS : (cfgN P w K mg base fds gv (k + 1)).S.call f.name = runF (semN fds gv k) f := by
      funext ds
      show ((fds.find? fun g => g.name == f.name).bind fun f => runF (semN fds gv k) f ds) = _
      rw [e]; rfl
    have fb := fn_body ih (sgOf fds gv) rfl (by
      intro x hx
      cases k <;> exact hgs x hx) hk F
    refine ⟨⟨fa, fd, _, [], ?_, hm, F.kp, hbn, .nil⟩, fun ds d outs z => ?_⟩
    · rw [hS]; exact fb
    · rw [hS] at z
      obtain ⟨hd, o, e1, e2⟩ := runF_some z
      refine ⟨hd, fun i hi => ?_⟩
      rcases endF_some e2 with ⟨ρ', _, er⟩ | ⟨dd, ρ', _, er⟩ <;> (cases er; exact outs_none hi)
end
end Eng
namespace Eng
open PySem PySem.Spec PyProof.Rows L2 RT
/-! ### the module's constants, as the head tells them -/
def dvOf : D → He.Dv
  | .int i => .int i
  | .str z => .str z
  | .bl b => .bl b
  | _ => .non
def flatD : D → Bool
  | .int _ => true | .str _ => true | .bl _ => true | .non => true
  | _ => false
def entB (K : PySem.W.Frag) : List DictEntry → List (D × D) → Bool
  | [], [] => true
  | e :: es, (.str _, d) :: r => flatD d && (He.relB ((dvOf d).v K) e.val && entB K es r)
  | _, _ => false
def dctB (K : PySem.W.Frag) (x : Str) (kvs : List (D × D)) : Bool := decide ((kvs.map fun p => p.1.nk).Nodup) && (match K.lookup (He.ga K x) with
  | some ⟨_, _, .dict es _, _⟩ => entB K es.toList kvs && decide (es.size ≤ sizeLine)
  | _ => false)
def keysD : List (D × D) → List Str
  | [] => []
  | (.str k, _) :: r => k :: keysD r
  | _ :: r => keysD r
def gvB (K : PySem.W.Frag) (x : Str) : D → Bool
  | .int i => (He.Fa.int x i).ok K
  | .str z => (He.Fa.str x z).ok K
  | .tup ds => ds.all flatD && (He.tupB K x (ds.map dvOf) && (He.Fa.glo x).ok K)
  | .dct false kvs => dctB K x kvs && (He.Fa.glo x).ok K
  | _ => false
def tabs : List (Str × D) → List (Str × List Str)
  | [] => []
  | (x, .dct _ kvs) :: r => (x, keysD kvs) :: tabs r
  | _ :: r => tabs r
theorem dvOf_dn {K : PySem.W.Frag} {w : World} {H : Hp} {Fy : Addr → Prop} {d : D} (h : flatD d = true) : Dn K w H Fy ((dvOf d).v K) d [] := by
  cases d <;> first | (cases h; done) | skip
  · exact .non
  · exact .bl _
  · exact .int _
  · exact .str _
theorem dvOf_all {K : PySem.W.Frag} {w : World} {H : Hp} {Fy : Addr → Prop} : ∀ {ds : List D}, ds.all flatD = true → DnL K w H Fy ((ds.map dvOf).map (He.Dv.v K)) ds []
  | [], _ => .nil
  | d :: ds, h => by
    simp only [List.all_cons, Bool.and_eq_true] at h
    exact DnL.cons (S := []) (S' := []) (dvOf_dn h.1) (dvOf_all h.2)
theorem ent_dn {K : PySem.W.Frag} {w : World} {H : Hp} {Fy : Addr → Prop} : ∀ {es : List DictEntry} {kvs : List (D × D)}, entB K es kvs = true → es.map He.keyOf = He.keysIn w.params (keysD kvs) → DnE K w H Fy es kvs []
  | [], [], _, _ => .nil
  | [], _ :: _, h, _ => by cases h
  | e :: es, [], h, _ => by cases h
  | e :: es, (k, d) :: r, h, hk => by
    cases k <;> first | (cases h; done) | skip
    rename_i k
    simp only [entB, Bool.and_eq_true] at h
    have hk' : (He.keyOf e :: es.map He.keyOf) = some (k, PyData.keyHash w.params k) :: He.keysIn w.params (keysD r) := hk
    injection hk' with h1 h2
    unfold He.keyOf at h1
    split at h1
    · rename_i x t ek
      injection h1 with h1
      injection h1 with h3 h4
      exact DnE.cons (S := []) (S' := []) (k := .str k) (n := .text k) (by rw [ek, h3]; exact ⟨t, rfl⟩) (He.relB_ok h.2.1) (.str k) rfl (Nat.zero_le 8) h4 (dvOf_dn h.1) (ent_dn h.2.2 h2)
    · cases h1
theorem dct_dn {K : PySem.W.Frag} {w : World} {x : Str} {kvs : List (D × D)} (c : dctB K x kvs = true) (t : He.dicW K (He.ga K x) = some (He.keysIn w.params (keysD kvs))) : ∀ H Fy, Dn K w H Fy (.ref (He.ga K x)) (.dct false kvs) [] := fun H Fy => by
  unfold dctB at c
  obtain ⟨c0, c⟩ := and2 c
  unfold He.dicW at t
  cases lk : K.lookup (He.ga K x) with
  | none => rw [lk] at c; cases c
  | some o =>
    obtain ⟨oc, od, dt, sl⟩ := o
    rw [lk] at c t
    cases dt <;> first | (cases c; done) | skip
    rename_i es n
    cases oc <;> first | (cases t; done) | skip
    cases od <;> first | (cases t; done) | skip
    rename_i cn
    simp only at c t
    obtain ⟨c1, c2⟩ := and2 c
    split at t
    · rename_i hb
      obtain ⟨b1, b2⟩ := and2 hb
      obtain ⟨b2, b3⟩ := and2 b2
      have e1 := of_decide_eq_true b1
      subst e1
      have e2 : sl = #[] := Array.isEmpty_iff.mp b2
      subst e2
      exact .dctK lk ⟨⟨rfl, rfl, rfl⟩, ⟨n, rfl⟩, by simpa using b3, of_decide_eq_true c2⟩ (ent_dn c1 (Option.some.inj t)) (of_decide_eq_true c0)
    · cases t
theorem gvB_ok {K : PySem.W.Frag} {w : World} {h : Heap} {mg : Str → Option Value} {x : Str} {d : D} (X : K.In h) (G : h.Ns mainGlobals mg) (c : gvB K x d = true) (ct : ∀ o kvs, d = .dct o kvs → He.dicW K (He.ga K x) = some (He.keysIn w.params (keysD kvs))) : ∃ v u, mg x = some u ∧ RelV v u ∧ ∀ H Fy, Dn K w H Fy v d [] := by
  cases d <;> first | (cases c; done) | skip
  rotate_right
  · rename_i o kvs
    cases o <;> first | (cases c; done) | skip
    obtain ⟨c1, c3⟩ := and2 c
    exact ⟨.ref (He.ga K x), _, He.glo_ok X G c3, rfl, dct_dn c1 (ct false kvs rfl)⟩
  · obtain ⟨t, e⟩ := He.int_ok X G c
    exact ⟨.int _, _, e, ⟨t, rfl⟩, fun H Fy => .int _⟩
  · obtain ⟨t, e⟩ := He.str_ok X G c
    exact ⟨.str _, _, e, ⟨t, rfl⟩, fun H Fy => .str _⟩
  · obtain ⟨c1, c2⟩ := and2 c
    obtain ⟨c2, c3⟩ := and2 c2
    exact ⟨.ref (He.ga K x), _, He.glo_ok X G c3, rfl, fun H Fy => .tup (He.tupB_ok c2 H) (dvOf_all c1)⟩
/-! ### the head's hook -/
abbrev Tx := Fd × Stmt
def Tx.dd (e : Tx) : He.DefD := ⟨(e.1.name, none), e.1.name, e.1.name, defArgs e.2, defBody e.2, defScope e.2, [], []⟩
def faOf (es : List Tx) : List He.Fa := (es.map fun p => He.Fa.glo p.1.name) ++ blts.map He.Fa.free
def fnOf (es : List Tx) : List He.DefD := es.map Tx.dd
def exOf (gv : List (Str × D)) (K : PySem.W.Frag) : Bool := gv.all fun p => gvB K p.1 p.2
abbrev AlE : Type := (He.AlD × Bool) × List (Option (List (Option (Str × Int))))
def obsK (es : List Tx) (gv : List (Str × D)) (K : PySem.W.Frag) : AlE := ((He.obsD (faOf es) (fnOf es) K, exOf gv K), (tabs gv).map fun t => He.dicW K (He.ga K t.1))
def valE (es : List Tx) (gv : List (Str × D)) (w : World) : AlE := ((He.valD (fnOf es), true), (tabs gv).map fun t => some (He.keysIn w.params t.2))
def obsE (es : List Tx) (gv : List (Str × D)) (n : Nat) (g : Addr → Option Obj) : AlE := obsK es gv (He.frG g (He.asD g n))
def TabOk (gv : List (Str × D)) (w : World) (K : PySem.W.Frag) : Prop := ((tabs gv).map fun t => He.dicW K (He.ga K t.1)) = (tabs gv).map fun t => some (He.keysIn w.params t.2)
def hookE (es : List Tx) (gv : List (Str × D)) (n : Nat) : PySem.W.Hook where
  α := AlE
  obs := fun s => obsE es gv n s.heap.get?
  val := fun w => valE es gv w
  says := fun w h => ∃ K : PySem.W.Frag, K.In h ∧ He.SaysD (faOf es) (fnOf es) K ∧ exOf gv K = true ∧ TabOk gv w K
  of := fun _ _ e => ⟨_, He.frG_in, congrArg (fun z : AlE => z.1.1) e, congrArg (fun z : AlE => z.1.2) e, congrArg (fun z : AlE => z.2) e⟩
  keeps := fun _ _ _ ⟨K, hK, c⟩ k => ⟨K, PySem.W.Frag.In.keeps hK k, c⟩
theorem obsE_eq {es : List Tx} {gv : List (Str × D)} {n : Nat} {g : Addr → Option Obj} {s : Shared} (h : ∀ a, g a = s.heap.get? a) : obsE es gv n g = (hookE es gv n).obs s := by
  have e : g = s.heap.get? := funext h
  rw [e]; rfl
/-- how a def's arguments bind -/
def Bnd (e : Tx) : Prop := ∀ (kV doc pm : Value) (an : Option Addr) (cdv ct : Value) (us : List Value), us.length = (e.1.N.take e.1.n).length →
  bindArgs (PySem.W.fnOf e.1.name e.1.name (defArgs e.2) (defBody e.2) (defScope e.2) .none kV doc pm an cdv ct) ⟨us, []⟩ = pure ((e.1.N.take e.1.n).zip us)
def gvN (gv : List (Str × D)) : Bool := gv.all fun p => (gv.lookup p.1).isSome
section
variable {es : List Tx} {gv : List (Str × D)} {K : PySem.W.Frag} {h : Heap} {mg : Str → Option Value} {w : World}
theorem lookup_mem' {α : Type} {x : Str} {d : α} : ∀ {l : List (Str × α)}, l.lookup x = some d → (x, d) ∈ l
  | [], h => by cases h
  | (y, e) :: r, h => by
    rw [List.lookup_cons] at h
    split at h
    · rename_i hb
      cases h
      rw [eq_of_beq hb]
      exact List.mem_cons_self
    · exact List.mem_cons_of_mem _ (lookup_mem' h)
theorem tab_at {x : Str} {o : Bool} {kvs : List (D × D)} : ∀ {gv : List (Str × D)}, (x, D.dct o kvs) ∈ gv → TabOk gv w K → He.dicW K (He.ga K x) = some (He.keysIn w.params (keysD kvs))
  | [], h, _ => nno h
  | (y, d) :: r, h, c => by
    rcases List.mem_cons.mp h with e | hr
    · cases e
      have : (He.dicW K (He.ga K x) :: _) = some (He.keysIn w.params (keysD kvs)) :: _ := c
      exact (List.cons.inj this).1
    · cases d with
      | dct o' kvs' =>
        have c' : (He.dicW K (He.ga K y) :: (tabs r).map fun t => He.dicW K (He.ga K t.1)) = some (He.keysIn w.params (keysD kvs')) :: (tabs r).map fun t => some (He.keysIn w.params t.2) := c
        exact tab_at hr (List.cons.inj c').2
      | _ => exact tab_at hr c
theorem ent_ok (X : K.In h) (G : h.Ns mainGlobals mg) (c : He.SaysD (faOf es) (fnOf es) K) (bnd : ∀ e ∈ es, Bnd e) {e : Tx} (he : e ∈ es) :
    ∃ fd, FunD K e.1.name e.1.name (defArgs e.2) (defBody e.2) (defScope e.2) [] [] (He.ga K e.1.name) fd ∧ mg e.1.name = some (.ref (He.ga K e.1.name)) ∧ (∀ (s : Shared) (us : List Value), us.length = (e.1.N.take e.1.n).length → BindsTo s fd ⟨us, []⟩ ((e.1.N.take e.1.n).zip us)) ∧ Binds K fd (e.1.N.take e.1.n) [] := by
  obtain ⟨fd, F⟩ := c.defs (d := e.dd) (List.mem_map.mpr ⟨e, he, rfl⟩)
  have F' : FunD K e.1.name e.1.name (defArgs e.2) (defBody e.2) (defScope e.2) [] [] (He.ga K e.1.name) fd := F
  refine ⟨fd, F', ?_, fun s us hl => FunD.bindsA F' (bnd e he) s us hl, FunD.bindsN F' (bnd e he)⟩
  exact He.glo_ok X G (c.facts (f := .glo e.1.name) (List.mem_append_left _ (List.mem_map.mpr ⟨e, he, rfl⟩)))
theorem cfg_head {P : Program} {base : Heap} (X : K.In h) (G : h.Ns mainGlobals mg) (c : He.SaysD (faOf es) (fnOf es) K) (cx : exOf gv K = true) (ct : TabOk gv w K) (bnd : ∀ e ∈ es, Bnd e) (hok : (es.all fun e => okF (sgOf (es.map (·.1)) gv) e.1 e.2) = true) (hgn : gvN gv = true) (k : Nat) :
    (cfgN P w K mg base (es.map (·.1)) gv k).Ok := by
  refine cfg_ok (fun f hf => ?_) (fun x d hx => ?_) (fun x hx => ?_) (fun x hx => ?_) k
  · obtain ⟨e, he, rfl⟩ := List.mem_map.mp hf
    obtain ⟨fd, F, hm, _, hb⟩ := ent_ok X G c bnd he
    exact ⟨e.2, ⟨_, fd, F, hm, hb⟩, List.all_eq_true.mp hok e he⟩
  · exact gvB_ok X G (List.all_eq_true.mp cx (x, d) (lookup_mem' hx)) fun o kvs e => tab_at (by rw [← e]; exact lookup_mem' hx) ct
  · obtain ⟨p, hp, rfl⟩ := List.mem_map.mp hx
    exact List.all_eq_true.mp hgn p hp
  · exact He.free_ok X G (c.facts (f := .free x) (List.mem_append_right _ (List.mem_map.mpr ⟨x, hx, rfl⟩)))
/-- the script, as data -/
def scr (ns : List Int) : D := .lst false (ns.map .int)
theorem dn_ints {H : Hp} {Fy : Addr → Prop} : ∀ ns : List Int, DnL K w H Fy (ns.map V.int) (ns.map D.int) []
  | [] => .nil
  | n :: ns => DnL.cons (S := []) (S' := []) (.int n) (dn_ints ns)
theorem script_rep {H : Hp} {a : Addr} {ns : List Int} (hS : SqL K H a (ns.map V.int)) : Rep K w H (fun _ => False) ([scr ns].map some) ([V.ref a].map some) (fun _ => []) := by
  refine ⟨rfl, fun i d e => ?_, fun _ _ => rfl, fun _ => List.nodup_nil, fun _ _ _ => nno, fun _ _ => nno, fun _ m => m.elim⟩
  have e' := get0_map_some e
  cases i with
  | zero =>
    cases e'
    refine ⟨.ref a, rfl, .lstF ?_ (dn_ints ns)⟩
    rcases hS with z | z
    · exact .inl ⟨z, id, fun _ => nno⟩
    · exact .inr z
  | succ i => simp at e'
/-- the law's def keeps its promise, by what the head tells of K -/
theorem law_core {l : PySem.W.OpenLaw} {k n : Nat} {ef : Tx} {x : Str} {fa : Addr} (hef : ef ∈ es) (hN : ef.1.N.take ef.1.n = [x]) (hio : ef.1.io = [])
    (bnd : ∀ e ∈ es, Bnd e) (hok : (es.all fun e => okF (sgOf (es.map (·.1)) gv) e.1 e.2) = true) (hgn : gvN gv = true) (X : K.In h) (G : h.Ns mainGlobals mg) (c : He.SaysD (faOf es) (fnOf es) K) (cx : exOf gv K = true) (ct : TabOk gv w K) (hmg : mg ef.1.name = some (.ref fa)) :
    ∃ fd : FuncData, (∀ (s : Shared) (u : Value), BindsTo s fd ⟨[u], []⟩ [(x, u)]) ∧ ∀ base : Heap, K.In base → base.Ns mainGlobals mg → FnOk l.prog w K mg base C8.CX0 (k + 1) fa fd [x] (spD K w 1 [] (runF (semN (es.map (·.1)) gv k) ef.1)) := by
  obtain ⟨fd, F, hm, hb, _⟩ := ent_ok X G c bnd hef
  rw [hm] at hmg
  cases hmg
  have n1 : ef.1.n = 1 := by
    have hk := List.all_eq_true.mp hok ef hef
    unfold okF at hk
    simp only [Bool.and_eq_true, decide_eq_true_eq] at hk
    have := congrArg List.length hN
    rw [List.length_take] at this
    simp at this
    omega
  refine ⟨fd, fun s u => ?_, fun base hK hG => ?_⟩
  · have := hb s [u] (by rw [hN]; rfl)
    rw [hN] at this
    exact this
  · have ok := cfg_head (P := l.prog) (w := w) (base := base) X G c cx ct bnd hok hgn k
    have := fn_body ok (sgOf (es.map (·.1)) gv) rfl (fun x hx => by
      obtain ⟨p, hp, rfl⟩ := List.mem_map.mp hx
      cases k <;> exact List.all_eq_true.mp hgn p hp) (List.all_eq_true.mp hok ef hef) F
    rw [hN, n1, hio] at this
    exact this
theorem law_sp {k n : Nat} {ef : Tx} (hio : ef.1.io = []) (law : ∀ ns : List Int, ns.length ≤ n → ∃ outs, runF (semN (es.map (·.1)) gv k) ef.1 [scr ns] = some (.bl true, outs)) (H : Hp) (a : Addr) (ns : List Int) (hl : ns.length ≤ n) (hS : SqL K H a (ns.map V.int)) :
    spD K w 1 [] (runF (semN (es.map (·.1)) gv k) ef.1) [.ref a] H (fun v _ => v = .bl true) fun _ _ _ => False := by
  obtain ⟨outs, e⟩ := law ns hl
  refine ⟨rfl, [scr ns], fun _ => False, fun _ => [], .bl true, outs, script_rep hS, e, fun i _ => ⟨rfl, ?_⟩, fun v H' G' T A hv => hv.bl'.1⟩
  obtain ⟨_, o, e1, e2⟩ := runF_some e
  rw [hio] at e2
  rcases endF_some e2 with ⟨ρ', _, er⟩ | ⟨dd, ρ', _, er⟩ <;> (cases er; first | done | exact outs_none nno)
/-- the law's end -/
theorem law_end {l : PySem.W.OpenLaw} {n k : Nat} {q : Program} {loose : List Str} {XP : (Str → Option Value) → Heap → Prop} {d : DefRec} {ef : Tx} {x : Str} {m : Nat}
    (hn : l.most = some n) (hn2 : n ≤ sizeLine) (hdf : d.params.defaults = []) (hr : Room (k + 1) callerA) (hef : ef ∈ es) (hnm : ef.1.name = d.name) (hN : ef.1.N.take ef.1.n = [x]) (hio : ef.1.io = [])
    (bnd : ∀ e ∈ es, Bnd e) (hok : (es.all fun e => okF (sgOf (es.map (·.1)) gv) e.1 e.2) = true) (hgn : gvN gv = true)
    (law : ∀ ns : List Int, ns.length ≤ n → ∃ outs, runF (semN (es.map (·.1)) gv k) ef.1 [scr ns] = some (.bl true, outs)) :
    PySem.W.WalkO q loose XP (hookE es gv m).says l.row.toRowW d [] (fun f vs => PySem.call f vs) := by
  refine L2.walk_ofE (l := l) (n := n) (k := k + 1) (x := x) (CX := C8.CX0) hn hn2 hdf hr ?_ (fun _ _ _ _ z => z)
  intro w mg fa h ⟨K, X, c, cx, ct⟩ G hmg
  rw [← hnm] at hmg
  obtain ⟨fd, h1, h2⟩ := law_core (l := l) (k := k) (n := n) hef hN hio bnd hok hgn X G c cx ct hmg
  exact ⟨K, fd, _, X, h1, fun H a ns hl hO hS => law_sp hio law H a ns hl hS, h2⟩
/-- .. over a head whose written part is told -/
theorem law_endK {l : PySem.W.OpenLaw} {n k : Nat} {q : Program} {loose : List Str} {XP : (Str → Option Value) → Heap → Prop} {YP : World → Heap → Prop} {d : DefRec} {ef : Tx} {x : Str} {K : Params → PySem.W.Frag}
    (hn : l.most = some n) (hn2 : n ≤ sizeLine) (hdf : d.params.defaults = []) (hr : Room (k + 1) callerA) (hY : ∀ (w : World) (h : Heap), YP w h → (K w.params).In h) (hef : ef ∈ es) (hnm : ef.1.name = d.name) (hN : ef.1.N.take ef.1.n = [x]) (hio : ef.1.io = [])
    (bnd : ∀ e ∈ es, Bnd e) (hok : (es.all fun e => okF (sgOf (es.map (·.1)) gv) e.1 e.2) = true) (hgn : gvN gv = true) (hK : ∀ w : World, obsK es gv (K w.params) = valE es gv w)
    (law : ∀ ns : List Int, ns.length ≤ n → ∃ outs, runF (semN (es.map (·.1)) gv k) ef.1 [scr ns] = some (.bl true, outs)) :
    PySem.W.WalkO q loose XP YP l.row.toRowW d [] (fun f vs => PySem.call f vs) := by
  refine L2.walk_ofE (l := l) (n := n) (k := k + 1) (x := x) (CX := C8.CX0) hn hn2 hdf hr ?_ (fun _ _ _ _ z => z)
  intro w mg fa h Y G hmg
  rw [← hnm] at hmg
  have e := hK w
  obtain ⟨fd, h1, h2⟩ := law_core (l := l) (k := k) (n := n) (w := w) hef hN hio bnd hok hgn (hY w h Y) G (congrArg (fun z : AlE => z.1.1) e) (congrArg (fun z : AlE => z.1.2) e) (congrArg (fun z : AlE => z.2) e) hmg
  exact ⟨K w.params, fd, _, hY w h Y, h1, fun H a ns hl hO hS => law_sp hio law H a ns hl hS, h2⟩
end
end Eng
namespace Eng
open PySem PySem.Spec PyProof.Rows L2 RT
/-! ### equations for reckoning by hand -/
theorem get0_cons_zero (o : Option D) (r : Rho) : get0 (o :: r) 0 = o := by cases o <;> rfl
theorem get0_cons_succ (o : Option D) (r : Rho) (i : Nat) : get0 (o :: r) (i + 1) = get0 r i := rfl
theorem get0_nil (i : Nat) : get0 [] i = none := by unfold get0; simp
theorem frzAt_nil (vs : List Nat) : frzAt vs [] = [] := rfl
theorem x_blt_len (x : D) : dBlt .len [x] = dLen x := rfl
theorem x_blt_int (x : D) : dBlt .int [x] = dInt x := rfl
theorem x_blt_str (x : D) : dBlt .str [x] = dStr x := rfl
theorem x_blt_list (x : D) : dBlt .list [x] = dList x := rfl
theorem x_blt_tuple (x : D) : dBlt .tuple [x] = dTuple x := rfl
theorem x_blt_max (x y : D) : dBlt .max [x, y] = dMax x y := rfl
theorem x_blt_min (x y : D) : dBlt .min [x, y] = dMin x y := rfl
theorem x_blt_sset (x : D) : dBlt .sortedSet [x] = dSSet x := rfl
theorem x_blt_sorted (x : D) : dBlt .sorted [x] = dSorted x := rfl
theorem x_sorted (o : Bool) (xs : List D) : dSorted (.lst o xs) = if sortB xs = true then some (.lst true (xs.mergeSort leD)) else none := rfl
theorem x_sortd (o : Bool) (kvs : List (D × D)) : dSorted (.dct o kvs) = if (sortB (kvs.map (·.1)) && (kvs.map (·.1)).all D.pur) = true then some (.lst true ((kvs.map (·.1)).mergeSort leD)) else none := rfl
theorem x_mth_join (s : Str) (x : D) : dMth .join (.str s) [x] = dJoin s x := rfl
theorem x_mth_upper (s : Str) : dMth .upper (.str s) [] = if decide (s.length ≤ 5592405) = true then some (.str (Txt.upper s)) else none := rfl
theorem x_mth_index (o : Bool) (xs : List D) (x : D) : dMth .index (.lst o xs) [x] = dIndex xs x := rfl
theorem x_isi_str_non : dIsi .str .non = false := rfl
theorem x_isi_str_bl (b : Bool) : dIsi .str (.bl b) = false := rfl
theorem x_isi_str_int (i : Int) : dIsi .str (.int i) = false := rfl
theorem x_isi_str_str (z : Str) : dIsi .str (.str z) = true := rfl
theorem x_isi_str_lst (o : Bool) (xs : List D) : dIsi .str (.lst o xs) = false := rfl
theorem x_isi_str_tup (xs : List D) : dIsi .str (.tup xs) = false := rfl
theorem x_isi_str_dct (o : Bool) (kvs : List (D × D)) : dIsi .str (.dct o kvs) = false := rfl
theorem x_isi_int_non : dIsi .int .non = false := rfl
theorem x_isi_int_bl (b : Bool) : dIsi .int (.bl b) = true := rfl
theorem x_isi_int_int (i : Int) : dIsi .int (.int i) = true := rfl
theorem x_isi_int_str (z : Str) : dIsi .int (.str z) = false := rfl
theorem x_isi_int_lst (o : Bool) (xs : List D) : dIsi .int (.lst o xs) = false := rfl
theorem x_isi_int_tup (xs : List D) : dIsi .int (.tup xs) = false := rfl
theorem x_isi_int_dct (o : Bool) (kvs : List (D × D)) : dIsi .int (.dct o kvs) = false := rfl
theorem x_isi_bool_non : dIsi .bool .non = false := rfl
theorem x_isi_bool_bl (b : Bool) : dIsi .bool (.bl b) = true := rfl
theorem x_isi_bool_int (i : Int) : dIsi .bool (.int i) = false := rfl
theorem x_isi_bool_str (z : Str) : dIsi .bool (.str z) = false := rfl
theorem x_isi_bool_lst (o : Bool) (xs : List D) : dIsi .bool (.lst o xs) = false := rfl
theorem x_isi_bool_tup (xs : List D) : dIsi .bool (.tup xs) = false := rfl
theorem x_isi_bool_dct (o : Bool) (kvs : List (D × D)) : dIsi .bool (.dct o kvs) = false := rfl
theorem x_isi_tuple_non : dIsi .tuple .non = false := rfl
theorem x_isi_tuple_bl (b : Bool) : dIsi .tuple (.bl b) = false := rfl
theorem x_isi_tuple_int (i : Int) : dIsi .tuple (.int i) = false := rfl
theorem x_isi_tuple_str (z : Str) : dIsi .tuple (.str z) = false := rfl
theorem x_isi_tuple_lst (o : Bool) (xs : List D) : dIsi .tuple (.lst o xs) = false := rfl
theorem x_isi_tuple_tup (xs : List D) : dIsi .tuple (.tup xs) = true := rfl
theorem x_isi_tuple_dct (o : Bool) (kvs : List (D × D)) : dIsi .tuple (.dct o kvs) = false := rfl
theorem x_isi_list_non : dIsi .list .non = false := rfl
theorem x_isi_list_bl (b : Bool) : dIsi .list (.bl b) = false := rfl
theorem x_isi_list_int (i : Int) : dIsi .list (.int i) = false := rfl
theorem x_isi_list_str (z : Str) : dIsi .list (.str z) = false := rfl
theorem x_isi_list_lst (o : Bool) (xs : List D) : dIsi .list (.lst o xs) = true := rfl
theorem x_isi_list_tup (xs : List D) : dIsi .list (.tup xs) = false := rfl
theorem x_isi_list_dct (o : Bool) (kvs : List (D × D)) : dIsi .list (.dct o kvs) = false := rfl
theorem x_tru_non : dTruth .non = some false := rfl
theorem x_tru_bl (b : Bool) : dTruth (.bl b) = some b := rfl
theorem x_tru_int (i : Int) : dTruth (.int i) = some (i != 0) := rfl
theorem x_tru_str (z : Str) : dTruth (.str z) = if fits z.length then some ((z.length : Int) != 0) else none := rfl
theorem x_tru_lst (o : Bool) (xs : List D) : dTruth (.lst o xs) = some (!xs.isEmpty) := rfl
theorem x_tru_tup (xs : List D) : dTruth (.tup xs) = some (!xs.isEmpty) := rfl
theorem x_neg (i : Int) : dNeg (.int i) = some (.int (-i)) := rfl
theorem x_sub_lst (o : Bool) (xs : List D) (i : Int) : dSub (.lst o xs) (.int i) = atI xs i := rfl
theorem x_sub_tup (xs : List D) (i : Int) : dSub (.tup xs) (.int i) = atI xs i := rfl
theorem x_sub_str (z : Str) (i : Int) : dSub (.str z) (.int i) = if fits z.length then (atI z.cps.toList i).map fun c => .str ⟨#[c]⟩ else none := rfl
theorem x_sub_dct (o : Bool) (kvs : List (D × D)) (k : D) : dSub (.dct o kvs) k = (dKey k).bind (dFind kvs) := rfl
theorem x_cut_lst (lo hi : Option Int) (o : Bool) (xs : List D) : dCut lo hi (.lst o xs) = some (.lst true (cutL xs lo hi)) := rfl
theorem x_cut_tup (lo hi : Option Int) (xs : List D) : dCut lo hi (.tup xs) = some (.tup (cutL xs lo hi)) := rfl
theorem x_cut_str (lo hi : Option Int) (z : Str) : dCut lo hi (.str z) = if fits z.length then some (.str (cutS z lo hi)) else none := rfl
theorem x_len_str (z : Str) : dLen (.str z) = if fits z.length = true then some (.int z.length) else none := rfl
theorem x_len_lst (o : Bool) (xs : List D) : dLen (.lst o xs) = some (.int xs.length) := rfl
theorem x_len_tup (xs : List D) : dLen (.tup xs) = some (.int xs.length) := rfl
theorem x_len_dct (o : Bool) (kvs : List (D × D)) : dLen (.dct o kvs) = some (.int kvs.length) := rfl
theorem x_int_int (i : Int) : dInt (.int i) = some (.int i) := rfl
theorem x_int_bl (b : Bool) : dInt (.bl b) = some (.int (if b then 1 else 0)) := rfl
theorem x_str_int (i : Int) : dStr (.int i) = if decide (i.natAbs.log2 < 1920) = true then some (.str (toString i)) else none := rfl
theorem x_list_lst (o : Bool) (xs : List D) : dList (.lst o xs) = some (.lst true xs) := rfl
theorem x_list_tup (xs : List D) : dList (.tup xs) = some (.lst true xs) := rfl
theorem x_list_dct (o : Bool) (kvs : List (D × D)) : dList (.dct o kvs) = some (.lst true (kvs.map (·.1))) := rfl
theorem x_tuple_lst (o : Bool) (xs : List D) : dTuple (.lst o xs) = some (.tup xs) := rfl
theorem x_tuple_tup (xs : List D) : dTuple (.tup xs) = some (.tup xs) := rfl
theorem x_max (i j : Int) : dMax (.int i) (.int j) = some (.int (if j > i then j else i)) := rfl
theorem x_min (i j : Int) : dMin (.int i) (.int j) = some (.int (if j < i then j else i)) := rfl
theorem x_add_int (i j : Int) : dBin .add (.int i) (.int j) = some (.int (i + j)) := rfl
theorem x_add_str (x y : Str) : dBin .add (.str x) (.str y) = if fits (x.length + y.length) then some (.str (x ++ y)) else none := rfl
theorem x_add_lst (o p : Bool) (xs ys : List D) : dBin .add (.lst o xs) (.lst p ys) = if fits (xs.length + ys.length) then some (.lst true (xs ++ ys)) else none := rfl
theorem x_add_tup (xs ys : List D) : dBin .add (.tup xs) (.tup ys) = if fits (xs.length + ys.length) then some (.tup (xs ++ ys)) else none := rfl
theorem x_sub_int (i j : Int) : dBin .sub (.int i) (.int j) = some (.int (i - j)) := rfl
theorem x_mul (i j : Int) : dBin .mul (.int i) (.int j) = if i.natAbs.log2 + j.natAbs.log2 < 1000000 then some (.int (i * j)) else none := rfl
theorem x_muls (x : Str) (n : Int) : dBin .mul (.str x) (.int n) = if 0 ≤ n ∧ n ≤ 100000 ∧ x.length * n.toNat ≤ 16000000 then some (.str (repS x n.toNat)) else none := rfl
theorem x_fdiv (i j : Int) : dBin .fdiv (.int i) (.int j) = if 0 < j ∧ j.natAbs.log2 < 9000 then some (.int (i / j)) else none := rfl
theorem x_mod (i j : Int) : dBin .mod (.int i) (.int j) = if 0 < j then some (.int (i % j)) else none := rfl
theorem x_pow (i j : Int) : dBin .pow (.int i) (.int j) = if 0 ≤ j ∧ j ≤ 1000000 ∧ i.natAbs < 2 ^ 64 then some (.int (i ^ j.toNat)) else none := rfl
theorem x_cmp_eq (a b : D) : dCmp .eq a b = dEq a b := rfl
theorem x_cmp_ne (a b : D) : dCmp .ne a b = (dEq a b).map (!·) := rfl
theorem x_cmp_lt (a b : D) : dCmp .lt a b = dLt a b := rfl
theorem x_cmp_le (a b : D) : dCmp .le a b = dLe a b := rfl
theorem x_cmp_gt (a b : D) : dCmp .gt a b = dGt a b := rfl
theorem x_cmp_ge (a b : D) : dCmp .ge a b = dGe a b := rfl
theorem x_cmp_isin (a b : D) : dCmp .isin a b = dIn a b := rfl
theorem x_cmp_notin (a b : D) : dCmp .notin a b = (dIn a b).map (!·) := rfl
theorem x_cmp_is (a b : D) : dCmp .is a b = dIs a b := rfl
theorem x_cmp_isnot (a b : D) : dCmp .isnot a b = (dIs a b).map (!·) := rfl
theorem x_lt_int (i j : Int) : dLt (.int i) (.int j) = some (decide (i < j)) := rfl
theorem x_le_int (i j : Int) : dLe (.int i) (.int j) = some (decide (i ≤ j)) := rfl
theorem x_gt_int (i j : Int) : dGt (.int i) (.int j) = some (decide (j < i)) := rfl
theorem x_ge_int (i j : Int) : dGe (.int i) (.int j) = some (decide (j ≤ i)) := rfl
theorem x_lt_str (x y : Str) : dLt (.str x) (.str y) = some (decide (x.cps.toList < y.cps.toList)) := rfl
theorem x_le_str (x y : Str) : dLe (.str x) (.str y) = some (!decide (y.cps.toList < x.cps.toList)) := rfl
theorem x_is_non : dIs .non .non = some true := rfl
theorem x_is_bl (a b : Bool) : dIs (.bl a) (.bl b) = some (a == b) := rfl
theorem x_is_bl_non (b : Bool) : dIs (.bl b) .non = some false := rfl
theorem x_is_int_non (i : Int) : dIs (.int i) .non = some false := rfl
theorem x_is_str_non (z : Str) : dIs (.str z) .non = some false := rfl
theorem x_is_lst_non (o : Bool) (xs : List D) : dIs (.lst o xs) .non = some false := rfl
theorem x_is_tup_non (xs : List D) : dIs (.tup xs) .non = some false := rfl
theorem x_is_dct_non (o : Bool) (kvs : List (D × D)) : dIs (.dct o kvs) .non = some false := rfl
theorem x_in_lst (x : D) (o : Bool) (xs : List D) : dIn x (.lst o xs) = if shp x && shp (.lst false xs) then some (xs.any fun z => PyData.eqv z.py x.py) else none := rfl
theorem x_in_tup (x : D) (xs : List D) : dIn x (.tup xs) = if shp x && shp (.tup xs) then some (xs.any fun z => PyData.eqv z.py x.py) else none := rfl
theorem x_in_dct (x : D) (o : Bool) (kvs : List (D × D)) : dIn x (.dct o kvs) = (dKey x).map (dHas kvs) := rfl
theorem x_in_str (c s : Str) : dIn (.str c) (.str s) = some (!(Builtin.Str.occurrences s c 0 s.length 1).isEmpty) := rfl
theorem x_wk_lst (o : Bool) (xs : List D) : walked (.lst o xs) = some xs := rfl
theorem x_wk_tup (xs : List D) : walked (.tup xs) = some xs := rfl
theorem x_wk_str (z : Str) : walked (.str z) = some (z.cps.toList.map fun c => .str ⟨#[c]⟩) := rfl
theorem x_li (o : Bool) (xs : List D) : lItems (.lst o xs) = some xs := rfl
theorem x_di_lst (o : Bool) (xs : List D) : dItems (.lst o xs) = some xs := rfl
theorem x_di_tup (xs : List D) : dItems (.tup xs) = some xs := rfl
theorem x_rg1 (b : Int) : rangeDs [.int b] = rangeD 0 b 1 := rfl
theorem x_rg2 (a b : Int) : rangeDs [.int a, .int b] = rangeD a b 1 := rfl
theorem x_rg3 (a b c : Int) : rangeDs [.int a, .int b, .int c] = rangeD a b c := rfl
theorem x_join (s : Str) (o : Bool) (xs : List D) (ys : List Str) (h : strs? xs = some ys) : dJoin s (.lst o xs) = if decide ((ys.map (·.length)).sum + ys.length * s.length ≤ 16777216) = true then some (.str (Txt.join s ys)) else none := by rw [dJoin, h]
theorem x_oi (i : Int) : dInt? (.int i) = some (some i) := rfl
theorem x_db (b : Bool) : dBool (.bl b) = some b := rfl
theorem x_bnm (i : Nat) (d : D) (ρ : Rho) : bindT (.nm i) d ρ = some (ρ.set i (some d)) := rfl
theorem x_btp (is : List Nat) (xs : List D) (ρ : Rho) : bindT (.tp is) (.tup xs) ρ = if xs.length = is.length then some (setAll is xs ρ) else none := rfl
theorem x_dput (i : Int) (v : D) (xs : List D) : dPut (.int i) v (.lst true xs) = (ixN xs.length i).map fun j => .lst true (xs.set j v) := rfl
theorem x_dput_dct (k v : D) (kvs : List (D × D)) : dPut k v (.dct true kvs) = (dKey k).bind fun _ => chk (fits (kvs.length + 1)) (some (.dct true (dSet k v kvs))) := by unfold dPut; cases dKey k <;> rfl
theorem x_key_int (i : Int) : dKey (.int i) = some (.num i) := rfl
theorem x_key_str (z : Str) : dKey (.str z) = some (.text z) := rfl
theorem x_rep_lst (i : Int) (x : D) (xs : List D) : rep1 (.int i) x (.lst true xs) = (ixN xs.length i).map fun j => .lst true (xs.set j x) := rfl
theorem x_rep_tup (i : Int) (x : D) (xs : List D) : rep1 (.int i) x (.tup xs) = (ixN xs.length i).map fun j => .tup (xs.set j x) := rfl
theorem x_rep_dct (k x : D) (kvs : List (D × D)) : rep1 k x (.dct true kvs) = (dKey k).map fun _ => .dct true (dSet k x kvs) := rfl
theorem x_sb1_lst (i : Int) (xs : List D) : sub1 (.int i) (.lst true xs) = atI xs i := rfl
theorem x_sb1_tup (i : Int) (xs : List D) : sub1 (.int i) (.tup xs) = atI xs i := rfl
theorem x_sb1_dct (k : D) (kvs : List (D × D)) : sub1 k (.dct true kvs) = (dKey k).bind (dFind kvs) := rfl
theorem x_app1 (v : D) (xs : List D) : app1 v (.lst true xs) = chk (fits (xs.length + 1)) (some (.lst true (xs ++ [v]))) := rfl
theorem x_eq_int (i j : Int) : dEq (.int i) (.int j) = some (i == j) := rfl
theorem x_eq_bl (i j : Bool) : dEq (.bl i) (.bl j) = some (i == j) := rfl
theorem x_pure1 (b : Bool) (α : Type) (k : Option α) : chk b k = if b = true then k else none := rfl
def frzFrom (vs : List Nat) : Nat → Rho → Rho
  | _, [] => []
  | i, o :: r => (if vs.elem i = true then o.map D.frz else o) :: frzFrom vs (i + 1) r
theorem frzFrom_eq (vs : List Nat) : ∀ (ρ : Rho) (i : Nat), frzFrom vs i ρ = ρ.mapIdx fun j o => if (j + i) ∈ vs then o.map D.frz else o
  | [], i => rfl
  | o :: r, i => by
    rw [frzFrom, frzFrom_eq vs r (i + 1), List.mapIdx_cons]
    congr 1
    · by_cases h : i ∈ vs
      · simp [List.elem_eq_mem, h]
      · simp [List.elem_eq_mem, h]
    · congr 1
      funext j o
      rw [show j + (i + 1) = j + 1 + i by omega]
theorem frzAt_from (vs : List Nat) (ρ : Rho) : frzAt vs ρ = frzFrom vs 0 ρ := by
  rw [frzFrom_eq]; rfl
def outsGo (io : List Nat) (ρ : Rho) : Nat → Nat → List (Option D)
  | _, 0 => []
  | i, n + 1 => (if io.elem i = true then get0 ρ i else none) :: outsGo io ρ (i + 1) n
theorem outs_from (n : Nat) (io : List Nat) (ρ : Rho) : outsOf n io ρ = outsGo io ρ 0 n := by
  have key : ∀ (n i : Nat), outsGo io ρ i n = (List.range n).map fun j => if (i + j) ∈ io then get0 ρ (i + j) else none := by
    intro n
    induction n with
    | zero => intro i; rfl
    | succ n ih =>
      intro i
      rw [outsGo, ih, List.range_succ_eq_map, List.map_cons, List.map_map]
      congr 1
      · simp [List.elem_eq_mem]
      · congr 1
        funext j
        show _ = if (i + (j + 1)) ∈ io then _ else _
        rw [show i + (j + 1) = i + 1 + j from by omega]
  rw [key]
  unfold outsOf
  simp
theorem dFind_dSet {k v : D} {n : NestedKey} : ∀ (kvs : List (D × D)), dFind (dSet k v kvs) n = if k.nk = some n then some v else dFind kvs n
  | [] => by
    by_cases h : k.nk = some n <;> simp [dSet, dFind, h]
  | p :: r => by
    rw [dSet]
    by_cases hp : p.1.nk = k.nk
    · rw [if_pos (by simpa using hp)]
      by_cases h : k.nk = some n
      · simp [dFind, hp, h]
      · have h2 : ¬ p.1.nk = some n := by rw [hp]; exact h
        simp [dFind, h, h2]
    · rw [if_neg (by simpa using hp)]
      have ih := dFind_dSet (k := k) (v := v) (n := n) r
      unfold dFind at ih ⊢
      by_cases h2 : p.1.nk = some n
      · have h : ¬ k.nk = some n := fun z => hp (h2.trans z.symm)
        simp [h, h2]
      · rw [List.find?_cons, decide_eq_false h2]
        simp only
        rw [ih, List.find?_cons, decide_eq_false h2]
theorem shp_str (x : Str) : shp (.str x) = PyData.strOk x := by
  show (PyData.strOk x && decide (0 ≤ 64)) = _
  simp
theorem dEq_str {x y : Str} (hx : PyData.strOk x = true) (hy : PyData.strOk y = true) : dEq (.str x) (.str y) = some (x == y) := by
  unfold dEq
  rw [shp_str, shp_str, hx, hy]; rfl
theorem compL_map {tg : Tgt} {cond : Rho → Option (Bool × Rho)} {elt : Rho → Option (D × Rho)} {pur : Bool} {ρ : Rho} (t : D → Bool) (f : D → D) : ∀ {ds : List D}, (∀ d ∈ ds, ∃ ρ1, bindT tg d ρ = some ρ1 ∧ cond ρ1 = some (t d, ρ1) ∧ (t d = true → elt ρ1 = some (f d, ρ1) ∧ (pur || (f d).clean) = true) ∧ kill tg.slots ρ1 = ρ) →
    compL tg cond elt pur ds ρ = some ((ds.filter t).map f, ρ)
  | [], _ => rfl
  | d :: ds, h => by
    obtain ⟨ρ1, h1, h2, h3, h4⟩ := h d List.mem_cons_self
    have ih := compL_map t f (ds := ds) fun x hx => h x (List.mem_cons_of_mem _ hx)
    unfold compL
    rw [h1]
    simp only [Option.bind_some]
    rw [h2]
    simp only [Option.bind_some]
    cases e : t d with
    | false =>
      rw [if_neg (by simp), h4, ih, List.filter_cons_of_neg (by simp [e])]
    | true =>
      obtain ⟨e1, e2⟩ := h3 e
      rw [if_pos rfl, e1]
      simp only [Option.bind_some]
      rw [e2, h4, ih, List.filter_cons_of_pos e]
      rfl
/-- a walk that ends early, or goes through -/
theorem loopL_all {tg : Tgt} {b : Rho → Option Out} (P : Rho → Prop) (t : D → Bool) (r : D) : ∀ {ds : List D} {ρ : Rho}, P ρ → (∀ ρ d, P ρ → d ∈ ds → ∃ ρ1 ρ2, bindT tg d ρ = some ρ1 ∧ P ρ2 ∧ b ρ1 = some (if t d = true then .nx ρ2 else .rt r ρ2)) →
    ∃ ρ', P ρ' ∧ loopL tg b ds ρ = some (if ds.all t = true then .nx ρ' else .rt r ρ')
  | [], ρ, p, _ => ⟨ρ, p, rfl⟩
  | d :: ds, ρ, p, h => by
    obtain ⟨ρ1, ρ2, h1, h2, h3⟩ := h ρ d p List.mem_cons_self
    unfold loopL
    rw [h1]
    simp only [Option.bind_some]
    rw [h3]
    cases e : t d with
    | false => exact ⟨ρ2, h2, by simp [List.all_cons, e]⟩
    | true =>
      obtain ⟨ρ', k1, k2⟩ := loopL_all P t r (ds := ds) h2 fun ρ x q hx => h ρ x q (List.mem_cons_of_mem _ hx)
      refine ⟨ρ', k1, ?_⟩
      simp only [if_true, Option.bind_some, List.all_cons, e, Bool.true_and]
      exact k2
end Eng
namespace Lib
open PySem PySem.Spec PyProof.Rows L2 RT Eng
/-! ### is_name, and texts -/
def f_is_name : Fd := ⟨"is_name", 1, [], ["thing", "sign"],
 (.cons (.ife (.or (.cons (.not (.isi (.var 0) .str)) (.cons (.cmp .eq (.blt .len (.cons (.var 0) .nil)) (.con (.int 0))) (.cons (.cmp .gt (.blt .len (.cons (.var 0) .nil)) (.glo "MOST_LETTERS")) (.cons (.cmp .isin (.var 0) (.glo "KEPT")) .nil))))) (.cons (.ret (.con (.bl false)))
 .nil) .nil)
 (.cons (.loop (.nm 1) (.of (.var 0)) (.cons (.ife (.cmp .notin (.var 1) (.glo "LETTERS")) (.cons (.ret (.con (.bl false)))
 .nil) .nil)
 .nil))
 (.cons (.ret (.con (.bl true)))
 .nil)))⟩
theorem isn_other (S : Sem0) (d : D) (h : ∀ x, d ≠ .str x) : runF S f_is_name [d] = some (.bl false, [none]) := by
  have hi : dIsi .str d.frz = false := by cases d <;> first | rfl | exact absurd rfl (h _)
  simp only [f_is_name, hi, runF, evSs, evS, evT, evE, evAnd, evOr, evAndE, evOrE, evEs, evO, evC, evI, env0, endF, one, two, three, Eng.many, meth, chk, putD, appD, isLst, Eng.kept, Eng.kill, bindT, setAll, Tgt.slots, Exs.isNil, Ex.pure, Exs.pure, Ox.pure, Itr.pure, Ex.vars, Exs.vars, Ox.vars, Itr.vars, popD, popAtD, deepD, getP, putP, evP, callIO, ioArgs, ioSlot, ioOk, ioOut, ioV, ioClean, outs_from, outsGo, List.lookup_cons, List.lookup_nil, List.any_cons, List.any_nil, List.all_cons, List.all_nil, Exs.toList, Ex.isVar, frzE, cleanE, D.clean, cleanL, D.frz, frzL, frz_frz, frzL_frz, tru, get0_cons_zero, get0_cons_succ, get0_nil, List.set_cons_zero, List.set_cons_succ, frzAt_from, frzFrom, List.elem_cons, List.elem_nil, Nat.reduceBEq, List.length_cons, List.length_nil, List.map_cons, List.map_nil, List.replicate_succ, List.replicate_zero, List.cons_append, List.nil_append, List.append_nil, Option.map_some, Option.map_none, Option.bind_some, Option.bind_none, Nat.reduceSub, Nat.reduceAdd, List.range_eq_nil, Bool.not_false, Bool.not_true, Bool.or_true, Bool.true_or, Bool.or_false, Bool.false_or, Bool.and_true, Bool.true_and, Bool.and_false, Bool.false_and, Bool.not_not, Bool.false_eq_true, if_true, if_false, reduceIte, reduceCtorEq, x_blt_len, x_blt_int, x_blt_str, x_blt_list, x_blt_tuple, x_blt_max, x_blt_min, x_blt_sorted, x_sorted, x_mth_join, x_mth_upper, x_mth_index, x_isi_str_non, x_isi_str_bl, x_isi_str_int, x_isi_str_str, x_isi_str_lst, x_isi_str_tup, x_isi_str_dct, x_isi_int_non, x_isi_int_bl, x_isi_int_int, x_isi_int_str, x_isi_int_lst, x_isi_int_tup, x_isi_int_dct, x_isi_bool_non, x_isi_bool_bl, x_isi_bool_int, x_isi_bool_str, x_isi_bool_lst, x_isi_bool_tup, x_isi_bool_dct, x_isi_tuple_non, x_isi_tuple_bl, x_isi_tuple_int, x_isi_tuple_str, x_isi_tuple_lst, x_isi_tuple_tup, x_isi_tuple_dct, x_isi_list_non, x_isi_list_bl, x_isi_list_int, x_isi_list_str, x_isi_list_lst, x_isi_list_tup, x_isi_list_dct, x_tru_non, x_tru_bl, x_tru_int, x_tru_str, x_tru_lst, x_tru_tup, x_neg, x_sub_lst, x_sub_tup, x_sub_str, x_sub_dct, x_cut_lst, x_cut_tup, x_cut_str, x_len_str, x_len_lst, x_len_tup, x_len_dct, x_int_int, x_int_bl, x_str_int, x_list_lst, x_list_tup, x_list_dct, x_tuple_lst, x_tuple_tup, x_max, x_min, x_add_int, x_add_str, x_add_lst, x_add_tup, x_sub_int, x_mul, x_fdiv, x_mod, x_pow, x_cmp_eq, x_cmp_ne, x_cmp_lt, x_cmp_le, x_cmp_gt, x_cmp_ge, x_cmp_isin, x_cmp_notin, x_cmp_is, x_cmp_isnot, x_lt_int, x_le_int, x_gt_int, x_ge_int, x_lt_str, x_le_str, x_is_non, x_is_bl, x_is_bl_non, x_is_int_non, x_is_str_non, x_is_lst_non, x_is_tup_non, x_is_dct_non, x_in_lst, x_in_tup, x_in_dct, x_in_str, x_wk_lst, x_wk_tup, x_wk_str, x_li, x_di_lst, x_di_tup, x_rg1, x_rg2, x_rg3, x_oi, x_db, x_bnm, x_btp, x_dput, x_dput_dct, x_key_int, x_key_str, x_rep_lst, x_rep_tup, x_rep_dct, x_sb1_lst, x_sb1_tup, x_sb1_dct, x_app1, x_eq_int, x_eq_bl]
def kp1 : List D := [.str "pair", .str "first", .str "second", .str "none", .str "tell", .str "back"]
def kp2 : List D := [.str "either", .str "or", .str "again", .str "end", .str "do", .str "part"]
def abc : Str := "abcdefghijklmnopqrstuvwxyz"
structure GlOk (S : Sem0) : Prop where
  g1 : S.glob "MOST_LETTERS" = some (.int 8)
  g2 : S.glob "KEPT" = some (.tup (kp1 ++ kp2))
  g3 : S.glob "LETTERS" = some (.str abc)
def low (c : Nat) : Bool := decide (97 ≤ c ∧ c ≤ 122)
def lowD : D → Bool
  | .str z => low (z.cps.toList.headD 0)
  | _ => false
def has (ks : List D) (x : Str) : Bool := ks.any fun z => PyData.eqv z.py (D.str x).py
def okN (x : Str) : Bool := !(decide (x.length = 0)) && (!(decide (8 < x.length)) && (!(has kp1 x) && (!(has kp2 x) && x.cps.toList.all low)))
theorem shp1 : shp (.tup kp1) = true := by decide +kernel
theorem shp2 : shp (.tup kp2) = true := by decide +kernel
theorem shp12 : shp (.tup (kp1 ++ kp2)) = true := by decide +kernel
theorem in_abc (c : Nat) : (!(Builtin.Str.occurrences abc ⟨#[c]⟩ 0 abc.length 1).isEmpty) = low c := by
  have e : abc = SX.S [97, 98, 99, 100, 101, 102, 103, 104, 105, 106, 107, 108, 109, 110, 111, 112, 113, 114, 115, 116, 117, 118, 119, 120, 121, 122] := by decide +kernel
  rw [e]
  have := SX.in_one [97, 98, 99, 100, 101, 102, 103, 104, 105, 106, 107, 108, 109, 110, 111, 112, 113, 114, 115, 116, 117, 118, 119, 120, 121, 122] c
  refine this.trans ?_
  unfold low
  rw [decide_eq_decide]
  simp only [List.mem_cons, List.not_mem_nil, or_false]
  omega
theorem all_low (x : Str) : ((x.cps.toList.map fun c => D.str ⟨#[c]⟩).all lowD) = x.cps.toList.all low := by
  rw [List.all_map]
  rfl
theorem len0 (n : Nat) : ((n : Int) == 0) = decide (n = 0) := by
  cases h : decide (n = 0) with
  | true => have := of_decide_eq_true h; subst this; rfl
  | false =>
    have := of_decide_eq_false h
    simp; omega
theorem len8 (n : Nat) : decide ((8 : Int) < (n : Int)) = decide (8 < n) := by rw [decide_eq_decide]; omega
theorem len1 (n : Nat) : decide ((n : Int) < 1) = decide (n = 0) := by rw [decide_eq_decide]; omega
theorem isn_str (S : Sem0) (G : GlOk S) (x : Str) (hx : fits x.length = true) (ho : PyData.strOk x = true) : runF S f_is_name [.str x] = some (.bl (okN x), [none]) := by
  have hs : shp (.str x) = true := (shp_str x).trans ho
  have hk : ((kp1 ++ kp2).any fun z => z.py.eqv (D.str x).py) = (has kp1 x || has kp2 x) := List.any_append
  simp only [f_is_name, G.g1, G.g2, G.g3, hx, hs, shp12, hk, len0, len8, runF, evSs, evS, evT, evE, evAnd, evOr, evAndE, evOrE, evEs, evO, evC, evI, env0, endF, one, two, three, Eng.many, meth, chk, putD, appD, isLst, Eng.kept, Eng.kill, bindT, setAll, Tgt.slots, Exs.isNil, Ex.pure, Exs.pure, Ox.pure, Itr.pure, Ex.vars, Exs.vars, Ox.vars, Itr.vars, popD, popAtD, deepD, getP, putP, evP, callIO, ioArgs, ioSlot, ioOk, ioOut, ioV, ioClean, outs_from, outsGo, List.lookup_cons, List.lookup_nil, List.any_cons, List.any_nil, List.all_cons, List.all_nil, Exs.toList, Ex.isVar, frzE, cleanE, D.clean, cleanL, D.frz, frzL, frz_frz, frzL_frz, tru, get0_cons_zero, get0_cons_succ, get0_nil, List.set_cons_zero, List.set_cons_succ, frzAt_from, frzFrom, List.elem_cons, List.elem_nil, Nat.reduceBEq, List.length_cons, List.length_nil, List.map_cons, List.map_nil, List.replicate_succ, List.replicate_zero, List.cons_append, List.nil_append, List.append_nil, Option.map_some, Option.map_none, Option.bind_some, Option.bind_none, Nat.reduceSub, Nat.reduceAdd, List.range_eq_nil, Bool.not_false, Bool.not_true, Bool.or_true, Bool.true_or, Bool.or_false, Bool.false_or, Bool.and_true, Bool.true_and, Bool.and_false, Bool.false_and, Bool.not_not, Bool.false_eq_true, if_true, if_false, reduceIte, reduceCtorEq, x_blt_len, x_blt_int, x_blt_str, x_blt_list, x_blt_tuple, x_blt_max, x_blt_min, x_blt_sorted, x_sorted, x_mth_join, x_mth_upper, x_mth_index, x_isi_str_non, x_isi_str_bl, x_isi_str_int, x_isi_str_str, x_isi_str_lst, x_isi_str_tup, x_isi_str_dct, x_isi_int_non, x_isi_int_bl, x_isi_int_int, x_isi_int_str, x_isi_int_lst, x_isi_int_tup, x_isi_int_dct, x_isi_bool_non, x_isi_bool_bl, x_isi_bool_int, x_isi_bool_str, x_isi_bool_lst, x_isi_bool_tup, x_isi_bool_dct, x_isi_tuple_non, x_isi_tuple_bl, x_isi_tuple_int, x_isi_tuple_str, x_isi_tuple_lst, x_isi_tuple_tup, x_isi_tuple_dct, x_isi_list_non, x_isi_list_bl, x_isi_list_int, x_isi_list_str, x_isi_list_lst, x_isi_list_tup, x_isi_list_dct, x_tru_non, x_tru_bl, x_tru_int, x_tru_str, x_tru_lst, x_tru_tup, x_neg, x_sub_lst, x_sub_tup, x_sub_str, x_sub_dct, x_cut_lst, x_cut_tup, x_cut_str, x_len_str, x_len_lst, x_len_tup, x_len_dct, x_int_int, x_int_bl, x_str_int, x_list_lst, x_list_tup, x_list_dct, x_tuple_lst, x_tuple_tup, x_max, x_min, x_add_int, x_add_str, x_add_lst, x_add_tup, x_sub_int, x_mul, x_fdiv, x_mod, x_pow, x_cmp_eq, x_cmp_ne, x_cmp_lt, x_cmp_le, x_cmp_gt, x_cmp_ge, x_cmp_isin, x_cmp_notin, x_cmp_is, x_cmp_isnot, x_lt_int, x_le_int, x_gt_int, x_ge_int, x_lt_str, x_le_str, x_is_non, x_is_bl, x_is_bl_non, x_is_int_non, x_is_str_non, x_is_lst_non, x_is_tup_non, x_is_dct_non, x_in_lst, x_in_tup, x_in_dct, x_in_str, x_wk_lst, x_wk_tup, x_wk_str, x_li, x_di_lst, x_di_tup, x_rg1, x_rg2, x_rg3, x_oi, x_db, x_bnm, x_btp, x_dput, x_dput_dct, x_key_int, x_key_str, x_rep_lst, x_rep_tup, x_rep_dct, x_sb1_lst, x_sb1_tup, x_sb1_dct, x_app1, x_eq_int, x_eq_bl]
  unfold okN
  cases h1 : decide (x.length = 0) with
  | true => simp only [h1, runF, evSs, evS, evT, evE, evAnd, evOr, evAndE, evOrE, evEs, evO, evC, evI, env0, endF, one, two, three, Eng.many, meth, chk, putD, appD, isLst, Eng.kept, Eng.kill, bindT, setAll, Tgt.slots, Exs.isNil, Ex.pure, Exs.pure, Ox.pure, Itr.pure, Ex.vars, Exs.vars, Ox.vars, Itr.vars, popD, popAtD, deepD, getP, putP, evP, callIO, ioArgs, ioSlot, ioOk, ioOut, ioV, ioClean, outs_from, outsGo, List.lookup_cons, List.lookup_nil, List.any_cons, List.any_nil, List.all_cons, List.all_nil, Exs.toList, Ex.isVar, frzE, cleanE, D.clean, cleanL, D.frz, frzL, frz_frz, frzL_frz, tru, get0_cons_zero, get0_cons_succ, get0_nil, List.set_cons_zero, List.set_cons_succ, frzAt_from, frzFrom, List.elem_cons, List.elem_nil, Nat.reduceBEq, List.length_cons, List.length_nil, List.map_cons, List.map_nil, List.replicate_succ, List.replicate_zero, List.cons_append, List.nil_append, List.append_nil, Option.map_some, Option.map_none, Option.bind_some, Option.bind_none, Nat.reduceSub, Nat.reduceAdd, List.range_eq_nil, Bool.not_false, Bool.not_true, Bool.or_true, Bool.true_or, Bool.or_false, Bool.false_or, Bool.and_true, Bool.true_and, Bool.and_false, Bool.false_and, Bool.not_not, Bool.false_eq_true, if_true, if_false, reduceIte, reduceCtorEq, x_blt_len, x_blt_int, x_blt_str, x_blt_list, x_blt_tuple, x_blt_max, x_blt_min, x_blt_sorted, x_sorted, x_mth_join, x_mth_upper, x_mth_index, x_isi_str_non, x_isi_str_bl, x_isi_str_int, x_isi_str_str, x_isi_str_lst, x_isi_str_tup, x_isi_str_dct, x_isi_int_non, x_isi_int_bl, x_isi_int_int, x_isi_int_str, x_isi_int_lst, x_isi_int_tup, x_isi_int_dct, x_isi_bool_non, x_isi_bool_bl, x_isi_bool_int, x_isi_bool_str, x_isi_bool_lst, x_isi_bool_tup, x_isi_bool_dct, x_isi_tuple_non, x_isi_tuple_bl, x_isi_tuple_int, x_isi_tuple_str, x_isi_tuple_lst, x_isi_tuple_tup, x_isi_tuple_dct, x_isi_list_non, x_isi_list_bl, x_isi_list_int, x_isi_list_str, x_isi_list_lst, x_isi_list_tup, x_isi_list_dct, x_tru_non, x_tru_bl, x_tru_int, x_tru_str, x_tru_lst, x_tru_tup, x_neg, x_sub_lst, x_sub_tup, x_sub_str, x_sub_dct, x_cut_lst, x_cut_tup, x_cut_str, x_len_str, x_len_lst, x_len_tup, x_len_dct, x_int_int, x_int_bl, x_str_int, x_list_lst, x_list_tup, x_list_dct, x_tuple_lst, x_tuple_tup, x_max, x_min, x_add_int, x_add_str, x_add_lst, x_add_tup, x_sub_int, x_mul, x_fdiv, x_mod, x_pow, x_cmp_eq, x_cmp_ne, x_cmp_lt, x_cmp_le, x_cmp_gt, x_cmp_ge, x_cmp_isin, x_cmp_notin, x_cmp_is, x_cmp_isnot, x_lt_int, x_le_int, x_gt_int, x_ge_int, x_lt_str, x_le_str, x_is_non, x_is_bl, x_is_bl_non, x_is_int_non, x_is_str_non, x_is_lst_non, x_is_tup_non, x_is_dct_non, x_in_lst, x_in_tup, x_in_dct, x_in_str, x_wk_lst, x_wk_tup, x_wk_str, x_li, x_di_lst, x_di_tup, x_rg1, x_rg2, x_rg3, x_oi, x_db, x_bnm, x_btp, x_dput, x_dput_dct, x_key_int, x_key_str, x_rep_lst, x_rep_tup, x_rep_dct, x_sb1_lst, x_sb1_tup, x_sb1_dct, x_app1, x_eq_int, x_eq_bl]
  | false =>
    have fz : frzL (kp1 ++ kp2) = kp1 ++ kp2 := rfl
    simp only [h1, hx, fz, shp12, hk, runF, evSs, evS, evT, evE, evAnd, evOr, evAndE, evOrE, evEs, evO, evC, evI, env0, endF, one, two, three, Eng.many, meth, chk, putD, appD, isLst, Eng.kept, Eng.kill, bindT, setAll, Tgt.slots, Exs.isNil, Ex.pure, Exs.pure, Ox.pure, Itr.pure, Ex.vars, Exs.vars, Ox.vars, Itr.vars, popD, popAtD, deepD, getP, putP, evP, callIO, ioArgs, ioSlot, ioOk, ioOut, ioV, ioClean, outs_from, outsGo, List.lookup_cons, List.lookup_nil, List.any_cons, List.any_nil, List.all_cons, List.all_nil, Exs.toList, Ex.isVar, frzE, cleanE, D.clean, cleanL, D.frz, frzL, frz_frz, frzL_frz, tru, get0_cons_zero, get0_cons_succ, get0_nil, List.set_cons_zero, List.set_cons_succ, frzAt_from, frzFrom, List.elem_cons, List.elem_nil, Nat.reduceBEq, List.length_cons, List.length_nil, List.map_cons, List.map_nil, List.replicate_succ, List.replicate_zero, List.cons_append, List.nil_append, List.append_nil, Option.map_some, Option.map_none, Option.bind_some, Option.bind_none, Nat.reduceSub, Nat.reduceAdd, List.range_eq_nil, Bool.not_false, Bool.not_true, Bool.or_true, Bool.true_or, Bool.or_false, Bool.false_or, Bool.and_true, Bool.true_and, Bool.and_false, Bool.false_and, Bool.not_not, Bool.false_eq_true, if_true, if_false, reduceIte, reduceCtorEq, x_blt_len, x_blt_int, x_blt_str, x_blt_list, x_blt_tuple, x_blt_max, x_blt_min, x_blt_sorted, x_sorted, x_mth_join, x_mth_upper, x_mth_index, x_isi_str_non, x_isi_str_bl, x_isi_str_int, x_isi_str_str, x_isi_str_lst, x_isi_str_tup, x_isi_str_dct, x_isi_int_non, x_isi_int_bl, x_isi_int_int, x_isi_int_str, x_isi_int_lst, x_isi_int_tup, x_isi_int_dct, x_isi_bool_non, x_isi_bool_bl, x_isi_bool_int, x_isi_bool_str, x_isi_bool_lst, x_isi_bool_tup, x_isi_bool_dct, x_isi_tuple_non, x_isi_tuple_bl, x_isi_tuple_int, x_isi_tuple_str, x_isi_tuple_lst, x_isi_tuple_tup, x_isi_tuple_dct, x_isi_list_non, x_isi_list_bl, x_isi_list_int, x_isi_list_str, x_isi_list_lst, x_isi_list_tup, x_isi_list_dct, x_tru_non, x_tru_bl, x_tru_int, x_tru_str, x_tru_lst, x_tru_tup, x_neg, x_sub_lst, x_sub_tup, x_sub_str, x_sub_dct, x_cut_lst, x_cut_tup, x_cut_str, x_len_str, x_len_lst, x_len_tup, x_len_dct, x_int_int, x_int_bl, x_str_int, x_list_lst, x_list_tup, x_list_dct, x_tuple_lst, x_tuple_tup, x_max, x_min, x_add_int, x_add_str, x_add_lst, x_add_tup, x_sub_int, x_mul, x_fdiv, x_mod, x_pow, x_cmp_eq, x_cmp_ne, x_cmp_lt, x_cmp_le, x_cmp_gt, x_cmp_ge, x_cmp_isin, x_cmp_notin, x_cmp_is, x_cmp_isnot, x_lt_int, x_le_int, x_gt_int, x_ge_int, x_lt_str, x_le_str, x_is_non, x_is_bl, x_is_bl_non, x_is_int_non, x_is_str_non, x_is_lst_non, x_is_tup_non, x_is_dct_non, x_in_lst, x_in_tup, x_in_dct, x_in_str, x_wk_lst, x_wk_tup, x_wk_str, x_li, x_di_lst, x_di_tup, x_rg1, x_rg2, x_rg3, x_oi, x_db, x_bnm, x_btp, x_dput, x_dput_dct, x_key_int, x_key_str, x_rep_lst, x_rep_tup, x_rep_dct, x_sb1_lst, x_sb1_tup, x_sb1_dct, x_app1, x_eq_int, x_eq_bl]
    cases h2 : decide (8 < x.length) with
    | true => simp only [h2, runF, evSs, evS, evT, evE, evAnd, evOr, evAndE, evOrE, evEs, evO, evC, evI, env0, endF, one, two, three, Eng.many, meth, chk, putD, appD, isLst, Eng.kept, Eng.kill, bindT, setAll, Tgt.slots, Exs.isNil, Ex.pure, Exs.pure, Ox.pure, Itr.pure, Ex.vars, Exs.vars, Ox.vars, Itr.vars, popD, popAtD, deepD, getP, putP, evP, callIO, ioArgs, ioSlot, ioOk, ioOut, ioV, ioClean, outs_from, outsGo, List.lookup_cons, List.lookup_nil, List.any_cons, List.any_nil, List.all_cons, List.all_nil, Exs.toList, Ex.isVar, frzE, cleanE, D.clean, cleanL, D.frz, frzL, frz_frz, frzL_frz, tru, get0_cons_zero, get0_cons_succ, get0_nil, List.set_cons_zero, List.set_cons_succ, frzAt_from, frzFrom, List.elem_cons, List.elem_nil, Nat.reduceBEq, List.length_cons, List.length_nil, List.map_cons, List.map_nil, List.replicate_succ, List.replicate_zero, List.cons_append, List.nil_append, List.append_nil, Option.map_some, Option.map_none, Option.bind_some, Option.bind_none, Nat.reduceSub, Nat.reduceAdd, List.range_eq_nil, Bool.not_false, Bool.not_true, Bool.or_true, Bool.true_or, Bool.or_false, Bool.false_or, Bool.and_true, Bool.true_and, Bool.and_false, Bool.false_and, Bool.not_not, Bool.false_eq_true, if_true, if_false, reduceIte, reduceCtorEq, x_blt_len, x_blt_int, x_blt_str, x_blt_list, x_blt_tuple, x_blt_max, x_blt_min, x_blt_sorted, x_sorted, x_mth_join, x_mth_upper, x_mth_index, x_isi_str_non, x_isi_str_bl, x_isi_str_int, x_isi_str_str, x_isi_str_lst, x_isi_str_tup, x_isi_str_dct, x_isi_int_non, x_isi_int_bl, x_isi_int_int, x_isi_int_str, x_isi_int_lst, x_isi_int_tup, x_isi_int_dct, x_isi_bool_non, x_isi_bool_bl, x_isi_bool_int, x_isi_bool_str, x_isi_bool_lst, x_isi_bool_tup, x_isi_bool_dct, x_isi_tuple_non, x_isi_tuple_bl, x_isi_tuple_int, x_isi_tuple_str, x_isi_tuple_lst, x_isi_tuple_tup, x_isi_tuple_dct, x_isi_list_non, x_isi_list_bl, x_isi_list_int, x_isi_list_str, x_isi_list_lst, x_isi_list_tup, x_isi_list_dct, x_tru_non, x_tru_bl, x_tru_int, x_tru_str, x_tru_lst, x_tru_tup, x_neg, x_sub_lst, x_sub_tup, x_sub_str, x_sub_dct, x_cut_lst, x_cut_tup, x_cut_str, x_len_str, x_len_lst, x_len_tup, x_len_dct, x_int_int, x_int_bl, x_str_int, x_list_lst, x_list_tup, x_list_dct, x_tuple_lst, x_tuple_tup, x_max, x_min, x_add_int, x_add_str, x_add_lst, x_add_tup, x_sub_int, x_mul, x_fdiv, x_mod, x_pow, x_cmp_eq, x_cmp_ne, x_cmp_lt, x_cmp_le, x_cmp_gt, x_cmp_ge, x_cmp_isin, x_cmp_notin, x_cmp_is, x_cmp_isnot, x_lt_int, x_le_int, x_gt_int, x_ge_int, x_lt_str, x_le_str, x_is_non, x_is_bl, x_is_bl_non, x_is_int_non, x_is_str_non, x_is_lst_non, x_is_tup_non, x_is_dct_non, x_in_lst, x_in_tup, x_in_dct, x_in_str, x_wk_lst, x_wk_tup, x_wk_str, x_li, x_di_lst, x_di_tup, x_rg1, x_rg2, x_rg3, x_oi, x_db, x_bnm, x_btp, x_dput, x_dput_dct, x_key_int, x_key_str, x_rep_lst, x_rep_tup, x_rep_dct, x_sb1_lst, x_sb1_tup, x_sb1_dct, x_app1, x_eq_int, x_eq_bl]
    | false =>
      simp only [h2, runF, evSs, evS, evT, evE, evAnd, evOr, evAndE, evOrE, evEs, evO, evC, evI, env0, endF, one, two, three, Eng.many, meth, chk, putD, appD, isLst, Eng.kept, Eng.kill, bindT, setAll, Tgt.slots, Exs.isNil, Ex.pure, Exs.pure, Ox.pure, Itr.pure, Ex.vars, Exs.vars, Ox.vars, Itr.vars, popD, popAtD, deepD, getP, putP, evP, callIO, ioArgs, ioSlot, ioOk, ioOut, ioV, ioClean, outs_from, outsGo, List.lookup_cons, List.lookup_nil, List.any_cons, List.any_nil, List.all_cons, List.all_nil, Exs.toList, Ex.isVar, frzE, cleanE, D.clean, cleanL, D.frz, frzL, frz_frz, frzL_frz, tru, get0_cons_zero, get0_cons_succ, get0_nil, List.set_cons_zero, List.set_cons_succ, frzAt_from, frzFrom, List.elem_cons, List.elem_nil, Nat.reduceBEq, List.length_cons, List.length_nil, List.map_cons, List.map_nil, List.replicate_succ, List.replicate_zero, List.cons_append, List.nil_append, List.append_nil, Option.map_some, Option.map_none, Option.bind_some, Option.bind_none, Nat.reduceSub, Nat.reduceAdd, List.range_eq_nil, Bool.not_false, Bool.not_true, Bool.or_true, Bool.true_or, Bool.or_false, Bool.false_or, Bool.and_true, Bool.true_and, Bool.and_false, Bool.false_and, Bool.not_not, Bool.false_eq_true, if_true, if_false, reduceIte, reduceCtorEq, x_blt_len, x_blt_int, x_blt_str, x_blt_list, x_blt_tuple, x_blt_max, x_blt_min, x_blt_sorted, x_sorted, x_mth_join, x_mth_upper, x_mth_index, x_isi_str_non, x_isi_str_bl, x_isi_str_int, x_isi_str_str, x_isi_str_lst, x_isi_str_tup, x_isi_str_dct, x_isi_int_non, x_isi_int_bl, x_isi_int_int, x_isi_int_str, x_isi_int_lst, x_isi_int_tup, x_isi_int_dct, x_isi_bool_non, x_isi_bool_bl, x_isi_bool_int, x_isi_bool_str, x_isi_bool_lst, x_isi_bool_tup, x_isi_bool_dct, x_isi_tuple_non, x_isi_tuple_bl, x_isi_tuple_int, x_isi_tuple_str, x_isi_tuple_lst, x_isi_tuple_tup, x_isi_tuple_dct, x_isi_list_non, x_isi_list_bl, x_isi_list_int, x_isi_list_str, x_isi_list_lst, x_isi_list_tup, x_isi_list_dct, x_tru_non, x_tru_bl, x_tru_int, x_tru_str, x_tru_lst, x_tru_tup, x_neg, x_sub_lst, x_sub_tup, x_sub_str, x_sub_dct, x_cut_lst, x_cut_tup, x_cut_str, x_len_str, x_len_lst, x_len_tup, x_len_dct, x_int_int, x_int_bl, x_str_int, x_list_lst, x_list_tup, x_list_dct, x_tuple_lst, x_tuple_tup, x_max, x_min, x_add_int, x_add_str, x_add_lst, x_add_tup, x_sub_int, x_mul, x_fdiv, x_mod, x_pow, x_cmp_eq, x_cmp_ne, x_cmp_lt, x_cmp_le, x_cmp_gt, x_cmp_ge, x_cmp_isin, x_cmp_notin, x_cmp_is, x_cmp_isnot, x_lt_int, x_le_int, x_gt_int, x_ge_int, x_lt_str, x_le_str, x_is_non, x_is_bl, x_is_bl_non, x_is_int_non, x_is_str_non, x_is_lst_non, x_is_tup_non, x_is_dct_non, x_in_lst, x_in_tup, x_in_dct, x_in_str, x_wk_lst, x_wk_tup, x_wk_str, x_li, x_di_lst, x_di_tup, x_rg1, x_rg2, x_rg3, x_oi, x_db, x_bnm, x_btp, x_dput, x_dput_dct, x_key_int, x_key_str, x_rep_lst, x_rep_tup, x_rep_dct, x_sb1_lst, x_sb1_tup, x_sb1_dct, x_app1, x_eq_int, x_eq_bl]
      cases h3 : has kp1 x with
      | true => simp only [h3, runF, evSs, evS, evT, evE, evAnd, evOr, evAndE, evOrE, evEs, evO, evC, evI, env0, endF, one, two, three, Eng.many, meth, chk, putD, appD, isLst, Eng.kept, Eng.kill, bindT, setAll, Tgt.slots, Exs.isNil, Ex.pure, Exs.pure, Ox.pure, Itr.pure, Ex.vars, Exs.vars, Ox.vars, Itr.vars, popD, popAtD, deepD, getP, putP, evP, callIO, ioArgs, ioSlot, ioOk, ioOut, ioV, ioClean, outs_from, outsGo, List.lookup_cons, List.lookup_nil, List.any_cons, List.any_nil, List.all_cons, List.all_nil, Exs.toList, Ex.isVar, frzE, cleanE, D.clean, cleanL, D.frz, frzL, frz_frz, frzL_frz, tru, get0_cons_zero, get0_cons_succ, get0_nil, List.set_cons_zero, List.set_cons_succ, frzAt_from, frzFrom, List.elem_cons, List.elem_nil, Nat.reduceBEq, List.length_cons, List.length_nil, List.map_cons, List.map_nil, List.replicate_succ, List.replicate_zero, List.cons_append, List.nil_append, List.append_nil, Option.map_some, Option.map_none, Option.bind_some, Option.bind_none, Nat.reduceSub, Nat.reduceAdd, List.range_eq_nil, Bool.not_false, Bool.not_true, Bool.or_true, Bool.true_or, Bool.or_false, Bool.false_or, Bool.and_true, Bool.true_and, Bool.and_false, Bool.false_and, Bool.not_not, Bool.false_eq_true, if_true, if_false, reduceIte, reduceCtorEq, x_blt_len, x_blt_int, x_blt_str, x_blt_list, x_blt_tuple, x_blt_max, x_blt_min, x_blt_sorted, x_sorted, x_mth_join, x_mth_upper, x_mth_index, x_isi_str_non, x_isi_str_bl, x_isi_str_int, x_isi_str_str, x_isi_str_lst, x_isi_str_tup, x_isi_str_dct, x_isi_int_non, x_isi_int_bl, x_isi_int_int, x_isi_int_str, x_isi_int_lst, x_isi_int_tup, x_isi_int_dct, x_isi_bool_non, x_isi_bool_bl, x_isi_bool_int, x_isi_bool_str, x_isi_bool_lst, x_isi_bool_tup, x_isi_bool_dct, x_isi_tuple_non, x_isi_tuple_bl, x_isi_tuple_int, x_isi_tuple_str, x_isi_tuple_lst, x_isi_tuple_tup, x_isi_tuple_dct, x_isi_list_non, x_isi_list_bl, x_isi_list_int, x_isi_list_str, x_isi_list_lst, x_isi_list_tup, x_isi_list_dct, x_tru_non, x_tru_bl, x_tru_int, x_tru_str, x_tru_lst, x_tru_tup, x_neg, x_sub_lst, x_sub_tup, x_sub_str, x_sub_dct, x_cut_lst, x_cut_tup, x_cut_str, x_len_str, x_len_lst, x_len_tup, x_len_dct, x_int_int, x_int_bl, x_str_int, x_list_lst, x_list_tup, x_list_dct, x_tuple_lst, x_tuple_tup, x_max, x_min, x_add_int, x_add_str, x_add_lst, x_add_tup, x_sub_int, x_mul, x_fdiv, x_mod, x_pow, x_cmp_eq, x_cmp_ne, x_cmp_lt, x_cmp_le, x_cmp_gt, x_cmp_ge, x_cmp_isin, x_cmp_notin, x_cmp_is, x_cmp_isnot, x_lt_int, x_le_int, x_gt_int, x_ge_int, x_lt_str, x_le_str, x_is_non, x_is_bl, x_is_bl_non, x_is_int_non, x_is_str_non, x_is_lst_non, x_is_tup_non, x_is_dct_non, x_in_lst, x_in_tup, x_in_dct, x_in_str, x_wk_lst, x_wk_tup, x_wk_str, x_li, x_di_lst, x_di_tup, x_rg1, x_rg2, x_rg3, x_oi, x_db, x_bnm, x_btp, x_dput, x_dput_dct, x_key_int, x_key_str, x_rep_lst, x_rep_tup, x_rep_dct, x_sb1_lst, x_sb1_tup, x_sb1_dct, x_app1, x_eq_int, x_eq_bl]
      | false =>
        cases h4 : has kp2 x with
        | true => simp only [h3, h4, runF, evSs, evS, evT, evE, evAnd, evOr, evAndE, evOrE, evEs, evO, evC, evI, env0, endF, one, two, three, Eng.many, meth, chk, putD, appD, isLst, Eng.kept, Eng.kill, bindT, setAll, Tgt.slots, Exs.isNil, Ex.pure, Exs.pure, Ox.pure, Itr.pure, Ex.vars, Exs.vars, Ox.vars, Itr.vars, popD, popAtD, deepD, getP, putP, evP, callIO, ioArgs, ioSlot, ioOk, ioOut, ioV, ioClean, outs_from, outsGo, List.lookup_cons, List.lookup_nil, List.any_cons, List.any_nil, List.all_cons, List.all_nil, Exs.toList, Ex.isVar, frzE, cleanE, D.clean, cleanL, D.frz, frzL, frz_frz, frzL_frz, tru, get0_cons_zero, get0_cons_succ, get0_nil, List.set_cons_zero, List.set_cons_succ, frzAt_from, frzFrom, List.elem_cons, List.elem_nil, Nat.reduceBEq, List.length_cons, List.length_nil, List.map_cons, List.map_nil, List.replicate_succ, List.replicate_zero, List.cons_append, List.nil_append, List.append_nil, Option.map_some, Option.map_none, Option.bind_some, Option.bind_none, Nat.reduceSub, Nat.reduceAdd, List.range_eq_nil, Bool.not_false, Bool.not_true, Bool.or_true, Bool.true_or, Bool.or_false, Bool.false_or, Bool.and_true, Bool.true_and, Bool.and_false, Bool.false_and, Bool.not_not, Bool.false_eq_true, if_true, if_false, reduceIte, reduceCtorEq, x_blt_len, x_blt_int, x_blt_str, x_blt_list, x_blt_tuple, x_blt_max, x_blt_min, x_blt_sorted, x_sorted, x_mth_join, x_mth_upper, x_mth_index, x_isi_str_non, x_isi_str_bl, x_isi_str_int, x_isi_str_str, x_isi_str_lst, x_isi_str_tup, x_isi_str_dct, x_isi_int_non, x_isi_int_bl, x_isi_int_int, x_isi_int_str, x_isi_int_lst, x_isi_int_tup, x_isi_int_dct, x_isi_bool_non, x_isi_bool_bl, x_isi_bool_int, x_isi_bool_str, x_isi_bool_lst, x_isi_bool_tup, x_isi_bool_dct, x_isi_tuple_non, x_isi_tuple_bl, x_isi_tuple_int, x_isi_tuple_str, x_isi_tuple_lst, x_isi_tuple_tup, x_isi_tuple_dct, x_isi_list_non, x_isi_list_bl, x_isi_list_int, x_isi_list_str, x_isi_list_lst, x_isi_list_tup, x_isi_list_dct, x_tru_non, x_tru_bl, x_tru_int, x_tru_str, x_tru_lst, x_tru_tup, x_neg, x_sub_lst, x_sub_tup, x_sub_str, x_sub_dct, x_cut_lst, x_cut_tup, x_cut_str, x_len_str, x_len_lst, x_len_tup, x_len_dct, x_int_int, x_int_bl, x_str_int, x_list_lst, x_list_tup, x_list_dct, x_tuple_lst, x_tuple_tup, x_max, x_min, x_add_int, x_add_str, x_add_lst, x_add_tup, x_sub_int, x_mul, x_fdiv, x_mod, x_pow, x_cmp_eq, x_cmp_ne, x_cmp_lt, x_cmp_le, x_cmp_gt, x_cmp_ge, x_cmp_isin, x_cmp_notin, x_cmp_is, x_cmp_isnot, x_lt_int, x_le_int, x_gt_int, x_ge_int, x_lt_str, x_le_str, x_is_non, x_is_bl, x_is_bl_non, x_is_int_non, x_is_str_non, x_is_lst_non, x_is_tup_non, x_is_dct_non, x_in_lst, x_in_tup, x_in_dct, x_in_str, x_wk_lst, x_wk_tup, x_wk_str, x_li, x_di_lst, x_di_tup, x_rg1, x_rg2, x_rg3, x_oi, x_db, x_bnm, x_btp, x_dput, x_dput_dct, x_key_int, x_key_str, x_rep_lst, x_rep_tup, x_rep_dct, x_sb1_lst, x_sb1_tup, x_sb1_dct, x_app1, x_eq_int, x_eq_bl]
        | false =>
          simp only [h3, h4, runF, evSs, evS, evT, evE, evAnd, evOr, evAndE, evOrE, evEs, evO, evC, evI, env0, endF, one, two, three, Eng.many, meth, chk, putD, appD, isLst, Eng.kept, Eng.kill, bindT, setAll, Tgt.slots, Exs.isNil, Ex.pure, Exs.pure, Ox.pure, Itr.pure, Ex.vars, Exs.vars, Ox.vars, Itr.vars, popD, popAtD, deepD, getP, putP, evP, callIO, ioArgs, ioSlot, ioOk, ioOut, ioV, ioClean, outs_from, outsGo, List.lookup_cons, List.lookup_nil, List.any_cons, List.any_nil, List.all_cons, List.all_nil, Exs.toList, Ex.isVar, frzE, cleanE, D.clean, cleanL, D.frz, frzL, frz_frz, frzL_frz, tru, get0_cons_zero, get0_cons_succ, get0_nil, List.set_cons_zero, List.set_cons_succ, frzAt_from, frzFrom, List.elem_cons, List.elem_nil, Nat.reduceBEq, List.length_cons, List.length_nil, List.map_cons, List.map_nil, List.replicate_succ, List.replicate_zero, List.cons_append, List.nil_append, List.append_nil, Option.map_some, Option.map_none, Option.bind_some, Option.bind_none, Nat.reduceSub, Nat.reduceAdd, List.range_eq_nil, Bool.not_false, Bool.not_true, Bool.or_true, Bool.true_or, Bool.or_false, Bool.false_or, Bool.and_true, Bool.true_and, Bool.and_false, Bool.false_and, Bool.not_not, Bool.false_eq_true, if_true, if_false, reduceIte, reduceCtorEq, x_blt_len, x_blt_int, x_blt_str, x_blt_list, x_blt_tuple, x_blt_max, x_blt_min, x_blt_sorted, x_sorted, x_mth_join, x_mth_upper, x_mth_index, x_isi_str_non, x_isi_str_bl, x_isi_str_int, x_isi_str_str, x_isi_str_lst, x_isi_str_tup, x_isi_str_dct, x_isi_int_non, x_isi_int_bl, x_isi_int_int, x_isi_int_str, x_isi_int_lst, x_isi_int_tup, x_isi_int_dct, x_isi_bool_non, x_isi_bool_bl, x_isi_bool_int, x_isi_bool_str, x_isi_bool_lst, x_isi_bool_tup, x_isi_bool_dct, x_isi_tuple_non, x_isi_tuple_bl, x_isi_tuple_int, x_isi_tuple_str, x_isi_tuple_lst, x_isi_tuple_tup, x_isi_tuple_dct, x_isi_list_non, x_isi_list_bl, x_isi_list_int, x_isi_list_str, x_isi_list_lst, x_isi_list_tup, x_isi_list_dct, x_tru_non, x_tru_bl, x_tru_int, x_tru_str, x_tru_lst, x_tru_tup, x_neg, x_sub_lst, x_sub_tup, x_sub_str, x_sub_dct, x_cut_lst, x_cut_tup, x_cut_str, x_len_str, x_len_lst, x_len_tup, x_len_dct, x_int_int, x_int_bl, x_str_int, x_list_lst, x_list_tup, x_list_dct, x_tuple_lst, x_tuple_tup, x_max, x_min, x_add_int, x_add_str, x_add_lst, x_add_tup, x_sub_int, x_mul, x_fdiv, x_mod, x_pow, x_cmp_eq, x_cmp_ne, x_cmp_lt, x_cmp_le, x_cmp_gt, x_cmp_ge, x_cmp_isin, x_cmp_notin, x_cmp_is, x_cmp_isnot, x_lt_int, x_le_int, x_gt_int, x_ge_int, x_lt_str, x_le_str, x_is_non, x_is_bl, x_is_bl_non, x_is_int_non, x_is_str_non, x_is_lst_non, x_is_tup_non, x_is_dct_non, x_in_lst, x_in_tup, x_in_dct, x_in_str, x_wk_lst, x_wk_tup, x_wk_str, x_li, x_di_lst, x_di_tup, x_rg1, x_rg2, x_rg3, x_oi, x_db, x_bnm, x_btp, x_dput, x_dput_dct, x_key_int, x_key_str, x_rep_lst, x_rep_tup, x_rep_dct, x_sb1_lst, x_sb1_tup, x_sb1_dct, x_app1, x_eq_int, x_eq_bl]
          generalize hb : (fun (ρ : Rho) => _) = b
          obtain ⟨ρ', ⟨o, rfl⟩, e⟩ := loopL_all (tg := .nm 1) (b := b) (ds := x.cps.toList.map fun c => D.str ⟨#[c]⟩) (ρ := [some (.str x), none]) (fun ρ => ∃ o, ρ = [some (.str x), o]) lowD (.bl false) ⟨none, rfl⟩ (fun ρ d ⟨o, hr⟩ hd => by
            obtain ⟨c, _, rfl⟩ := List.mem_map.mp hd
            refine ⟨_, [some (.str x), some (.str ⟨#[c]⟩)], rfl, ⟨_, rfl⟩, ?_⟩
            subst hb hr
            simp only [in_abc, runF, evSs, evS, evT, evE, evAnd, evOr, evAndE, evOrE, evEs, evO, evC, evI, env0, endF, one, two, three, Eng.many, meth, chk, putD, appD, isLst, Eng.kept, Eng.kill, bindT, setAll, Tgt.slots, Exs.isNil, Ex.pure, Exs.pure, Ox.pure, Itr.pure, Ex.vars, Exs.vars, Ox.vars, Itr.vars, popD, popAtD, deepD, getP, putP, evP, callIO, ioArgs, ioSlot, ioOk, ioOut, ioV, ioClean, outs_from, outsGo, List.lookup_cons, List.lookup_nil, List.any_cons, List.any_nil, List.all_cons, List.all_nil, Exs.toList, Ex.isVar, frzE, cleanE, D.clean, cleanL, D.frz, frzL, frz_frz, frzL_frz, tru, get0_cons_zero, get0_cons_succ, get0_nil, List.set_cons_zero, List.set_cons_succ, frzAt_from, frzFrom, List.elem_cons, List.elem_nil, Nat.reduceBEq, List.length_cons, List.length_nil, List.map_cons, List.map_nil, List.replicate_succ, List.replicate_zero, List.cons_append, List.nil_append, List.append_nil, Option.map_some, Option.map_none, Option.bind_some, Option.bind_none, Nat.reduceSub, Nat.reduceAdd, List.range_eq_nil, Bool.not_false, Bool.not_true, Bool.or_true, Bool.true_or, Bool.or_false, Bool.false_or, Bool.and_true, Bool.true_and, Bool.and_false, Bool.false_and, Bool.not_not, Bool.false_eq_true, if_true, if_false, reduceIte, reduceCtorEq, x_blt_len, x_blt_int, x_blt_str, x_blt_list, x_blt_tuple, x_blt_max, x_blt_min, x_blt_sorted, x_sorted, x_mth_join, x_mth_upper, x_mth_index, x_isi_str_non, x_isi_str_bl, x_isi_str_int, x_isi_str_str, x_isi_str_lst, x_isi_str_tup, x_isi_str_dct, x_isi_int_non, x_isi_int_bl, x_isi_int_int, x_isi_int_str, x_isi_int_lst, x_isi_int_tup, x_isi_int_dct, x_isi_bool_non, x_isi_bool_bl, x_isi_bool_int, x_isi_bool_str, x_isi_bool_lst, x_isi_bool_tup, x_isi_bool_dct, x_isi_tuple_non, x_isi_tuple_bl, x_isi_tuple_int, x_isi_tuple_str, x_isi_tuple_lst, x_isi_tuple_tup, x_isi_tuple_dct, x_isi_list_non, x_isi_list_bl, x_isi_list_int, x_isi_list_str, x_isi_list_lst, x_isi_list_tup, x_isi_list_dct, x_tru_non, x_tru_bl, x_tru_int, x_tru_str, x_tru_lst, x_tru_tup, x_neg, x_sub_lst, x_sub_tup, x_sub_str, x_sub_dct, x_cut_lst, x_cut_tup, x_cut_str, x_len_str, x_len_lst, x_len_tup, x_len_dct, x_int_int, x_int_bl, x_str_int, x_list_lst, x_list_tup, x_list_dct, x_tuple_lst, x_tuple_tup, x_max, x_min, x_add_int, x_add_str, x_add_lst, x_add_tup, x_sub_int, x_mul, x_fdiv, x_mod, x_pow, x_cmp_eq, x_cmp_ne, x_cmp_lt, x_cmp_le, x_cmp_gt, x_cmp_ge, x_cmp_isin, x_cmp_notin, x_cmp_is, x_cmp_isnot, x_lt_int, x_le_int, x_gt_int, x_ge_int, x_lt_str, x_le_str, x_is_non, x_is_bl, x_is_bl_non, x_is_int_non, x_is_str_non, x_is_lst_non, x_is_tup_non, x_is_dct_non, x_in_lst, x_in_tup, x_in_dct, x_in_str, x_wk_lst, x_wk_tup, x_wk_str, x_li, x_di_lst, x_di_tup, x_rg1, x_rg2, x_rg3, x_oi, x_db, x_bnm, x_btp, x_dput, x_dput_dct, x_key_int, x_key_str, x_rep_lst, x_rep_tup, x_rep_dct, x_sb1_lst, x_sb1_tup, x_sb1_dct, x_app1, x_eq_int, x_eq_bl]
            show _ = some (if low c = true then _ else _)
            cases low c <;> rfl)
          rw [e, all_low]
          cases x.cps.toList.all low <;> simp only [runF, evSs, evS, evT, evE, evAnd, evOr, evAndE, evOrE, evEs, evO, evC, evI, env0, endF, one, two, three, Eng.many, meth, chk, putD, appD, isLst, Eng.kept, Eng.kill, bindT, setAll, Tgt.slots, Exs.isNil, Ex.pure, Exs.pure, Ox.pure, Itr.pure, Ex.vars, Exs.vars, Ox.vars, Itr.vars, popD, popAtD, deepD, getP, putP, evP, callIO, ioArgs, ioSlot, ioOk, ioOut, ioV, ioClean, outs_from, outsGo, List.lookup_cons, List.lookup_nil, List.any_cons, List.any_nil, List.all_cons, List.all_nil, Exs.toList, Ex.isVar, frzE, cleanE, D.clean, cleanL, D.frz, frzL, frz_frz, frzL_frz, tru, get0_cons_zero, get0_cons_succ, get0_nil, List.set_cons_zero, List.set_cons_succ, frzAt_from, frzFrom, List.elem_cons, List.elem_nil, Nat.reduceBEq, List.length_cons, List.length_nil, List.map_cons, List.map_nil, List.replicate_succ, List.replicate_zero, List.cons_append, List.nil_append, List.append_nil, Option.map_some, Option.map_none, Option.bind_some, Option.bind_none, Nat.reduceSub, Nat.reduceAdd, List.range_eq_nil, Bool.not_false, Bool.not_true, Bool.or_true, Bool.true_or, Bool.or_false, Bool.false_or, Bool.and_true, Bool.true_and, Bool.and_false, Bool.false_and, Bool.not_not, Bool.false_eq_true, if_true, if_false, reduceIte, reduceCtorEq, x_blt_len, x_blt_int, x_blt_str, x_blt_list, x_blt_tuple, x_blt_max, x_blt_min, x_blt_sorted, x_sorted, x_mth_join, x_mth_upper, x_mth_index, x_isi_str_non, x_isi_str_bl, x_isi_str_int, x_isi_str_str, x_isi_str_lst, x_isi_str_tup, x_isi_str_dct, x_isi_int_non, x_isi_int_bl, x_isi_int_int, x_isi_int_str, x_isi_int_lst, x_isi_int_tup, x_isi_int_dct, x_isi_bool_non, x_isi_bool_bl, x_isi_bool_int, x_isi_bool_str, x_isi_bool_lst, x_isi_bool_tup, x_isi_bool_dct, x_isi_tuple_non, x_isi_tuple_bl, x_isi_tuple_int, x_isi_tuple_str, x_isi_tuple_lst, x_isi_tuple_tup, x_isi_tuple_dct, x_isi_list_non, x_isi_list_bl, x_isi_list_int, x_isi_list_str, x_isi_list_lst, x_isi_list_tup, x_isi_list_dct, x_tru_non, x_tru_bl, x_tru_int, x_tru_str, x_tru_lst, x_tru_tup, x_neg, x_sub_lst, x_sub_tup, x_sub_str, x_sub_dct, x_cut_lst, x_cut_tup, x_cut_str, x_len_str, x_len_lst, x_len_tup, x_len_dct, x_int_int, x_int_bl, x_str_int, x_list_lst, x_list_tup, x_list_dct, x_tuple_lst, x_tuple_tup, x_max, x_min, x_add_int, x_add_str, x_add_lst, x_add_tup, x_sub_int, x_mul, x_fdiv, x_mod, x_pow, x_cmp_eq, x_cmp_ne, x_cmp_lt, x_cmp_le, x_cmp_gt, x_cmp_ge, x_cmp_isin, x_cmp_notin, x_cmp_is, x_cmp_isnot, x_lt_int, x_le_int, x_gt_int, x_ge_int, x_lt_str, x_le_str, x_is_non, x_is_bl, x_is_bl_non, x_is_int_non, x_is_str_non, x_is_lst_non, x_is_tup_non, x_is_dct_non, x_in_lst, x_in_tup, x_in_dct, x_in_str, x_wk_lst, x_wk_tup, x_wk_str, x_li, x_di_lst, x_di_tup, x_rg1, x_rg2, x_rg3, x_oi, x_db, x_bnm, x_btp, x_dput, x_dput_dct, x_key_int, x_key_str, x_rep_lst, x_rep_tup, x_rep_dct, x_sb1_lst, x_sb1_tup, x_sb1_dct, x_app1, x_eq_int, x_eq_bl]
theorem le_a (c : Nat) : (!decide ([c] < [97])) = decide (97 ≤ c) := by
  by_cases h : 97 ≤ c
  · have : ¬ ([c] < [97]) := by
      intro z
      rcases List.cons_lt_cons_iff.mp z with z | z
      · omega
      · exact absurd z.2 (List.not_lt_nil _)
    simp [h, this]
  · have : [c] < [97] := List.cons_lt_cons_iff.mpr (.inl (by omega))
    simp [h, this]
theorem le_z (c : Nat) : (!decide ([122] < [c])) = decide (c ≤ 122) := by
  by_cases h : c ≤ 122
  · have : ¬ ([122] < [c]) := by
      intro z
      rcases List.cons_lt_cons_iff.mp z with z | z
      · omega
      · exact absurd z.2 (List.not_lt_nil _)
    simp [h, this]
  · have : [122] < [c] := List.cons_lt_cons_iff.mpr (.inl (by omega))
    simp [h, this]
def chD (c : Nat) : D := .str ⟨#[c]⟩
theorem frz_chars : ∀ l : List Nat, frzL (l.map chD) = l.map chD
  | [] => rfl
  | c :: l => by rw [List.map_cons, frzL, frz_chars l]; rfl
theorem lay_chars : ∀ {l : List Nat}, (∀ c ∈ l, c < 0x110000) → PyData.canLayAll0 (pyL (l.map chD)) = true ∧ PyData.depthAll (pyL (l.map chD)) = 0
  | [], _ => ⟨rfl, rfl⟩
  | c :: l, h => by
    obtain ⟨h1, h2⟩ := lay_chars (l := l) fun x hx => h x (List.mem_cons_of_mem _ hx)
    have hc := h c List.mem_cons_self
    refine ⟨?_, ?_⟩
    · show (PyData.strOk ⟨#[c]⟩ && PyData.canLayAll0 (pyL (l.map chD))) = true
      rw [h1]
      simp [PyData.strOk, hc]
    · show max 0 (PyData.depthAll (pyL (l.map chD))) = 0
      rw [h2]; rfl
theorem eq_chars {l : List Nat} (h : ∀ c ∈ l, c < 0x110000) : dEq (.lst false (l.map chD)) (.lst false []) = some l.isEmpty := by
  obtain ⟨h1, h2⟩ := lay_chars h
  have hs : shp (.lst false (l.map chD)) = true := by
    show (PyData.canLayAll0 (pyL (l.map chD)) && decide (PyData.depthAll (pyL (l.map chD)) + 1 ≤ 64)) = true
    rw [h1, h2]; rfl
  have hn : shp (.lst false []) = true := by decide +kernel
  unfold dEq
  rw [hs, hn]
  cases l <;> rfl
theorem frz_ints : ∀ ns : List Int, frzL (ns.map D.int) = ns.map D.int
  | [] => rfl
  | n :: ns => by rw [List.map_cons, frzL, frz_ints ns]; rfl
theorem frz_scr (ns : List Int) : (scr ns).frz = scr ns := by
  unfold scr
  rw [D.frz, frz_ints]
theorem atI_in {α : Type} {xs : List α} {i : Int} (h0 : 0 ≤ i) (h1 : i < xs.length) : ∃ d, atI xs i = some d ∧ d ∈ xs := by
  have hj : i.toNat < xs.length := by omega
  refine ⟨xs[i.toNat], ?_, List.getElem_mem _⟩
  unfold atI ixN
  rw [if_pos h0, if_pos h1]
  exact List.getElem?_eq_getElem hj
theorem pow40 : (10 : Int) ^ (40 : Int).toNat = 10000000000000000000000000000000000000000 := by decide +kernel
theorem pow30 : (10 : Int) ^ (30 : Int).toNat = 1000000000000000000000000000000 := by decide +kernel
def alpha : List Nat := [97, 98, 99, 100, 101, 102, 103, 104, 105, 106, 107, 108, 109, 110, 111, 112, 113, 114, 115, 116, 117, 118, 119, 120, 121, 122]
theorem abcS : (Str.ofString "abcdefghijklmnopqrstuvwxyz") = SX.S alpha := by decide +kernel
theorem abc_len : (SX.S alpha).length = 26 := by decide +kernel
theorem fit26 : fits 26 = true := by decide +kernel
theorem emptyS : (Str.ofString "") = SX.S [] := by decide +kernel
theorem joinL_one : ∀ l : List Nat, TL.joinL [] (l.map fun c => [c]) = l
  | [] => rfl
  | [c] => rfl
  | c :: d :: l => by
    have ih := joinL_one (d :: l)
    show [c] ++ ([] ++ TL.joinL [] ((d :: l).map fun c => [c])) = _
    rw [ih]; rfl
theorem join_one (l : List Nat) : Txt.join (SX.S []) (l.map fun c => (⟨#[c]⟩ : Str)) = SX.S l := by
  have := SX.join_S [] (l.map fun c => [c])
  rw [joinL_one, List.map_map] at this
  exact this
theorem strs_one : ∀ l : List Nat, Eng.strs? (l.map chD) = some (l.map fun c => (⟨#[c]⟩ : Str))
  | [] => rfl
  | c :: l => by
    rw [List.map_cons]
    show (Eng.strs? (l.map chD)).map _ = _
    rw [strs_one l]; rfl
theorem ok_mem {x : Str} : PyData.strOk x = true ↔ ∀ c ∈ x.cps.toList, c < 0x110000 := by
  unfold PyData.strOk
  rw [Array.all_eq_true_iff_forall_mem]
  constructor
  · intro h c hc
    exact of_decide_eq_true (h c (Array.mem_toList_iff.mp hc))
  · intro h c hc
    exact decide_eq_true (h c (Array.mem_toList_iff.mpr hc))
theorem cat_tl (x y : Str) : (x ++ y).cps.toList = x.cps.toList ++ y.cps.toList := TL.tl_append x y
theorem cat_len (x y : Str) : (x ++ y).length = x.length + y.length := by
  have := congrArg List.length (cat_tl x y)
  rw [List.length_append, Array.length_toList, Array.length_toList, Array.length_toList] at this
  exact this
theorem ok_cat {x y : Str} (hx : PyData.strOk x = true) (hy : PyData.strOk y = true) : PyData.strOk (x ++ y) = true := ok_mem.mpr fun c hc => by
  rw [cat_tl] at hc
  exact (List.mem_append.mp hc).elim (ok_mem.mp hx c) (ok_mem.mp hy c)
theorem ok_cut {x : Str} (hx : PyData.strOk x = true) (lo hi : Option Int) : PyData.strOk (cutS x lo hi) = true := ok_mem.mpr fun c hc => by
  have : c ∈ (x.cps.toList.drop (HT.sIx x.length 0 lo)).take (HT.sIx x.length x.length hi - HT.sIx x.length 0 lo) := hc
  exact ok_mem.mp hx c (List.mem_of_mem_drop (List.mem_of_mem_take this))
theorem fit_le {n : Nat} (h : n ≤ 16777000) : fits n = true := decide_eq_true (by unfold sizeLine; omega)

theorem small_log {n : Nat} {a : Int} (a1 : a.natAbs < 2 ^ n) (hn : 0 < n) : a.natAbs.log2 < n := by
  by_cases z : a.natAbs = 0
  · rw [z]; exact hn
  · rw [Nat.log2_lt z]; exact a1
theorem mul_ok {a b : Int} (ha : a.natAbs < 2 ^ 400) (hb : b.natAbs < 2 ^ 400) : a.natAbs.log2 + b.natAbs.log2 < 1000000 := by
  have := small_log ha (by decide)
  have := small_log hb (by decide)
  omega
theorem div_ok {a : Int} (h0 : 0 < a) (ha : a.natAbs < 2 ^ 400) : 0 < a ∧ a.natAbs.log2 < 9000 := ⟨h0, by have := small_log ha (by decide); omega⟩
/-- shaped to a depth -/
def Sh (n : Nat) (d : D) : Prop := d.py.canLay0 = true ∧ d.py.depth ≤ n
theorem Sh.shp {n : Nat} {d : D} (h : Sh n d) (hn : n ≤ 64) : shp d = true := by
  unfold Eng.shp SeqAt.shaped
  rw [h.1, Bool.true_and]
  exact decide_eq_true (Nat.le_trans h.2 hn)
theorem sh_all {n : Nat} : ∀ {ds : List D}, (∀ d ∈ ds, Sh n d) → PyData.canLayAll0 (pyL ds) = true ∧ PyData.depthAll (pyL ds) ≤ n
  | [], _ => ⟨rfl, Nat.zero_le _⟩
  | d :: ds, h => by
    obtain ⟨h1, h2⟩ := sh_all (ds := ds) fun x hx => h x (List.mem_cons_of_mem _ hx)
    have hd := h d List.mem_cons_self
    refine ⟨?_, ?_⟩
    · show (PyData.canLay0 d.py && PyData.canLayAll0 (pyL ds)) = true
      rw [hd.1, h1]; rfl
    · show max (PyData.depth d.py) (PyData.depthAll (pyL ds)) ≤ n
      exact Nat.max_le.mpr ⟨hd.2, h2⟩
theorem sh_tup {n : Nat} {ds : List D} (h : ∀ d ∈ ds, Sh n d) : Sh (n + 1) (.tup ds) := ⟨(sh_all h).1, Nat.succ_le_succ (sh_all h).2⟩
theorem sh_lst {n : Nat} {o : Bool} {ds : List D} (h : ∀ d ∈ ds, Sh n d) : Sh (n + 1) (.lst o ds) := ⟨(sh_all h).1, Nat.succ_le_succ (sh_all h).2⟩
theorem sh_str {n : Nat} {x : Str} (h : PyData.strOk x = true) : Sh n (.str x) := ⟨h, Nat.zero_le _⟩
theorem sh_int {n : Nat} {i : Int} : Sh n (.int i) := ⟨rfl, Nat.zero_le _⟩
theorem sh_bl {n : Nat} {i : Bool} : Sh n (.bl i) := ⟨rfl, Nat.zero_le _⟩
theorem sh_non {n : Nat} : Sh n .non := ⟨rfl, Nat.zero_le _⟩
theorem Sh.mono {n m : Nat} {d : D} (h : Sh n d) (hn : n ≤ m) : Sh m d := ⟨h.1, Nat.le_trans h.2 hn⟩
theorem Sh.frz {n : Nat} {d : D} (h : Sh n d) : Sh n d.frz := by unfold Sh; rw [py_frz]; exact h
theorem eq_nil {n : Nat} {o p : Bool} {ds : List D} (h : ∀ d ∈ ds, Sh n d) (hn : n ≤ 60) : dEq (.lst o ds) (.lst p []) = some ds.isEmpty := by
  have h1 := (sh_lst (o := o) h).shp (by omega)
  have h2 : shp (.lst p []) = true := by cases p <;> decide +kernel
  unfold dEq
  rw [h1, h2]
  cases ds <;> rfl
theorem eq_unit {n : Nat} {ds : List D} (h : ∀ d ∈ ds, Sh n d) (hn : n ≤ 60) : dEq (.tup ds) (.tup []) = some ds.isEmpty := by
  have h1 := (sh_tup h).shp (by omega)
  have h2 : shp (.tup []) = true := by decide +kernel
  unfold dEq
  rw [h1, h2]
  cases ds <;> rfl
/-- a walk to its end, by a word of the turn -/
theorem loopL_inv {tg : Tgt} {b : Rho → Option Out} (P : Nat → Rho → Prop) {ds : List D} (h : ∀ i ρ d, P i ρ → ds[i]? = some d → ∃ ρ1 ρ2, bindT tg d ρ = some ρ1 ∧ b ρ1 = some (.nx ρ2) ∧ P (i + 1) ρ2) {ρ : Rho} (h0 : P 0 ρ) :
    ∃ ρ', loopL tg b ds ρ = some (.nx ρ') ∧ P ds.length ρ' := by
  have key : ∀ (n i : Nat) (ρ : Rho), ds.length - i = n → i ≤ ds.length → P i ρ → ∃ ρ', loopL tg b (ds.drop i) ρ = some (.nx ρ') ∧ P ds.length ρ' := by
    intro n
    induction n with
    | zero =>
      intro i ρ hn hi hp
      have : i = ds.length := by omega
      subst this
      rw [List.drop_length]
      exact ⟨ρ, rfl, hp⟩
    | succ n ih =>
      intro i ρ hn hi hp
      have hl : i < ds.length := by omega
      obtain ⟨ρ1, ρ2, e1, e2, p2⟩ := h i ρ ds[i] hp (List.getElem?_eq_getElem hl)
      obtain ⟨ρ', e3, p3⟩ := ih (i + 1) ρ2 (by omega) hl p2
      refine ⟨ρ', ?_, p3⟩
      rw [List.drop_eq_getElem_cons hl]
      unfold loopL
      rw [e1]
      simp only [Option.bind_some]
      rw [e2]
      exact e3
  have := key ds.length 0 ρ (by omega) (Nat.zero_le _) h0
  rwa [List.drop_zero] at this
theorem rangeD_ok {n : Int} (h0 : 0 ≤ n) (h1 : n ≤ 1000000) : rangeD 0 n 1 = some ((List.range n.toNat).map fun (k : Nat) => D.int k) := by
  unfold rangeD
  rw [if_pos ⟨by omega, by omega, by omega, by omega, by omega, by omega⟩, div1]
  congr 1
  refine List.map_congr_left fun k _ => ?_
  congr 1; omega
theorem rng_get {n i : Nat} {d : D} (h : ((List.range n).map fun (k : Nat) => D.int k)[i]? = some d) : i < n ∧ d = .int (i : Nat) := by
  rw [List.getElem?_map] at h
  cases e : (List.range n)[i]? with
  | none => rw [e] at h; cases h
  | some k =>
    rw [e] at h
    obtain ⟨hl, rfl⟩ := List.getElem?_eq_some_iff.mp e
    rw [List.length_range] at hl
    cases h
    exact ⟨hl, by simp⟩
theorem atI_alpha {i : Int} (h0 : 0 ≤ i) (h1 : i < 26) : ∃ c, atI alpha i = some c ∧ c ∈ alpha := atI_in h0 h1
theorem alpha_ok {l : List Nat} (h : ∀ c ∈ l, c ∈ alpha) : PyData.strOk (SX.S l) = true := ok_mem.mpr fun x hx => by
  have h1 : x ∈ alpha := h x hx
  have h2 : ∀ y ∈ alpha, y < 0x110000 := by decide
  exact h2 x h1
theorem sum_one : ∀ l : List Nat, ((l.map fun c => (⟨#[c]⟩ : Str)).map (·.length)).sum = l.length
  | [] => rfl
  | c :: l => by rw [List.map_cons, List.map_cons, List.sum_cons, sum_one l]; show 1 + l.length = l.length + 1; omega
/-- ''.join of single signs -/
theorem join_chars {l : List Nat} (h : l.length ≤ 1000) (o : Bool) : dJoin (SX.S []) (.lst o (l.map chD)) = some (.str (SX.S l)) := by
  have e2 := x_join (SX.S []) o _ _ (strs_one l)
  rw [e2, join_one, if_pos]
  refine decide_eq_true ?_
  rw [sum_one]
  have z : (SX.S []).length = 0 := rfl
  rw [z]; omega
theorem all_frz : ∀ {ds : List D}, (∀ d ∈ ds, d.frz = d) → frzL ds = ds
  | [], _ => rfl
  | d :: ds, h => by rw [frzL, h d List.mem_cons_self, all_frz fun x hx => h x (List.mem_cons_of_mem _ hx)]
end Lib
namespace Lib
open PySem PySem.Spec PyProof.Rows L2 RT Eng
theorem f0 : fits 0 = true := by decide +kernel
theorem f1 : fits 1 = true := by decide +kernel
theorem f2 : fits 2 = true := by decide +kernel
theorem f3 : fits 3 = true := by decide +kernel
theorem f4 : fits 4 = true := by decide +kernel
theorem f5 : fits 5 = true := by decide +kernel
theorem f6 : fits 6 = true := by decide +kernel
theorem f7 : fits 7 = true := by decide +kernel
theorem f8 : fits 8 = true := by decide +kernel
/-! ### statement by statement -/
theorem seq_nx {S : Sem0} {W : (Rho → Option (Bool × Rho)) → (Rho → Option Out) → Rho → Option Out} {st : Eng.St} {r : Sts} {ρ ρ1 : Rho} {o : Out} (h1 : evS S W st ρ = some (.nx ρ1)) (h2 : evSs S W r ρ1 = some o) : evSs S W (.cons st r) ρ = some o := by
  rw [evSs, h1]; exact h2
theorem seq_rt {S : Sem0} {W : (Rho → Option (Bool × Rho)) → (Rho → Option Out) → Rho → Option Out} {st : Eng.St} {r : Sts} {ρ ρ1 : Rho} {d : D} (h1 : evS S W st ρ = some (.rt d ρ1)) : evSs S W (.cons st r) ρ = some (.rt d ρ1) := by
  rw [evSs, h1]; rfl
theorem run_of {S : Sem0} {f : Fd} {ds : List D} {o : Out} {r : D × List (Option D)} (hl : ds.length = f.n) (h : evSs S whl f.body (env0 f.n f.N.length ds) = some o) (he : endF f.n f.io o = some r) : runF S f ds = some r := by
  unfold runF
  rw [if_pos hl, h]; exact he
theorem seq_end {S : Sem0} {W : (Rho → Option (Bool × Rho)) → (Rho → Option Out) → Rho → Option Out} {ρ : Rho} : evSs S W .nil ρ = some (.nx ρ) := rfl
theorem frz_app : ∀ a b : List D, frzL (a ++ b) = frzL a ++ frzL b
  | [], _ => rfl
  | d :: a, b => by
    show d.frz :: frzL (a ++ b) = d.frz :: (frzL a ++ frzL b)
    rw [frz_app a b]
/-! ### walks over encoded lists -/
theorem loopL_fold {α σ : Type} {f : α → D} {tg : Tgt} {b : Rho → Option Out} (E : σ → Rho → Prop) (step : σ → α → σ) : ∀ {l : List α} {s : σ} {ρ : Rho}, (∀ s ρ a, a ∈ l → E s ρ → ∃ ρ1 ρ2, bindT tg (f a) ρ = some ρ1 ∧ (b ρ1 = some (.nx ρ2) ∨ b ρ1 = some (.ct ρ2)) ∧ E (step s a) ρ2) → E s ρ →
    ∃ ρ', loopL tg b (l.map f) ρ = some (.nx ρ') ∧ E (l.foldl step s) ρ'
  | [], _, ρ, _, h => ⟨ρ, rfl, h⟩
  | a :: l, s, ρ, hs, h => by
    obtain ⟨ρ1, ρ2, h1, h2, h3⟩ := hs s ρ a List.mem_cons_self h
    obtain ⟨ρ', k1, k2⟩ := loopL_fold E step (l := l) (fun s ρ x hx => hs s ρ x (List.mem_cons_of_mem _ hx)) h3
    refine ⟨ρ', ?_, k2⟩
    rw [List.map_cons]
    unfold loopL
    rw [h1]
    simp only [Option.bind_some]
    rcases h2 with h2 | h2
    · rw [h2]; exact k1
    · rw [h2]; exact k1
theorem loopL_allA {α : Type} {f : α → D} {tg : Tgt} {b : Rho → Option Out} (P : Rho → Prop) (t : α → Bool) (r : D) : ∀ {l : List α} {ρ : Rho}, P ρ → (∀ ρ a, P ρ → a ∈ l → ∃ ρ1 ρ2, bindT tg (f a) ρ = some ρ1 ∧ P ρ2 ∧ b ρ1 = some (if t a = true then .nx ρ2 else .rt r ρ2)) →
    ∃ ρ', P ρ' ∧ loopL tg b (l.map f) ρ = some (if l.all t = true then .nx ρ' else .rt r ρ')
  | [], ρ, p, _ => ⟨ρ, p, rfl⟩
  | a :: l, ρ, p, h => by
    obtain ⟨ρ1, ρ2, h1, h2, h3⟩ := h ρ a p List.mem_cons_self
    rw [List.map_cons]
    unfold loopL
    rw [h1]
    simp only [Option.bind_some]
    rw [h3]
    cases e : t a with
    | false => exact ⟨ρ2, h2, by simp [List.all_cons, e]⟩
    | true =>
      obtain ⟨ρ', k1, k2⟩ := loopL_allA P t r (l := l) h2 fun ρ x q hx => h ρ x q (List.mem_cons_of_mem _ hx)
      refine ⟨ρ', k1, ?_⟩
      simp only [if_true, Option.bind_some, List.all_cons, e, Bool.true_and]
      exact k2
theorem compL_mapA {α : Type} {f g : α → D} {tg : Tgt} {cond : Rho → Option (Bool × Rho)} {elt : Rho → Option (D × Rho)} {pur : Bool} {ρ : Rho} (t : α → Bool) : ∀ {l : List α}, (∀ a ∈ l, ∃ ρ1, bindT tg (f a) ρ = some ρ1 ∧ cond ρ1 = some (t a, ρ1) ∧ (t a = true → elt ρ1 = some (g a, ρ1) ∧ (pur || (g a).clean) = true) ∧ kill tg.slots ρ1 = ρ) →
    compL tg cond elt pur (l.map f) ρ = some ((l.filter t).map g, ρ)
  | [], _ => rfl
  | a :: l, h => by
    obtain ⟨ρ1, h1, h2, h3, h4⟩ := h a List.mem_cons_self
    have ih := compL_mapA (f := f) (g := g) t (l := l) fun x hx => h x (List.mem_cons_of_mem _ hx)
    rw [List.map_cons]
    unfold compL
    rw [h1]
    simp only [Option.bind_some]
    rw [h2]
    simp only [Option.bind_some]
    cases e : t a with
    | false =>
      rw [if_neg (by simp), h4, ih, List.filter_cons_of_neg (by simp [e])]
    | true =>
      obtain ⟨e1, e2⟩ := h3 e
      rw [if_pos rfl, e1]
      simp only [Option.bind_some]
      rw [e2, h4, ih, List.filter_cons_of_pos e]
      rfl
/-! ### things that never change: ints, texts, tuples of such -/
mutual
theorem pur_frz : ∀ (d : D), d.pur = true → d.frz = d
  | .int _, _ => rfl
  | .str _, _ => rfl
  | .tup xs, h => by show D.tup (frzL xs) = _; rw [purL_frz xs h]
  | .non, h => by cases h
  | .bl _, h => by cases h
  | .lst _ _, h => by cases h
  | .dct _ _, h => by cases h
theorem purL_frz : ∀ (ds : List D), purL ds = true → frzL ds = ds
  | [], _ => rfl
  | d :: ds, h => by
    have h' : (d.pur && purL ds) = true := h
    rw [Bool.and_eq_true] at h'
    show d.frz :: frzL ds = _
    rw [pur_frz d h'.1, purL_frz ds h'.2]
end
mutual
theorem pur_clean : ∀ (d : D), d.pur = true → d.clean = true
  | .int _, _ => rfl
  | .str _, _ => rfl
  | .tup xs, h => purL_clean xs h
  | .non, h => by cases h
  | .bl _, h => by cases h
  | .lst _ _, h => by cases h
  | .dct _ _, h => by cases h
theorem purL_clean : ∀ (ds : List D), purL ds = true → cleanL ds = true
  | [], _ => rfl
  | d :: ds, h => by
    have h' : (d.pur && purL ds) = true := h
    rw [Bool.and_eq_true] at h'
    show (d.clean && cleanL ds) = true
    rw [pur_clean d h'.1, purL_clean ds h'.2]; rfl
end
mutual
theorem eqv_pur : ∀ (a b : D), a.pur = true → b.pur = true → (PyData.eqv a.py b.py = true ↔ a = b)
  | .int i, b, _, hb => by
    cases b <;> first | (cases hb; done) | skip
    · show ((i == _) = true) ↔ _
      simp
    · exact ⟨fun h => (by cases h), fun h => (by cases h)⟩
    · exact ⟨fun h => (by cases h), fun h => (by cases h)⟩
  | .str x, b, _, hb => by
    cases b <;> first | (cases hb; done) | skip
    · exact ⟨fun h => (by cases h), fun h => (by cases h)⟩
    · show ((x == _) = true) ↔ _
      simp
    · exact ⟨fun h => (by cases h), fun h => (by cases h)⟩
  | .tup xs, b, ha, hb => by
    cases b <;> first | (cases hb; done) | skip
    · exact ⟨fun h => (by cases h), fun h => (by cases h)⟩
    · exact ⟨fun h => (by cases h), fun h => (by cases h)⟩
    · rename_i ys
      have := eqvL_pur xs ys ha hb
      show (PyData.eqvAll (pyL xs) (pyL ys) = true) ↔ _
      rw [this]
      exact ⟨fun h => (by rw [h]), fun h => (by cases h; rfl)⟩
  | .non, _, h, _ => by cases h
  | .bl _, _, h, _ => by cases h
  | .lst _ _, _, h, _ => by cases h
  | .dct _ _, _, h, _ => by cases h
theorem eqvL_pur : ∀ (xs ys : List D), purL xs = true → purL ys = true → (PyData.eqvAll (pyL xs) (pyL ys) = true ↔ xs = ys)
  | [], [], _, _ => ⟨fun _ => rfl, fun _ => rfl⟩
  | [], _ :: _, _, _ => ⟨fun h => (by cases h), fun h => (by cases h)⟩
  | _ :: _, [], _, _ => ⟨fun h => (by cases h), fun h => (by cases h)⟩
  | x :: xs, y :: ys, hx, hy => by
    have hx' : (x.pur && purL xs) = true := hx
    have hy' : (y.pur && purL ys) = true := hy
    rw [Bool.and_eq_true] at hx' hy'
    show (PyData.eqv x.py y.py && PyData.eqvAll (pyL xs) (pyL ys)) = true ↔ _
    rw [Bool.and_eq_true, eqv_pur x y hx'.1 hy'.1, eqvL_pur xs ys hx'.2 hy'.2, List.cons.injEq]
end
theorem nk_pur {a b : D} (ha : a.pur = true) (hb : b.pur = true) : a.nk = b.nk ↔ a = b := by
  refine ⟨fun h => ?_, fun h => by rw [h]⟩
  obtain ⟨n, e, _⟩ := pur_nk a ha
  exact pur_inj ha hb e (h ▸ e)
/-- things of one form -/
structure Enc {α : Type} (f : α → D) : Prop where
  pur : ∀ a, (f a).pur = true
  lay : ∀ a, (f a).py.canLay0 = true
  dep : ∀ a, (f a).py.depth ≤ 20
  key : ∀ a, ∃ n, dKey (f a) = some n
  inj : ∀ a b, f a = f b → a = b
section
variable {α : Type} {f : α → D}
theorem Enc.purL (E : Enc f) : ∀ l : List α, purL (l.map f) = true
  | [] => rfl
  | a :: l => by
    show ((f a).pur && Eng.purL (l.map f)) = true
    rw [E.pur a, E.purL l]; rfl
theorem Enc.frz (E : Enc f) (a : α) : (f a).frz = f a := pur_frz _ (E.pur a)
theorem Enc.frzL (E : Enc f) (l : List α) : frzL (l.map f) = l.map f := purL_frz _ (E.purL l)
theorem Enc.clean (E : Enc f) (a : α) : (f a).clean = true := pur_clean _ (E.pur a)
theorem Enc.cleanL (E : Enc f) (l : List α) : cleanL (l.map f) = true := purL_clean _ (E.purL l)
theorem Enc.layL (E : Enc f) : ∀ l : List α, PyData.canLayAll0 (pyL (l.map f)) = true ∧ PyData.depthAll (pyL (l.map f)) ≤ 20
  | [] => ⟨rfl, Nat.zero_le _⟩
  | a :: l => by
    obtain ⟨h1, h2⟩ := E.layL l
    refine ⟨?_, ?_⟩
    · show (PyData.canLay0 (f a).py && PyData.canLayAll0 (pyL (l.map f))) = true
      rw [E.lay a, h1]; rfl
    · show max (PyData.depth (f a).py) (PyData.depthAll (pyL (l.map f))) ≤ 20
      have := E.dep a
      omega
theorem Enc.shp (E : Enc f) (a : α) : shp (f a) = true := by
  show ((f a).py.canLay0 && decide ((f a).py.depth ≤ 64)) = true
  rw [E.lay a, Bool.true_and]
  exact decide_eq_true (by have := E.dep a; omega)
theorem Enc.shpL (E : Enc f) (o : Bool) (l : List α) : Eng.shp (.lst o (l.map f)) = true := by
  obtain ⟨h1, h2⟩ := E.layL l
  show (PyData.canLayAll0 (pyL (l.map f)) && decide (PyData.depthAll (pyL (l.map f)) + 1 ≤ 64)) = true
  rw [h1, Bool.true_and]
  exact decide_eq_true (by omega)
theorem Enc.shpT (E : Enc f) (l : List α) : Eng.shp (.tup (l.map f)) = true := by
  obtain ⟨h1, h2⟩ := E.layL l
  show (PyData.canLayAll0 (pyL (l.map f)) && decide (PyData.depthAll (pyL (l.map f)) + 1 ≤ 64)) = true
  rw [h1, Bool.true_and]
  exact decide_eq_true (by omega)
theorem Enc.eq [DecidableEq α] (E : Enc f) (a b : α) : dEq (f a) (f b) = some (decide (a = b)) := by
  unfold dEq
  rw [E.shp, E.shp]
  have : PyData.eqv (f a).py (f b).py = decide (a = b) := by
    rw [Bool.eq_iff_iff, eqv_pur _ _ (E.pur a) (E.pur b), decide_eq_true_eq]
    exact ⟨E.inj a b, fun h => (by rw [h])⟩
  simp only [Bool.and_self, if_true, this]
theorem Enc.any [DecidableEq α] (E : Enc f) (l : List α) (a : α) : ((l.map f).any fun z => PyData.eqv z.py (f a).py) = decide (a ∈ l) := by
  rw [Bool.eq_iff_iff, List.any_eq_true, decide_eq_true_eq]
  constructor
  · rintro ⟨z, hz, e⟩
    obtain ⟨b, hb, rfl⟩ := List.mem_map.mp hz
    rw [eqv_pur _ _ (E.pur b) (E.pur a)] at e
    rw [← E.inj _ _ e]; exact hb
  · intro h
    exact ⟨f a, List.mem_map.mpr ⟨a, h, rfl⟩, (eqv_pur _ _ (E.pur a) (E.pur a)).mpr rfl⟩
theorem Enc.inL [DecidableEq α] (E : Enc f) (o : Bool) (l : List α) (a : α) : dIn (f a) (.lst o (l.map f)) = some (decide (a ∈ l)) := by
  show (if Eng.shp (f a) && Eng.shp (.lst false (l.map f)) then some ((l.map f).any fun z => PyData.eqv z.py (f a).py) else none) = _
  rw [E.shp, E.shpL, E.any]; rfl
theorem Enc.inT [DecidableEq α] (E : Enc f) (l : List α) (a : α) : dIn (f a) (.tup (l.map f)) = some (decide (a ∈ l)) := by
  show (if Eng.shp (f a) && Eng.shp (.tup (l.map f)) then some ((l.map f).any fun z => PyData.eqv z.py (f a).py) else none) = _
  rw [E.shp, E.shpT, E.any]; rfl
theorem Enc.eqL [DecidableEq α] (E : Enc f) (o p : Bool) (l m : List α) : dEq (.lst o (l.map f)) (.lst p (m.map f)) = some (decide (l = m)) := by
  unfold dEq
  rw [E.shpL, E.shpL]
  have : PyData.eqv (D.lst o (l.map f)).py (D.lst p (m.map f)).py = decide (l = m) := by
    show PyData.eqvAll (pyL (l.map f)) (pyL (m.map f)) = _
    rw [Bool.eq_iff_iff, eqvL_pur _ _ (E.purL l) (E.purL m), decide_eq_true_eq]
    refine ⟨fun h => ?_, fun h => by rw [h]⟩
    have key : ∀ l m : List α, l.map f = m.map f → l = m := fun l => by
      induction l with
      | nil => intro m h; cases m with | nil => rfl | cons => cases h
      | cons a l ih =>
        intro m h
        cases m with
        | nil => cases h
        | cons b m =>
          rw [List.map_cons, List.map_cons, List.cons.injEq] at h
          rw [E.inj _ _ h.1, ih m h.2]
    exact key l m h
  simp only [Bool.and_self, if_true, this]
/-! a dict whose values are True, as a set -/
def setE (f : α → D) (l : List α) : List (D × D) := l.map fun a => (f a, .bl true)
def insA [DecidableEq α] (l : List α) (a : α) : List α := if a ∈ l then l else l ++ [a]
theorem mem_insA [DecidableEq α] {l : List α} {a x : α} : x ∈ insA l a ↔ x ∈ l ∨ x = a := by
  unfold insA
  split
  · rename_i h
    exact ⟨.inl, fun z => z.elim id fun e => e ▸ h⟩
  · simp
theorem insA_len [DecidableEq α] {l : List α} {a : α} : (insA l a).length ≤ l.length + 1 := by
  unfold insA
  split <;> simp
theorem Enc.set [DecidableEq α] (E : Enc f) (a : α) : ∀ l : List α, dSet (f a) (.bl true) (setE f l) = setE f (insA l a)
  | [] => rfl
  | b :: l => by
    have h : dSet (f a) (.bl true) (setE f (b :: l)) = if decide ((f b).nk = (f a).nk) = true then (f b, .bl true) :: setE f l else (f b, .bl true) :: dSet (f a) (.bl true) (setE f l) := rfl
    rw [h, E.set a l]
    by_cases e : b = a
    · subst e
      rw [if_pos (decide_eq_true rfl)]
      unfold insA
      rw [if_pos List.mem_cons_self]; rfl
    · rw [if_neg (by simp only [decide_eq_true_eq]; intro h2; exact e (E.inj _ _ ((nk_pur (E.pur _) (E.pur _)).mp h2)))]
      unfold insA
      by_cases m : a ∈ l
      · rw [if_pos m, if_pos (List.mem_cons_of_mem _ m)]; rfl
      · rw [if_neg m, if_neg (by simp [m, Ne.symm e])]; rfl
theorem Enc.has [DecidableEq α] (E : Enc f) (o : Bool) (a : α) (l : List α) : dIn (f a) (.dct o (setE f l)) = some (decide (a ∈ l)) := by
  obtain ⟨n, hn⟩ := E.key a
  show (dKey (f a)).map (dHas (setE f l)) = _
  rw [hn, Option.map_some]
  congr 1
  have hn' := (dKey_some hn).1
  unfold dHas setE
  rw [Bool.eq_iff_iff, List.any_eq_true, decide_eq_true_eq]
  constructor
  · rintro ⟨p, hp, e⟩
    obtain ⟨b, hb, rfl⟩ := List.mem_map.mp hp
    have e' : (f b).nk = some n := of_decide_eq_true e
    rw [← E.inj _ _ ((nk_pur (E.pur _) (E.pur _)).mp (e'.trans hn'.symm))]; exact hb
  · intro h
    exact ⟨_, List.mem_map.mpr ⟨a, h, rfl⟩, decide_eq_true hn'⟩
theorem setE_frz (E : Enc f) : ∀ l : List α, frzE (setE f l) = setE f l
  | [] => rfl
  | a :: l => by
    show (f a, D.bl true) :: frzE (setE f l) = _
    rw [setE_frz E l]; rfl
theorem setE_clean (E : Enc f) : ∀ l : List α, cleanE (setE f l) = true
  | [] => rfl
  | a :: l => by
    show (true && cleanE (setE f l)) = true
    rw [setE_clean E l]; rfl
/-! sorting -/
theorem of_all {l : List D} (h : ∀ d ∈ l, ∃ a, f a = d) : ∃ m : List α, l = m.map f := by
  induction l with
  | nil => exact ⟨[], rfl⟩
  | cons d l ih =>
    obtain ⟨a, rfl⟩ := h d List.mem_cons_self
    obtain ⟨m, rfl⟩ := ih fun x hx => h x (List.mem_cons_of_mem _ hx)
    exact ⟨a :: m, rfl⟩
/-- tuples that can be sorted -/
structure EncT (f : α → D) : Prop extends Enc f where
  tp : ∀ a, tup1 (f a) = true
  al : ∀ a b, PySem.W.alike (f a).py (f b).py = true
theorem EncT.sortB (E : EncT f) (l : List α) : sortB (l.map f) = true := by
  unfold Eng.sortB
  simp only [Bool.and_eq_true, List.all_eq_true, Bool.or_eq_true, decide_eq_true_eq]
  refine ⟨⟨fun x hx y hy => ?_, .inl fun x hx => ?_⟩, fun x hx => ?_⟩
  · obtain ⟨a, _, rfl⟩ := List.mem_map.mp hx
    obtain ⟨b, _, rfl⟩ := List.mem_map.mp hy
    exact E.al a b
  · obtain ⟨a, _, rfl⟩ := List.mem_map.mp hx
    exact E.tp a
  · obtain ⟨a, _, rfl⟩ := List.mem_map.mp hx
    exact ⟨E.lay a, by have := E.dep a; omega⟩
theorem EncT.sorted (E : EncT f) (l : List α) : ∃ m : List α, m.Perm l ∧ (l.map f).mergeSort leD = m.map f ∧ ∀ o, dSorted (.lst o (l.map f)) = some (.lst true (m.map f)) := by
  obtain ⟨m, pm, e⟩ := perm_unmap (List.mergeSort_perm (l.map f) leD) l rfl
  refine ⟨m, pm, e, fun o => ?_⟩
  show (if Eng.sortB (l.map f) = true then some (D.lst true ((l.map f).mergeSort leD)) else none) = _
  rw [if_pos (E.sortB l), e]
theorem EncT.sset (E : EncT f) (l : List α) (h : l.length ≤ 76) : ∃ m : List α, (∀ a, a ∈ m ↔ a ∈ l) ∧ m.length ≤ l.length ∧ m.Nodup ∧ m.map f = (dedD (l.map f)).mergeSort leD ∧ ∀ o, dSSet (.lst o (l.map f)) = some (.lst true (m.map f)) := by
  have pa : (l.map f).all D.pur = true := List.all_eq_true.mpr fun x hx => by
    obtain ⟨a, _, rfl⟩ := List.mem_map.mp hx
    exact E.pur a
  have hlen : (dedD (l.map f)).length ≤ l.length := by
    have := dedD_len (l.map f)
    rwa [List.length_map] at this
  have hall : ∀ d ∈ (dedD (l.map f)).mergeSort leD, d ∈ l.map f := fun d hd => (mem_dedD pa).mp ((List.mergeSort_perm _ _).mem_iff.mp hd)
  obtain ⟨m, e⟩ := of_all (l := (dedD (l.map f)).mergeSort leD) (f := f) fun d hd => by
    obtain ⟨a, _, rfl⟩ := List.mem_map.mp (hall d hd)
    exact ⟨a, rfl⟩
  refine ⟨m, fun a => ?_, ?_, ?_, e.symm, fun o => ?_⟩
  · have h1 : f a ∈ m.map f ↔ f a ∈ l.map f := by
      rw [← e, (List.mergeSort_perm _ _).mem_iff, mem_dedD pa]
    have h2 : ∀ l : List α, f a ∈ l.map f ↔ a ∈ l := fun l => ⟨fun z => by
      obtain ⟨b, hb, eb⟩ := List.mem_map.mp z
      rw [← E.inj _ _ eb]; exact hb, fun z => List.mem_map.mpr ⟨a, z, rfl⟩⟩
    rw [← h2, ← h2, h1]
  · have := congrArg List.length e
    rw [List.length_mergeSort, List.length_map] at this
    omega
  · have : (m.map f).Nodup := by
      rw [← e]
      exact (List.mergeSort_perm _ _).nodup_iff.mpr (dedD_nd _)
    exact List.Pairwise.of_map f (fun _ _ h e => h (congrArg f e)) this
  · show (if setTB (l.map f) = true then some (D.lst true ((dedD (l.map f)).mergeSort leD)) else none) = _
    rw [e, if_pos ?_]
    unfold setTB
    rw [E.sortB]
    simp only [Bool.true_and, Bool.and_eq_true, List.all_eq_true, decide_eq_true_eq]
    refine ⟨fun x hx => ?_, by omega⟩
    obtain ⟨a, _, rfl⟩ := List.mem_map.mp hx
    obtain ⟨n, hn⟩ := E.key a
    exact ⟨⟨E.pur a, E.tp a⟩, by rw [hn]; rfl⟩
end
end Lib
namespace K05
open PySem PySem.Spec PyProof.Rows L2 RT Eng
/-! ### the text -/
def top (i : Nat) : Stmt := PySem.Challenge.pw_doneroom_k05_what_programs_have.main.body.getD i (.Pass ⟨0, 0, 0, 0⟩)
def f_law_names : Fd := ⟨"_law_names", 1, [], ["cell"],
 (.cons (.ret (.sub (.lst (.cons (.lst (.cons (.con (.str "z")) (.cons (.con (.str "a")) (.cons (.con (.str "zz")) (.cons (.con (.str "az")) (.cons (.con (.str "b")) .nil)))))) (.cons (.lst (.cons (.con (.str "e")) (.cons (.con (.str "d")) (.cons (.con (.str "c")) (.cons (.con (.str "b")) (.cons (.con (.str "a")) .nil)))))) (.cons (.lst (.cons (.con (.str "ab")) (.cons (.con (.str "a")) (.cons (.con (.str "abcdefgh")) (.cons (.con (.str "abc")) (.cons (.con (.str "b")) .nil)))))) (.cons (.lst (.cons (.con (.str "q")) (.cons (.con (.str "w")) (.cons (.con (.str "e")) (.cons (.con (.str "r")) (.cons (.con (.str "t")) .nil)))))) .nil))))) (.bin .mod (.var 0) (.con (.int 4)))))
 .nil)⟩
def f_law_cell : Fd := ⟨"_law_cell", 2, [], ["script", "k"],
 (.cons (.ife (.cmp .lt (.var 1) (.blt .len (.cons (.var 0) .nil))) (.cons (.ret (.bin .mod (.sub (.var 0) (.var 1)) (.bin .pow (.con (.int 10)) (.con (.int 40)))))
 .nil) .nil)
 (.cons (.ret (.bin .fdiv (.bin .mul (.bin .mul (.bin .add (.var 1) (.con (.int 2))) (.con (.int 86028121))) (.bin .add (.var 1) (.con (.int 6)))) (.con (.int 11))))
 .nil))⟩
def f_law_line : Fd := ⟨"_law_line", 3, [], ["cell", "boxes", "words", "x", "y", "z", "w"],
 (.cons (.set 3 (.sub (.var 1) (.bin .mod (.bin .fdiv (.var 0) (.con (.int 12))) (.con (.int 5)))))
 (.cons (.set 4 (.sub (.var 1) (.bin .mod (.bin .fdiv (.var 0) (.con (.int 60))) (.con (.int 5)))))
 (.cons (.set 5 (.sub (.var 1) (.bin .mod (.bin .fdiv (.var 0) (.con (.int 300))) (.con (.int 5)))))
 (.cons (.set 6 (.sub (.var 2) (.bin .mod (.bin .fdiv (.var 0) (.con (.int 1500))) (.con (.int 5)))))
 (.cons (.ret (.sub (.lst (.cons (.tup (.cons (.con (.str "pair")) (.cons (.var 3) (.cons (.var 6) (.cons (.var 4) (.cons (.var 5) .nil)))))) (.cons (.tup (.cons (.con (.str "first")) (.cons (.var 3) (.cons (.var 4) .nil)))) (.cons (.tup (.cons (.con (.str "second")) (.cons (.var 3) (.cons (.var 4) .nil)))) (.cons (.tup (.cons (.con (.str "same")) (.cons (.var 3) (.cons (.var 4) .nil)))) (.cons (.tup (.cons (.con (.str "none")) (.cons (.var 3) .nil))) (.cons (.tup (.cons (.con (.str "tell")) (.cons (.var 4) .nil))) (.cons (.tup (.cons (.con (.str "back")) (.cons (.var 6) .nil))) (.cons (.tup (.cons (.con (.str "same")) (.cons (.var 5) (.cons (.var 3) .nil)))) (.cons (.tup (.cons (.con (.str "back")) (.cons (.var 6) .nil))) (.cons (.tup (.cons (.con (.str "pair")) (.cons (.var 3) (.cons (.var 6) (.cons (.var 3) (.cons (.var 3) .nil)))))) (.cons (.tup (.cons (.con (.str "tell")) (.cons (.var 3) .nil))) (.cons (.tup (.cons (.con (.str "none")) (.cons (.var 5) .nil))) .nil))))))))))))) (.bin .mod (.var 0) (.con (.int 12)))))
 .nil)))))⟩
def f_law_program_b1 : Sts := (.cons (.app 5 (.call "_law_line" (.cons (.call "_law_cell" (.cons (.var 0) (.cons (.bin .add (.bin .add (.con (.int 7)) (.bin .mul (.con (.int 6)) (.var 4))) (.var 6)) .nil))) (.cons (.var 1) (.cons (.var 2) .nil)))))
 .nil)
def f_law_program_b2 : Sts := (.cons (.set 5 (.lst .nil))
 (.cons (.loop (.nm 6) (.range (.cons (.bin .mod (.call "_law_cell" (.cons (.var 0) (.cons (.bin .add (.con (.int 2)) (.var 4)) .nil))) (.con (.int 7))) .nil)) f_law_program_b1)
 (.cons (.ife (.and (.cons (.cmp .lt (.var 4) (.bin .mod (.call "_law_cell" (.cons (.var 0) (.cons (.con (.int 1)) .nil))) (.con (.int 5)))) (.cons (.cmp .gt (.bin .mod (.bin .fdiv (.call "_law_cell" (.cons (.var 0) (.cons (.bin .add (.con (.int 2)) (.var 4)) .nil))) (.con (.int 7))) (.con (.int 3))) (.con (.int 0))) .nil))) (.cons (.app 5 (.tup (.cons (.con (.str "do")) (.cons (.sub (.lst (.cons (.con (.str "l")) (.cons (.con (.str "k")) (.cons (.con (.str "a")) (.cons (.con (.str "zz")) .nil))))) (.var 4)) .nil))))
 .nil) .nil)
 (.cons (.ife (.cmp .eq (.bin .mod (.bin .fdiv (.call "_law_cell" (.cons (.var 0) (.cons (.bin .add (.con (.int 2)) (.var 4)) .nil))) (.con (.int 21))) (.con (.int 3))) (.con (.int 0))) (.cons (.set 5 (.bin .add (.bin .add (.lst (.cons (.tup (.cons (.con (.str "either")) .nil)) .nil)) (.var 5)) (.lst (.cons (.tup (.cons (.con (.str "or")) .nil)) (.cons (.tup (.cons (.con (.str "end")) .nil)) .nil)))))
 .nil) .nil)
 (.cons (.app 3 (.tup (.cons (.sub (.lst (.cons (.con (.str "m")) (.cons (.con (.str "l")) (.cons (.con (.str "k")) (.cons (.con (.str "a")) (.cons (.con (.str "zz")) .nil)))))) (.var 4)) (.cons (.blt .tuple (.cons (.var 5) .nil)) .nil))))
 .nil)))))
def f_law_program : Fd := ⟨"_law_program", 1, [], ["script", "boxes", "words", "parts", "k", "lines", "j"],
 (.cons (.set 1 (.call "_law_names" (.cons (.call "_law_cell" (.cons (.var 0) (.cons (.con (.int 0)) .nil))) .nil)))
 (.cons (.set 2 (.call "_law_names" (.cons (.bin .fdiv (.call "_law_cell" (.cons (.var 0) (.cons (.con (.int 0)) .nil))) (.con (.int 4))) .nil)))
 (.cons (.set 3 (.lst .nil))
 (.cons (.loop (.nm 4) (.range (.cons (.bin .add (.con (.int 1)) (.bin .mod (.call "_law_cell" (.cons (.var 0) (.cons (.con (.int 1)) .nil))) (.con (.int 5)))) .nil)) f_law_program_b2)
 (.cons (.ret (.blt .tuple (.cons (.var 3) .nil)))
 .nil)))))⟩
def f_law_added : Fd := ⟨"_law_added", 2, [0], ["found", "name"],
 (.cons (.ife (.cmp .notin (.var 1) (.var 0)) (.cons (.app 0 (.var 1))
 .nil) .nil)
 .nil)⟩
def f_law_due_b1 : Sts := (.cons (.ife (.cmp .eq (.sub (.var 6) (.con (.int 0))) (.con (.str "pair"))) (.cons (.drop (.callIO "_law_added" (.cons (.var 2) (.cons (.sub (.var 6) (.con (.int 2))) .nil)) [(0, 2)]))
 (.cons (.drop (.callIO "_law_added" (.cons (.var 1) (.cons (.sub (.var 6) (.con (.int 3))) .nil)) [(0, 1)]))
 (.cons (.drop (.callIO "_law_added" (.cons (.var 1) (.cons (.sub (.var 6) (.con (.int 4))) .nil)) [(0, 1)]))
 .nil))) .nil)
 (.cons (.ife (.cmp .isin (.sub (.var 6) (.con (.int 0))) (.tup (.cons (.con (.str "pair")) (.cons (.con (.str "first")) (.cons (.con (.str "second")) (.cons (.con (.str "same")) (.cons (.con (.str "none")) (.cons (.con (.str "tell")) .nil)))))))) (.cons (.drop (.callIO "_law_added" (.cons (.var 1) (.cons (.sub (.var 6) (.con (.int 1))) .nil)) [(0, 1)]))
 .nil) .nil)
 (.cons (.ife (.cmp .isin (.sub (.var 6) (.con (.int 0))) (.tup (.cons (.con (.str "first")) (.cons (.con (.str "second")) (.cons (.con (.str "same")) .nil))))) (.cons (.drop (.callIO "_law_added" (.cons (.var 1) (.cons (.sub (.var 6) (.con (.int 2))) .nil)) [(0, 1)]))
 .nil) .nil)
 .nil)))
def f_law_due_b2 : Sts := (.cons (.loop (.nm 6) (.of (.sub (.var 5) (.con (.int 1)))) f_law_due_b1)
 (.cons (.ext 3 (.comp (.tup (.cons (.var 4) (.cons (.var 7) .nil))) (.nm 7) (.range (.cons (.bin .add (.blt .len (.cons (.sub (.var 5) (.con (.int 1))) .nil)) (.con (.int 1))) .nil)) .none))
 .nil))
def f_law_due : Fd := ⟨"_law_due", 1, [], ["program", "boxes", "words", "places", "number", "part", "line", "k"],
 (.cons (.set 1 (.lst .nil))
 (.cons (.set 2 (.lst .nil))
 (.cons (.set 3 (.lst .nil))
 (.cons (.loop (.tp [4, 5]) (.enum (.var 0)) f_law_due_b2)
 (.cons (.ret (.lst (.cons (.blt .sorted (.cons (.var 1) .nil)) (.cons (.blt .sorted (.cons (.var 2) .nil)) (.cons (.var 3) .nil)))))
 .nil)))))⟩
def f_all_lines_b1 : Sts := (.cons (.ext 1 (.sub (.var 2) (.con (.int 1))))
 .nil)
def f_all_lines : Fd := ⟨"all_lines", 1, [], ["program", "found", "part"],
 (.cons (.set 1 (.lst .nil))
 (.cons (.loop (.nm 2) (.of (.var 0)) f_all_lines_b1)
 (.cons (.ret (.mov 1))
 .nil)))⟩
def f_boxes_in : Fd := ⟨"boxes_in", 1, [], ["line"],
 (.cons (.ife (.cmp .eq (.sub (.var 0) (.con (.int 0))) (.con (.str "pair"))) (.cons (.ret (.lst (.cons (.sub (.var 0) (.con (.int 1))) (.cons (.sub (.var 0) (.con (.int 3))) (.cons (.sub (.var 0) (.con (.int 4))) .nil)))))
 .nil) .nil)
 (.cons (.ife (.or (.cons (.cmp .isin (.sub (.var 0) (.con (.int 0))) (.glo "GIVING")) (.cons (.cmp .eq (.sub (.var 0) (.con (.int 0))) (.con (.str "tell"))) .nil))) (.cons (.ret (.blt .list (.cons (.slc (.var 0) (.some (.con (.int 1))) .none) .nil)))
 .nil) .nil)
 (.cons (.ret (.lst .nil))
 .nil)))⟩
def f_boxes_of_b1 : Sts := (.cons (.put 1 (.var 3) (.con (.bl true)))
 .nil)
def f_boxes_of_b2 : Sts := (.cons (.loop (.nm 3) (.of (.call "boxes_in" (.cons (.var 2) .nil))) f_boxes_of_b1)
 .nil)
def f_boxes_of : Fd := ⟨"boxes_of", 1, [], ["program", "found", "line", "box"],
 (.cons (.set 1 (.dct .nil))
 (.cons (.loop (.nm 2) (.of (.call "all_lines" (.cons (.var 0) .nil))) f_boxes_of_b2)
 (.cons (.ret (.blt .sorted (.cons (.var 1) .nil)))
 .nil)))⟩
def f_words_of_b1 : Sts := (.cons (.ife (.cmp .eq (.sub (.var 2) (.con (.int 0))) (.con (.str "pair"))) (.cons (.put 1 (.sub (.var 2) (.con (.int 2))) (.con (.bl true)))
 .nil) .nil)
 .nil)
def f_words_of : Fd := ⟨"words_of", 1, [], ["program", "found", "line"],
 (.cons (.set 1 (.dct .nil))
 (.cons (.loop (.nm 2) (.of (.call "all_lines" (.cons (.var 0) .nil))) f_words_of_b1)
 (.cons (.ret (.blt .sorted (.cons (.var 1) .nil)))
 .nil)))⟩
def f_places_of_b1 : Sts := (.cons (.app 1 (.tup (.cons (.var 2) (.cons (.var 4) .nil))))
 .nil)
def f_places_of_b2 : Sts := (.cons (.loop (.nm 4) (.range (.cons (.bin .add (.blt .len (.cons (.sub (.var 3) (.con (.int 1))) .nil)) (.con (.int 1))) .nil)) f_places_of_b1)
 .nil)
def f_places_of : Fd := ⟨"places_of", 1, [], ["program", "found", "number", "part", "k"],
 (.cons (.set 1 (.lst .nil))
 (.cons (.loop (.tp [2, 3]) (.enum (.var 0)) f_places_of_b2)
 (.cons (.ret (.mov 1))
 .nil)))⟩
def f_law_b1 : Sts := (.cons (.set 4 (.lst (.cons (.call "boxes_of" (.cons (.var 1) .nil)) (.cons (.call "words_of" (.cons (.var 1) .nil)) (.cons (.call "places_of" (.cons (.var 1) .nil)) .nil)))))
 (.cons (.ife (.or (.cons (.cmp .ne (.var 4) (.var 2)) (.cons (.cmp .isin (.con (.bl false)) (.comp (.isi (.var 5) .list) (.nm 5) (.of (.var 4)) .none)) .nil))) (.cons (.ret (.con (.bl false)))
 .nil) .nil)
 (.cons (.ife (.cmp .isin (.con (.bl false)) (.comp (.isi (.var 6) .tuple) (.nm 6) (.of (.sub (.var 4) (.con (.int 2)))) .none)) (.cons (.ret (.con (.bl false)))
 .nil) .nil)
 (.cons (.each 4 5 (.str "x"))
 .nil))))
def f_law : Fd := ⟨"law", 1, [], ["script", "program", "due", "turn", "found", "one", "place"],
 (.cons (.set 1 (.call "_law_program" (.cons (.var 0) .nil)))
 (.cons (.set 2 (.call "_law_due" (.cons (.var 1) .nil)))
 (.cons (.loop (.nm 3) (.range (.cons (.con (.int 2)) .nil)) f_law_b1)
 (.cons (.ret (.cmp .eq (.var 1) (.call "_law_program" (.cons (.var 0) .nil))))
 .nil))))⟩
def gv : List (Str × D) := [("GIVING", (.tup [(.str "pair"), (.str "first"), (.str "second"), (.str "same"), (.str "none")]))]
def es : List Tx := [(f_law_names, top 10), (f_law_cell, top 9), (f_law_line, top 11), (f_law_program, top 12), (f_law_added, top 13), (f_law_due, top 14), (f_all_lines, top 4), (f_boxes_in, top 2), (f_boxes_of, top 5), (f_words_of, top 6), (f_places_of, top 7), (f_law, top 15)]
theorem b_law_names : Bnd (f_law_names, top 10) := fun _ _ _ _ _ _ us hl => match us, hl with | [_], _ => rfl
theorem b_law_cell : Bnd (f_law_cell, top 9) := fun _ _ _ _ _ _ us hl => match us, hl with | [_, _], _ => rfl
theorem b_law_line : Bnd (f_law_line, top 11) := fun _ _ _ _ _ _ us hl => match us, hl with | [_, _, _], _ => rfl
theorem b_law_program : Bnd (f_law_program, top 12) := fun _ _ _ _ _ _ us hl => match us, hl with | [_], _ => rfl
theorem b_law_added : Bnd (f_law_added, top 13) := fun _ _ _ _ _ _ us hl => match us, hl with | [_, _], _ => rfl
theorem b_law_due : Bnd (f_law_due, top 14) := fun _ _ _ _ _ _ us hl => match us, hl with | [_], _ => rfl
theorem b_all_lines : Bnd (f_all_lines, top 4) := fun _ _ _ _ _ _ us hl => match us, hl with | [_], _ => rfl
theorem b_boxes_in : Bnd (f_boxes_in, top 2) := fun _ _ _ _ _ _ us hl => match us, hl with | [_], _ => rfl
theorem b_boxes_of : Bnd (f_boxes_of, top 5) := fun _ _ _ _ _ _ us hl => match us, hl with | [_], _ => rfl
theorem b_words_of : Bnd (f_words_of, top 6) := fun _ _ _ _ _ _ us hl => match us, hl with | [_], _ => rfl
theorem b_places_of : Bnd (f_places_of, top 7) := fun _ _ _ _ _ _ us hl => match us, hl with | [_], _ => rfl
theorem b_law : Bnd (f_law, top 15) := fun _ _ _ _ _ _ us hl => match us, hl with | [_], _ => rfl
theorem bnd : ∀ e ∈ es, Bnd e := by
  intro e he
  simp only [es, List.mem_cons, List.not_mem_nil, or_false] at he
  rcases he with rfl | rfl | rfl | rfl | rfl | rfl | rfl | rfl | rfl | rfl | rfl | rfl
  · exact b_law_names
  · exact b_law_cell
  · exact b_law_line
  · exact b_law_program
  · exact b_law_added
  · exact b_law_due
  · exact b_all_lines
  · exact b_boxes_in
  · exact b_boxes_of
  · exact b_words_of
  · exact b_places_of
  · exact b_law

theorem ok_all : (es.all fun e => okF (sgOf (es.map (·.1)) gv) e.1 e.2) = true := by decide +kernel
theorem gv_all : gvN gv = true := by decide +kernel
end K05
namespace K05
open PySem PySem.Spec PyProof.Rows L2 RT Eng Lib
abbrev Nm := {x : Str // PyData.strOk x = true}
def tx (x : Nm) : D := .str x.1
theorem encN : Enc tx where
  pur := fun _ => rfl
  lay := fun x => x.2
  dep := fun _ => Nat.zero_le _
  key := fun x => ⟨.text x.1, rfl⟩
  inj := fun a b h => by unfold tx at h; injection h with h; exact Subtype.ext h
theorem cell_ok (S : Sem0) (ns : List Int) (k : Int) (h0 : 0 ≤ k) (h1 : k ≤ 1000) : ∃ c, 0 ≤ c ∧ runF S f_law_cell [scr ns, .int k] = some (.int c, [none, none]) := by
  have hz : frzL (ns.map D.int) = ns.map D.int := frz_ints ns
  have p1 : (0 : Int) ≤ 40 ∧ (40 : Int) ≤ 1000000 ∧ (10 : Int).natAbs < 2 ^ 64 := by decide
  have n1 := mul_ok (a := k + 2) (b := 86028121) (by omega) (by decide)
  have n2 := mul_ok (a := (k + 2) * 86028121) (b := k + 6) (by omega) (by omega)
  have n3 : (0 : Int) < 11 ∧ (11 : Int).natAbs.log2 < 9000 := by decide +kernel
  by_cases hk : k < (ns.length : Int)
  · obtain ⟨d, e1, e2⟩ := atI_in (xs := ns.map D.int) h0 (by rw [List.length_map]; exact hk)
    obtain ⟨n, _, rfl⟩ := List.mem_map.mp e2
    have hp : (0 : Int) < 10000000000000000000000000000000000000000 := by decide
    refine ⟨n % 10000000000000000000000000000000000000000, Int.emod_nonneg _ (by decide), ?_⟩
    simp only [f_law_cell, scr, hz, List.length_map, hk, e1, p1, pow40, hp, decide_true, and_self, runF, evSs, evS, evT, evE, evAnd, evOr, evAndE, evOrE, evEs, evO, evC, evI, env0, endF, one, two, three, Eng.many, meth, chk, putD, appD, isLst, Eng.kept, Eng.kill, bindT, setAll, Tgt.slots, Exs.isNil, Ex.pure, Exs.pure, Ox.pure, Itr.pure, Ex.vars, Exs.vars, Ox.vars, Itr.vars, popD, popAtD, deepD, getP, putP, evP, callIO, ioArgs, ioSlot, ioOk, ioOut, ioV, ioClean, outs_from, outsGo, List.lookup_cons, List.lookup_nil, List.any_cons, List.any_nil, List.all_cons, List.all_nil, Exs.toList, Ex.isVar, frzE, cleanE, D.clean, cleanL, D.frz, frzL, frz_frz, frzL_frz, tru, get0_cons_zero, get0_cons_succ, get0_nil, List.set_cons_zero, List.set_cons_succ, frzAt_from, frzFrom, List.elem_cons, List.elem_nil, Nat.reduceBEq, List.length_cons, List.length_nil, List.map_cons, List.map_nil, List.replicate_succ, List.replicate_zero, List.cons_append, List.nil_append, List.append_nil, Option.map_some, Option.map_none, Option.bind_some, Option.bind_none, Nat.reduceSub, Nat.reduceAdd, List.range_eq_nil, Bool.not_false, Bool.not_true, Bool.or_true, Bool.true_or, Bool.or_false, Bool.false_or, Bool.and_true, Bool.true_and, Bool.and_false, Bool.false_and, Bool.not_not, Bool.false_eq_true, if_true, if_false, reduceIte, reduceCtorEq, x_blt_len, x_blt_int, x_blt_str, x_blt_list, x_blt_tuple, x_blt_max, x_blt_min, x_blt_sset, x_blt_sorted, x_sorted, x_sortd, x_mth_join, x_mth_upper, x_mth_index, x_isi_str_non, x_isi_str_bl, x_isi_str_int, x_isi_str_str, x_isi_str_lst, x_isi_str_tup, x_isi_str_dct, x_isi_int_non, x_isi_int_bl, x_isi_int_int, x_isi_int_str, x_isi_int_lst, x_isi_int_tup, x_isi_int_dct, x_isi_bool_non, x_isi_bool_bl, x_isi_bool_int, x_isi_bool_str, x_isi_bool_lst, x_isi_bool_tup, x_isi_bool_dct, x_isi_tuple_non, x_isi_tuple_bl, x_isi_tuple_int, x_isi_tuple_str, x_isi_tuple_lst, x_isi_tuple_tup, x_isi_tuple_dct, x_isi_list_non, x_isi_list_bl, x_isi_list_int, x_isi_list_str, x_isi_list_lst, x_isi_list_tup, x_isi_list_dct, x_tru_non, x_tru_bl, x_tru_int, x_tru_str, x_tru_lst, x_tru_tup, x_neg, x_sub_lst, x_sub_tup, x_sub_str, x_sub_dct, x_cut_lst, x_cut_tup, x_cut_str, x_len_str, x_len_lst, x_len_tup, x_len_dct, x_int_int, x_int_bl, x_str_int, x_list_lst, x_list_tup, x_list_dct, x_tuple_lst, x_tuple_tup, x_max, x_min, x_add_int, x_add_str, x_add_lst, x_add_tup, x_sub_int, x_mul, x_muls, x_fdiv, x_mod, x_pow, x_cmp_eq, x_cmp_ne, x_cmp_lt, x_cmp_le, x_cmp_gt, x_cmp_ge, x_cmp_isin, x_cmp_notin, x_cmp_is, x_cmp_isnot, x_lt_int, x_le_int, x_gt_int, x_ge_int, x_lt_str, x_le_str, x_is_non, x_is_bl, x_is_bl_non, x_is_int_non, x_is_str_non, x_is_lst_non, x_is_tup_non, x_is_dct_non, x_in_lst, x_in_tup, x_in_dct, x_in_str, x_wk_lst, x_wk_tup, x_wk_str, x_li, x_di_lst, x_di_tup, x_rg1, x_rg2, x_rg3, x_oi, x_db, x_bnm, x_btp, x_dput, x_dput_dct, x_key_int, x_key_str, x_rep_lst, x_rep_tup, x_rep_dct, x_sb1_lst, x_sb1_tup, x_sb1_dct, x_app1, x_eq_int, x_eq_bl]
  · have : 0 ≤ (k + 2) * 86028121 * (k + 6) := Int.mul_nonneg (by omega) (by omega)
    refine ⟨(k + 2) * 86028121 * (k + 6) / 11, by omega, ?_⟩
    simp only [f_law_cell, scr, hz, List.length_map, hk, n1, n2, n3, and_self, decide_false, runF, evSs, evS, evT, evE, evAnd, evOr, evAndE, evOrE, evEs, evO, evC, evI, env0, endF, one, two, three, Eng.many, meth, chk, putD, appD, isLst, Eng.kept, Eng.kill, bindT, setAll, Tgt.slots, Exs.isNil, Ex.pure, Exs.pure, Ox.pure, Itr.pure, Ex.vars, Exs.vars, Ox.vars, Itr.vars, popD, popAtD, deepD, getP, putP, evP, callIO, ioArgs, ioSlot, ioOk, ioOut, ioV, ioClean, outs_from, outsGo, List.lookup_cons, List.lookup_nil, List.any_cons, List.any_nil, List.all_cons, List.all_nil, Exs.toList, Ex.isVar, frzE, cleanE, D.clean, cleanL, D.frz, frzL, frz_frz, frzL_frz, tru, get0_cons_zero, get0_cons_succ, get0_nil, List.set_cons_zero, List.set_cons_succ, frzAt_from, frzFrom, List.elem_cons, List.elem_nil, Nat.reduceBEq, List.length_cons, List.length_nil, List.map_cons, List.map_nil, List.replicate_succ, List.replicate_zero, List.cons_append, List.nil_append, List.append_nil, Option.map_some, Option.map_none, Option.bind_some, Option.bind_none, Nat.reduceSub, Nat.reduceAdd, List.range_eq_nil, Bool.not_false, Bool.not_true, Bool.or_true, Bool.true_or, Bool.or_false, Bool.false_or, Bool.and_true, Bool.true_and, Bool.and_false, Bool.false_and, Bool.not_not, Bool.false_eq_true, if_true, if_false, reduceIte, reduceCtorEq, x_blt_len, x_blt_int, x_blt_str, x_blt_list, x_blt_tuple, x_blt_max, x_blt_min, x_blt_sset, x_blt_sorted, x_sorted, x_sortd, x_mth_join, x_mth_upper, x_mth_index, x_isi_str_non, x_isi_str_bl, x_isi_str_int, x_isi_str_str, x_isi_str_lst, x_isi_str_tup, x_isi_str_dct, x_isi_int_non, x_isi_int_bl, x_isi_int_int, x_isi_int_str, x_isi_int_lst, x_isi_int_tup, x_isi_int_dct, x_isi_bool_non, x_isi_bool_bl, x_isi_bool_int, x_isi_bool_str, x_isi_bool_lst, x_isi_bool_tup, x_isi_bool_dct, x_isi_tuple_non, x_isi_tuple_bl, x_isi_tuple_int, x_isi_tuple_str, x_isi_tuple_lst, x_isi_tuple_tup, x_isi_tuple_dct, x_isi_list_non, x_isi_list_bl, x_isi_list_int, x_isi_list_str, x_isi_list_lst, x_isi_list_tup, x_isi_list_dct, x_tru_non, x_tru_bl, x_tru_int, x_tru_str, x_tru_lst, x_tru_tup, x_neg, x_sub_lst, x_sub_tup, x_sub_str, x_sub_dct, x_cut_lst, x_cut_tup, x_cut_str, x_len_str, x_len_lst, x_len_tup, x_len_dct, x_int_int, x_int_bl, x_str_int, x_list_lst, x_list_tup, x_list_dct, x_tuple_lst, x_tuple_tup, x_max, x_min, x_add_int, x_add_str, x_add_lst, x_add_tup, x_sub_int, x_mul, x_muls, x_fdiv, x_mod, x_pow, x_cmp_eq, x_cmp_ne, x_cmp_lt, x_cmp_le, x_cmp_gt, x_cmp_ge, x_cmp_isin, x_cmp_notin, x_cmp_is, x_cmp_isnot, x_lt_int, x_le_int, x_gt_int, x_ge_int, x_lt_str, x_le_str, x_is_non, x_is_bl, x_is_bl_non, x_is_int_non, x_is_str_non, x_is_lst_non, x_is_tup_non, x_is_dct_non, x_in_lst, x_in_tup, x_in_dct, x_in_str, x_wk_lst, x_wk_tup, x_wk_str, x_li, x_di_lst, x_di_tup, x_rg1, x_rg2, x_rg3, x_oi, x_db, x_bnm, x_btp, x_dput, x_dput_dct, x_key_int, x_key_str, x_rep_lst, x_rep_tup, x_rep_dct, x_sb1_lst, x_sb1_tup, x_sb1_dct, x_app1, x_eq_int, x_eq_bl]
def nm (x : Str) (h : PyData.strOk x = true := by decide +kernel) : Nm := ⟨x, h⟩
def nms : List (List Nm) := [[nm "z", nm "a", nm "zz", nm "az", nm "b"], [nm "e", nm "d", nm "c", nm "b", nm "a"], [nm "ab", nm "a", nm "abcdefgh", nm "abc", nm "b"], [nm "q", nm "w", nm "e", nm "r", nm "t"]]
theorem names_ok (S : Sem0) (c : Int) : ∃ l : List Nm, l.length = 5 ∧ runF S f_law_names [.int c] = some (.lst false (l.map tx), [none]) := by
  have p4 : (0 : Int) < 4 := by decide
  obtain ⟨d, e1, e2⟩ := atI_in (xs := nms.map fun l => D.lst false (l.map tx)) (i := c % 4) (by omega) (by show c % 4 < 4; omega)
  obtain ⟨l, h1, rfl⟩ := List.mem_map.mp e2
  refine ⟨l, by
    have : ∀ l ∈ nms, l.length = 5 := by decide
    exact this l h1, ?_⟩
  have e1' : atI [D.lst false [.str "z", .str "a", .str "zz", .str "az", .str "b"], D.lst false [.str "e", .str "d", .str "c", .str "b", .str "a"], D.lst false [.str "ab", .str "a", .str "abcdefgh", .str "abc", .str "b"], D.lst false [.str "q", .str "w", .str "e", .str "r", .str "t"]] (c % 4) = some (.lst false (l.map tx)) := e1
  simp only [f_law_names, p4, e1', f0, f1, f2, f3, f4, f5, f6, f7, f8, encN.frz, encN.frzL, encN.clean, encN.cleanL, frz_scr, frz_app, List.map_append, List.length_append, List.length_map, decide_true, decide_false, and_self, runF, evSs, evS, evT, evE, evAnd, evOr, evAndE, evOrE, evEs, evO, evC, evI, env0, endF, one, two, three, Eng.many, meth, chk, putD, appD, isLst, Eng.kept, Eng.kill, bindT, setAll, Tgt.slots, Exs.isNil, Ex.pure, Exs.pure, Ox.pure, Itr.pure, Ex.vars, Exs.vars, Ox.vars, Itr.vars, popD, popAtD, deepD, getP, putP, evP, callIO, ioArgs, ioSlot, ioOk, ioOut, ioV, ioClean, outs_from, outsGo, List.lookup_cons, List.lookup_nil, List.any_cons, List.any_nil, List.all_cons, List.all_nil, Exs.toList, Ex.isVar, frzE, cleanE, D.clean, cleanL, D.frz, frzL, frz_frz, frzL_frz, tru, get0_cons_zero, get0_cons_succ, get0_nil, List.set_cons_zero, List.set_cons_succ, frzAt_from, frzFrom, List.elem_cons, List.elem_nil, Nat.reduceBEq, List.length_cons, List.length_nil, List.map_cons, List.map_nil, List.replicate_succ, List.replicate_zero, List.cons_append, List.nil_append, List.append_nil, Option.map_some, Option.map_none, Option.bind_some, Option.bind_none, Nat.reduceSub, Nat.reduceAdd, List.range_eq_nil, Bool.not_false, Bool.not_true, Bool.or_true, Bool.true_or, Bool.or_false, Bool.false_or, Bool.and_true, Bool.true_and, Bool.and_false, Bool.false_and, Bool.not_not, Bool.false_eq_true, if_true, if_false, reduceIte, reduceCtorEq, x_blt_len, x_blt_int, x_blt_str, x_blt_list, x_blt_tuple, x_blt_max, x_blt_min, x_blt_sset, x_blt_sorted, x_sorted, x_sortd, x_mth_join, x_mth_upper, x_mth_index, x_isi_str_non, x_isi_str_bl, x_isi_str_int, x_isi_str_str, x_isi_str_lst, x_isi_str_tup, x_isi_str_dct, x_isi_int_non, x_isi_int_bl, x_isi_int_int, x_isi_int_str, x_isi_int_lst, x_isi_int_tup, x_isi_int_dct, x_isi_bool_non, x_isi_bool_bl, x_isi_bool_int, x_isi_bool_str, x_isi_bool_lst, x_isi_bool_tup, x_isi_bool_dct, x_isi_tuple_non, x_isi_tuple_bl, x_isi_tuple_int, x_isi_tuple_str, x_isi_tuple_lst, x_isi_tuple_tup, x_isi_tuple_dct, x_isi_list_non, x_isi_list_bl, x_isi_list_int, x_isi_list_str, x_isi_list_lst, x_isi_list_tup, x_isi_list_dct, x_tru_non, x_tru_bl, x_tru_int, x_tru_str, x_tru_lst, x_tru_tup, x_neg, x_sub_lst, x_sub_tup, x_sub_str, x_sub_dct, x_cut_lst, x_cut_tup, x_cut_str, x_len_str, x_len_lst, x_len_tup, x_len_dct, x_int_int, x_int_bl, x_str_int, x_list_lst, x_list_tup, x_list_dct, x_tuple_lst, x_tuple_tup, x_max, x_min, x_add_int, x_add_str, x_add_lst, x_add_tup, x_sub_int, x_mul, x_muls, x_fdiv, x_mod, x_pow, x_cmp_eq, x_cmp_ne, x_cmp_lt, x_cmp_le, x_cmp_gt, x_cmp_ge, x_cmp_isin, x_cmp_notin, x_cmp_is, x_cmp_isnot, x_lt_int, x_le_int, x_gt_int, x_ge_int, x_lt_str, x_le_str, x_is_non, x_is_bl, x_is_bl_non, x_is_int_non, x_is_str_non, x_is_lst_non, x_is_tup_non, x_is_dct_non, x_in_lst, x_in_tup, x_in_dct, x_in_str, x_wk_lst, x_wk_tup, x_wk_str, x_li, x_di_lst, x_di_tup, x_rg1, x_rg2, x_rg3, x_oi, x_db, x_bnm, x_btp, x_dput, x_dput_dct, x_key_int, x_key_str, x_rep_lst, x_rep_tup, x_rep_dct, x_sb1_lst, x_sb1_tup, x_sb1_dct, x_app1, x_eq_int, x_eq_bl]
/-! lines -/
inductive Ln where
  | pair (x w y z : Nm) | two (k : Fin 3) (x y : Nm) | one (k : Fin 2) (x : Nm) | back (w : Nm) | doo (n : Nm) | kw (k : Fin 3)
def twoW (k : Fin 3) : Str := if k = 0 then "first" else if k = 1 then "second" else "same"
def oneW (k : Fin 2) : Str := if k = 0 then "none" else "tell"
def kwW (k : Fin 3) : Str := if k = 0 then "either" else if k = 1 then "or" else "end"
def lnD : Ln → D
  | .pair x w y z => .tup [.str "pair", tx x, tx w, tx y, tx z]
  | .two k x y => .tup [.str (twoW k), tx x, tx y]
  | .one k x => .tup [.str (oneW k), tx x]
  | .back w => .tup [.str "back", tx w]
  | .doo n => .tup [.str "do", tx n]
  | .kw k => .tup [.str (kwW k)]
theorem ln_pur : ∀ n : Ln, (lnD n).pur = true := fun n => by cases n <;> rfl
theorem ln_frz (n : Ln) : (lnD n).frz = lnD n := pur_frz _ (ln_pur n)
theorem ln_clean (n : Ln) : (lnD n).clean = true := pur_clean _ (ln_pur n)
theorem lns_pur : ∀ l : List Ln, purL (l.map lnD) = true
  | [] => rfl
  | n :: l => by
    show ((lnD n).pur && purL (l.map lnD)) = true
    rw [ln_pur, lns_pur l]; rfl
theorem lns_frz (l : List Ln) : frzL (l.map lnD) = l.map lnD := purL_frz _ (lns_pur l)
theorem lns_clean (l : List Ln) : cleanL (l.map lnD) = true := purL_clean _ (lns_pur l)
theorem line_ok (S : Sem0) (c : Int) (B W : List Nm) (hB : B.length = 5) (hW : W.length = 5) : ∃ n : Ln, runF S f_law_line [.int c, .lst false (B.map tx), .lst false (W.map tx)] = some (lnD n, [none, none, none]) := by
  have pick : ∀ (L : List Nm) (i : Int), L.length = 5 → 0 ≤ i → i < 5 → ∃ x : Nm, atI (L.map tx) i = some (tx x) := fun L i hL h0 h1 => by
    obtain ⟨d, e1, e2⟩ := atI_in (xs := L.map tx) h0 (by rw [List.length_map, hL]; exact h1)
    obtain ⟨x, _, rfl⟩ := List.mem_map.mp e2
    exact ⟨x, e1⟩
  obtain ⟨x, hx⟩ := pick B (c / 12 % 5) hB (by omega) (by omega)
  obtain ⟨y, hy⟩ := pick B (c / 60 % 5) hB (by omega) (by omega)
  obtain ⟨z, hz⟩ := pick B (c / 300 % 5) hB (by omega) (by omega)
  obtain ⟨w, hw⟩ := pick W (c / 1500 % 5) hW (by omega) (by omega)
  have q5 : (0 : Int) < 5 := by decide
  have q12 : (0 : Int) < 12 := by decide
  have d12 : (0 : Int) < 12 ∧ (12 : Int).natAbs.log2 < 9000 := by decide +kernel
  have d60 : (0 : Int) < 60 ∧ (60 : Int).natAbs.log2 < 9000 := by decide +kernel
  have d300 : (0 : Int) < 300 ∧ (300 : Int).natAbs.log2 < 9000 := by decide +kernel
  have d1500 : (0 : Int) < 1500 ∧ (1500 : Int).natAbs.log2 < 9000 := by decide +kernel
  have f12 : fits 12 = true := by decide +kernel
  obtain ⟨d, e1, e2⟩ := atI_in (xs := [Ln.pair x w y z, .two 0 x y, .two 1 x y, .two 2 x y, .one 0 x, .one 1 y, .back w, .two 2 z x, .back w, .pair x w x x, .one 1 x, .one 0 z].map lnD) (i := c % 12) (by omega) (by show c % 12 < 12; omega)
  obtain ⟨n, _, rfl⟩ := List.mem_map.mp e2
  refine ⟨n, ?_⟩
  have e1' : atI [D.tup [.str "pair", tx x, tx w, tx y, tx z], .tup [.str "first", tx x, tx y], .tup [.str "second", tx x, tx y], .tup [.str "same", tx x, tx y], .tup [.str "none", tx x], .tup [.str "tell", tx y], .tup [.str "back", tx w], .tup [.str "same", tx z, tx x], .tup [.str "back", tx w], .tup [.str "pair", tx x, tx w, tx x, tx x], .tup [.str "tell", tx x], .tup [.str "none", tx z]] (c % 12) = some (lnD n) := e1
  simp only [f_law_line, hx, hy, hz, hw, q5, q12, d12, d60, d300, d1500, f12, e1', ln_frz, ln_clean, f0, f1, f2, f3, f4, f5, f6, f7, f8, encN.frz, encN.frzL, encN.clean, encN.cleanL, frz_scr, frz_app, List.map_append, List.length_append, List.length_map, decide_true, decide_false, and_self, runF, evSs, evS, evT, evE, evAnd, evOr, evAndE, evOrE, evEs, evO, evC, evI, env0, endF, one, two, three, Eng.many, meth, chk, putD, appD, isLst, Eng.kept, Eng.kill, bindT, setAll, Tgt.slots, Exs.isNil, Ex.pure, Exs.pure, Ox.pure, Itr.pure, Ex.vars, Exs.vars, Ox.vars, Itr.vars, popD, popAtD, deepD, getP, putP, evP, callIO, ioArgs, ioSlot, ioOk, ioOut, ioV, ioClean, outs_from, outsGo, List.lookup_cons, List.lookup_nil, List.any_cons, List.any_nil, List.all_cons, List.all_nil, Exs.toList, Ex.isVar, frzE, cleanE, D.clean, cleanL, D.frz, frzL, frz_frz, frzL_frz, tru, get0_cons_zero, get0_cons_succ, get0_nil, List.set_cons_zero, List.set_cons_succ, frzAt_from, frzFrom, List.elem_cons, List.elem_nil, Nat.reduceBEq, List.length_cons, List.length_nil, List.map_cons, List.map_nil, List.replicate_succ, List.replicate_zero, List.cons_append, List.nil_append, List.append_nil, Option.map_some, Option.map_none, Option.bind_some, Option.bind_none, Nat.reduceSub, Nat.reduceAdd, List.range_eq_nil, Bool.not_false, Bool.not_true, Bool.or_true, Bool.true_or, Bool.or_false, Bool.false_or, Bool.and_true, Bool.true_and, Bool.and_false, Bool.false_and, Bool.not_not, Bool.false_eq_true, if_true, if_false, reduceIte, reduceCtorEq, x_blt_len, x_blt_int, x_blt_str, x_blt_list, x_blt_tuple, x_blt_max, x_blt_min, x_blt_sset, x_blt_sorted, x_sorted, x_sortd, x_mth_join, x_mth_upper, x_mth_index, x_isi_str_non, x_isi_str_bl, x_isi_str_int, x_isi_str_str, x_isi_str_lst, x_isi_str_tup, x_isi_str_dct, x_isi_int_non, x_isi_int_bl, x_isi_int_int, x_isi_int_str, x_isi_int_lst, x_isi_int_tup, x_isi_int_dct, x_isi_bool_non, x_isi_bool_bl, x_isi_bool_int, x_isi_bool_str, x_isi_bool_lst, x_isi_bool_tup, x_isi_bool_dct, x_isi_tuple_non, x_isi_tuple_bl, x_isi_tuple_int, x_isi_tuple_str, x_isi_tuple_lst, x_isi_tuple_tup, x_isi_tuple_dct, x_isi_list_non, x_isi_list_bl, x_isi_list_int, x_isi_list_str, x_isi_list_lst, x_isi_list_tup, x_isi_list_dct, x_tru_non, x_tru_bl, x_tru_int, x_tru_str, x_tru_lst, x_tru_tup, x_neg, x_sub_lst, x_sub_tup, x_sub_str, x_sub_dct, x_cut_lst, x_cut_tup, x_cut_str, x_len_str, x_len_lst, x_len_tup, x_len_dct, x_int_int, x_int_bl, x_str_int, x_list_lst, x_list_tup, x_list_dct, x_tuple_lst, x_tuple_tup, x_max, x_min, x_add_int, x_add_str, x_add_lst, x_add_tup, x_sub_int, x_mul, x_muls, x_fdiv, x_mod, x_pow, x_cmp_eq, x_cmp_ne, x_cmp_lt, x_cmp_le, x_cmp_gt, x_cmp_ge, x_cmp_isin, x_cmp_notin, x_cmp_is, x_cmp_isnot, x_lt_int, x_le_int, x_gt_int, x_ge_int, x_lt_str, x_le_str, x_is_non, x_is_bl, x_is_bl_non, x_is_int_non, x_is_str_non, x_is_lst_non, x_is_tup_non, x_is_dct_non, x_in_lst, x_in_tup, x_in_dct, x_in_str, x_wk_lst, x_wk_tup, x_wk_str, x_li, x_di_lst, x_di_tup, x_rg1, x_rg2, x_rg3, x_oi, x_db, x_bnm, x_btp, x_dput, x_dput_dct, x_key_int, x_key_str, x_rep_lst, x_rep_tup, x_rep_dct, x_sb1_lst, x_sb1_tup, x_sb1_dct, x_app1, x_eq_int, x_eq_bl]
end K05
namespace K05
open PySem PySem.Spec PyProof.Rows L2 RT Eng Lib
abbrev Part := Nm × List Ln
def partD (p : Part) : D := .tup [tx p.1, .tup (p.2.map lnD)]
def prD (P : List Part) : D := .tup (P.map partD)
theorem pt_pur (p : Part) : (partD p).pur = true := by
  show ((tx p.1).pur && (purL (p.2.map lnD) && true)) = true
  rw [lns_pur]; rfl
theorem pt_frz (p : Part) : (partD p).frz = partD p := pur_frz _ (pt_pur p)
theorem pt_clean (p : Part) : (partD p).clean = true := pur_clean _ (pt_pur p)
theorem pts_pur : ∀ P : List Part, purL (P.map partD) = true
  | [] => rfl
  | p :: P => by
    show ((partD p).pur && purL (P.map partD)) = true
    rw [pt_pur, pts_pur P]; rfl
theorem pts_frz (P : List Part) : frzL (P.map partD) = P.map partD := purL_frz _ (pts_pur P)
theorem pts_clean (P : List Part) : cleanL (P.map partD) = true := purL_clean _ (pts_pur P)
theorem pr_frz (P : List Part) : (prD P).frz = prD P := by show D.tup (frzL (P.map partD)) = _; rw [pts_frz]; rfl
theorem pr_clean (P : List Part) : (prD P).clean = true := pts_clean P
abbrev PEnv (ns : List Int) (B W : List Nm) (P : List Part) (k : Option D) (ls : Option D) (j : Option D) : Rho := [some (scr ns), some (.lst false (B.map tx)), some (.lst false (W.map tx)), some (.lst true (P.map partD)), k, ls, j]
abbrev lsD (l : List Ln) : D := .lst true (l.map lnD)
section
variable (S : Sem0) (ns : List Int) (B W : List Nm) (hcell : ∀ k, 0 ≤ k → k ≤ 1000 → ∃ c, 0 ≤ c ∧ S.call "_law_cell" [scr ns, .int k] = some (.int c, [none, none])) (hline : ∀ c, ∃ n : Ln, S.call "_law_line" [.int c, .lst false (B.map tx), .lst false (W.map tx)] = some (lnD n, [none, none, none]))
include hcell hline
theorem prog_t1 (P : List Part) (k : Int) (k0 : 0 ≤ k) (k1 : k ≤ 10) (l : List Ln) (hl : l.length ≤ 50) (j : Int) (j0 : 0 ≤ j) (j1 : j ≤ 10) :
    ∃ n : Ln, evSs S whl f_law_program_b1 (PEnv ns B W P (some (.int k)) (some (lsD l)) (some (.int j))) = some (.nx (PEnv ns B W P (some (.int k)) (some (lsD (l ++ [n]))) (some (.int j)))) := by
  obtain ⟨c, c0, e0⟩ := hcell (7 + 6 * k + j) (by omega) (by omega)
  obtain ⟨n, e1⟩ := hline c
  have m1 := mul_ok (a := 6) (b := k) (by decide) (by omega)
  have fl : fits (l.length + 1) = true := fit_le (by omega)
  refine ⟨n, ?_⟩
  simp only [PEnv, lsD, f_law_program_b1, m1, e0, e1, fl, f0, f1, f2, f3, f4, f5, f6, f7, f8, encN.frz, encN.frzL, encN.clean, encN.cleanL, ln_frz, ln_clean, lns_frz, lns_clean, pt_frz, pt_clean, pts_frz, pts_clean, frz_scr, frz_app, List.map_append, List.length_append, List.length_map, decide_true, decide_false, and_self, runF, evSs, evS, evT, evE, evAnd, evOr, evAndE, evOrE, evEs, evO, evC, evI, env0, endF, one, two, three, Eng.many, meth, chk, putD, appD, isLst, Eng.kept, Eng.kill, bindT, setAll, Tgt.slots, Exs.isNil, Ex.pure, Exs.pure, Ox.pure, Itr.pure, Ex.vars, Exs.vars, Ox.vars, Itr.vars, popD, popAtD, deepD, getP, putP, evP, callIO, ioArgs, ioSlot, ioOk, ioOut, ioV, ioClean, outs_from, outsGo, List.lookup_cons, List.lookup_nil, List.any_cons, List.any_nil, List.all_cons, List.all_nil, Exs.toList, Ex.isVar, frzE, cleanE, D.clean, cleanL, D.frz, frzL, frz_frz, frzL_frz, tru, get0_cons_zero, get0_cons_succ, get0_nil, List.set_cons_zero, List.set_cons_succ, frzAt_from, frzFrom, List.elem_cons, List.elem_nil, Nat.reduceBEq, List.length_cons, List.length_nil, List.map_cons, List.map_nil, List.replicate_succ, List.replicate_zero, List.cons_append, List.nil_append, List.append_nil, Option.map_some, Option.map_none, Option.bind_some, Option.bind_none, Nat.reduceSub, Nat.reduceAdd, List.range_eq_nil, Bool.not_false, Bool.not_true, Bool.or_true, Bool.true_or, Bool.or_false, Bool.false_or, Bool.and_true, Bool.true_and, Bool.and_false, Bool.false_and, Bool.not_not, Bool.false_eq_true, if_true, if_false, reduceIte, reduceCtorEq, x_blt_len, x_blt_int, x_blt_str, x_blt_list, x_blt_tuple, x_blt_max, x_blt_min, x_blt_sset, x_blt_sorted, x_sorted, x_sortd, x_mth_join, x_mth_upper, x_mth_index, x_isi_str_non, x_isi_str_bl, x_isi_str_int, x_isi_str_str, x_isi_str_lst, x_isi_str_tup, x_isi_str_dct, x_isi_int_non, x_isi_int_bl, x_isi_int_int, x_isi_int_str, x_isi_int_lst, x_isi_int_tup, x_isi_int_dct, x_isi_bool_non, x_isi_bool_bl, x_isi_bool_int, x_isi_bool_str, x_isi_bool_lst, x_isi_bool_tup, x_isi_bool_dct, x_isi_tuple_non, x_isi_tuple_bl, x_isi_tuple_int, x_isi_tuple_str, x_isi_tuple_lst, x_isi_tuple_tup, x_isi_tuple_dct, x_isi_list_non, x_isi_list_bl, x_isi_list_int, x_isi_list_str, x_isi_list_lst, x_isi_list_tup, x_isi_list_dct, x_tru_non, x_tru_bl, x_tru_int, x_tru_str, x_tru_lst, x_tru_tup, x_neg, x_sub_lst, x_sub_tup, x_sub_str, x_sub_dct, x_cut_lst, x_cut_tup, x_cut_str, x_len_str, x_len_lst, x_len_tup, x_len_dct, x_int_int, x_int_bl, x_str_int, x_list_lst, x_list_tup, x_list_dct, x_tuple_lst, x_tuple_tup, x_max, x_min, x_add_int, x_add_str, x_add_lst, x_add_tup, x_sub_int, x_mul, x_muls, x_fdiv, x_mod, x_pow, x_cmp_eq, x_cmp_ne, x_cmp_lt, x_cmp_le, x_cmp_gt, x_cmp_ge, x_cmp_isin, x_cmp_notin, x_cmp_is, x_cmp_isnot, x_lt_int, x_le_int, x_gt_int, x_ge_int, x_lt_str, x_le_str, x_is_non, x_is_bl, x_is_bl_non, x_is_int_non, x_is_str_non, x_is_lst_non, x_is_tup_non, x_is_dct_non, x_in_lst, x_in_tup, x_in_dct, x_in_str, x_wk_lst, x_wk_tup, x_wk_str, x_li, x_di_lst, x_di_tup, x_rg1, x_rg2, x_rg3, x_oi, x_db, x_bnm, x_btp, x_dput, x_dput_dct, x_key_int, x_key_str, x_rep_lst, x_rep_tup, x_rep_dct, x_sb1_lst, x_sb1_tup, x_sb1_dct, x_app1, x_eq_int, x_eq_bl]
theorem prog_t2 (P : List Part) (hP : P.length ≤ 20) (k : Int) (k0 : 0 ≤ k) (k1 : k ≤ 4) (x y : Option D) :
    ∃ (p : Part) (x' y' : Option D), p.2.length ≤ 20 ∧ evSs S whl f_law_program_b2 (PEnv ns B W P (some (.int k)) x y) = some (.nx (PEnv ns B W (P ++ [p]) (some (.int k)) x' y')) := by
  obtain ⟨c1, c10, e1⟩ := hcell 1 (by omega) (by omega)
  obtain ⟨c, c0, e2⟩ := hcell (2 + k) (by omega) (by omega)
  have p7 : (0 : Int) < 7 := by decide
  have p5 : (0 : Int) < 5 := by decide
  have p3 : (0 : Int) < 3 := by decide
  have d7 : (0 : Int) < 7 ∧ (7 : Int).natAbs.log2 < 9000 := by decide +kernel
  have d21 : (0 : Int) < 21 ∧ (21 : Int).natAbs.log2 < 9000 := by decide +kernel
  obtain ⟨m, hm, m0, m1⟩ : ∃ m : Int, c % 7 = m ∧ 0 ≤ m ∧ m ≤ 6 := ⟨_, rfl, by omega, by omega⟩
  have hr := rangeD_ok m0 (by omega)
  have s1 : evS S whl (.set 5 (.lst .nil)) (PEnv ns B W P (some (.int k)) x y) = some (.nx (PEnv ns B W P (some (.int k)) (some (lsD [])) y)) := by
    simp only [PEnv, lsD, List.map_nil, f0, f1, f2, f3, f4, f5, f6, f7, f8, encN.frz, encN.frzL, encN.clean, encN.cleanL, ln_frz, ln_clean, lns_frz, lns_clean, pt_frz, pt_clean, pts_frz, pts_clean, frz_scr, frz_app, List.map_append, List.length_append, List.length_map, decide_true, decide_false, and_self, runF, evSs, evS, evT, evE, evAnd, evOr, evAndE, evOrE, evEs, evO, evC, evI, env0, endF, one, two, three, Eng.many, meth, chk, putD, appD, isLst, Eng.kept, Eng.kill, bindT, setAll, Tgt.slots, Exs.isNil, Ex.pure, Exs.pure, Ox.pure, Itr.pure, Ex.vars, Exs.vars, Ox.vars, Itr.vars, popD, popAtD, deepD, getP, putP, evP, callIO, ioArgs, ioSlot, ioOk, ioOut, ioV, ioClean, outs_from, outsGo, List.lookup_cons, List.lookup_nil, List.any_cons, List.any_nil, List.all_cons, List.all_nil, Exs.toList, Ex.isVar, frzE, cleanE, D.clean, cleanL, D.frz, frzL, frz_frz, frzL_frz, tru, get0_cons_zero, get0_cons_succ, get0_nil, List.set_cons_zero, List.set_cons_succ, frzAt_from, frzFrom, List.elem_cons, List.elem_nil, Nat.reduceBEq, List.length_cons, List.length_nil, List.map_cons, List.map_nil, List.replicate_succ, List.replicate_zero, List.cons_append, List.nil_append, List.append_nil, Option.map_some, Option.map_none, Option.bind_some, Option.bind_none, Nat.reduceSub, Nat.reduceAdd, List.range_eq_nil, Bool.not_false, Bool.not_true, Bool.or_true, Bool.true_or, Bool.or_false, Bool.false_or, Bool.and_true, Bool.true_and, Bool.and_false, Bool.false_and, Bool.not_not, Bool.false_eq_true, if_true, if_false, reduceIte, reduceCtorEq, x_blt_len, x_blt_int, x_blt_str, x_blt_list, x_blt_tuple, x_blt_max, x_blt_min, x_blt_sset, x_blt_sorted, x_sorted, x_sortd, x_mth_join, x_mth_upper, x_mth_index, x_isi_str_non, x_isi_str_bl, x_isi_str_int, x_isi_str_str, x_isi_str_lst, x_isi_str_tup, x_isi_str_dct, x_isi_int_non, x_isi_int_bl, x_isi_int_int, x_isi_int_str, x_isi_int_lst, x_isi_int_tup, x_isi_int_dct, x_isi_bool_non, x_isi_bool_bl, x_isi_bool_int, x_isi_bool_str, x_isi_bool_lst, x_isi_bool_tup, x_isi_bool_dct, x_isi_tuple_non, x_isi_tuple_bl, x_isi_tuple_int, x_isi_tuple_str, x_isi_tuple_lst, x_isi_tuple_tup, x_isi_tuple_dct, x_isi_list_non, x_isi_list_bl, x_isi_list_int, x_isi_list_str, x_isi_list_lst, x_isi_list_tup, x_isi_list_dct, x_tru_non, x_tru_bl, x_tru_int, x_tru_str, x_tru_lst, x_tru_tup, x_neg, x_sub_lst, x_sub_tup, x_sub_str, x_sub_dct, x_cut_lst, x_cut_tup, x_cut_str, x_len_str, x_len_lst, x_len_tup, x_len_dct, x_int_int, x_int_bl, x_str_int, x_list_lst, x_list_tup, x_list_dct, x_tuple_lst, x_tuple_tup, x_max, x_min, x_add_int, x_add_str, x_add_lst, x_add_tup, x_sub_int, x_mul, x_muls, x_fdiv, x_mod, x_pow, x_cmp_eq, x_cmp_ne, x_cmp_lt, x_cmp_le, x_cmp_gt, x_cmp_ge, x_cmp_isin, x_cmp_notin, x_cmp_is, x_cmp_isnot, x_lt_int, x_le_int, x_gt_int, x_ge_int, x_lt_str, x_le_str, x_is_non, x_is_bl, x_is_bl_non, x_is_int_non, x_is_str_non, x_is_lst_non, x_is_tup_non, x_is_dct_non, x_in_lst, x_in_tup, x_in_dct, x_in_str, x_wk_lst, x_wk_tup, x_wk_str, x_li, x_di_lst, x_di_tup, x_rg1, x_rg2, x_rg3, x_oi, x_db, x_bnm, x_btp, x_dput, x_dput_dct, x_key_int, x_key_str, x_rep_lst, x_rep_tup, x_rep_dct, x_sb1_lst, x_sb1_tup, x_sb1_dct, x_app1, x_eq_int, x_eq_bl]
  obtain ⟨ρ', e, l, y', rfl, l1⟩ := loopL_inv (tg := .nm 6) (b := evSs S whl f_law_program_b1) (ds := (List.range m.toNat).map fun (k : Nat) => D.int k) (ρ := PEnv ns B W P (some (.int k)) (some (lsD [])) y)
    (fun i ρ => ∃ l y', ρ = PEnv ns B W P (some (.int k)) (some (lsD l)) y' ∧ l.length = i) (fun i ρ d ⟨l, y', hρ, l1⟩ hi => by
      obtain ⟨hi2, rfl⟩ := rng_get hi
      obtain ⟨n, e⟩ := prog_t1 S ns B W hcell hline P k k0 (by omega) l (by omega) (i : Nat) (by omega) (by omega)
      subst hρ
      exact ⟨_, _, rfl, e, l ++ [n], _, rfl, by simp [l1]⟩) ⟨[], y, rfl, rfl⟩
  rw [List.length_map, List.length_range] at l1
  have s2 : evS S whl (.loop (.nm 6) (.range (.cons (.bin .mod (.call "_law_cell" (.cons (.var 0) (.cons (.bin .add (.con (.int 2)) (.var 4)) .nil))) (.con (.int 7))) .nil)) f_law_program_b1) (PEnv ns B W P (some (.int k)) (some (lsD [])) y) = some (.nx (PEnv ns B W P (some (.int k)) (some (lsD l)) y')) := by
    simp only [PEnv, lsD, List.map_nil] at e
    simp only [PEnv, lsD, List.map_nil, e2, hm, p7, hr, e, f0, f1, f2, f3, f4, f5, f6, f7, f8, encN.frz, encN.frzL, encN.clean, encN.cleanL, ln_frz, ln_clean, lns_frz, lns_clean, pt_frz, pt_clean, pts_frz, pts_clean, frz_scr, frz_app, List.map_append, List.length_append, List.length_map, decide_true, decide_false, and_self, runF, evSs, evS, evT, evE, evAnd, evOr, evAndE, evOrE, evEs, evO, evC, evI, env0, endF, one, two, three, Eng.many, meth, chk, putD, appD, isLst, Eng.kept, Eng.kill, bindT, setAll, Tgt.slots, Exs.isNil, Ex.pure, Exs.pure, Ox.pure, Itr.pure, Ex.vars, Exs.vars, Ox.vars, Itr.vars, popD, popAtD, deepD, getP, putP, evP, callIO, ioArgs, ioSlot, ioOk, ioOut, ioV, ioClean, outs_from, outsGo, List.lookup_cons, List.lookup_nil, List.any_cons, List.any_nil, List.all_cons, List.all_nil, Exs.toList, Ex.isVar, frzE, cleanE, D.clean, cleanL, D.frz, frzL, frz_frz, frzL_frz, tru, get0_cons_zero, get0_cons_succ, get0_nil, List.set_cons_zero, List.set_cons_succ, frzAt_from, frzFrom, List.elem_cons, List.elem_nil, Nat.reduceBEq, List.length_cons, List.length_nil, List.map_cons, List.map_nil, List.replicate_succ, List.replicate_zero, List.cons_append, List.nil_append, List.append_nil, Option.map_some, Option.map_none, Option.bind_some, Option.bind_none, Nat.reduceSub, Nat.reduceAdd, List.range_eq_nil, Bool.not_false, Bool.not_true, Bool.or_true, Bool.true_or, Bool.or_false, Bool.false_or, Bool.and_true, Bool.true_and, Bool.and_false, Bool.false_and, Bool.not_not, Bool.false_eq_true, if_true, if_false, reduceIte, reduceCtorEq, x_blt_len, x_blt_int, x_blt_str, x_blt_list, x_blt_tuple, x_blt_max, x_blt_min, x_blt_sset, x_blt_sorted, x_sorted, x_sortd, x_mth_join, x_mth_upper, x_mth_index, x_isi_str_non, x_isi_str_bl, x_isi_str_int, x_isi_str_str, x_isi_str_lst, x_isi_str_tup, x_isi_str_dct, x_isi_int_non, x_isi_int_bl, x_isi_int_int, x_isi_int_str, x_isi_int_lst, x_isi_int_tup, x_isi_int_dct, x_isi_bool_non, x_isi_bool_bl, x_isi_bool_int, x_isi_bool_str, x_isi_bool_lst, x_isi_bool_tup, x_isi_bool_dct, x_isi_tuple_non, x_isi_tuple_bl, x_isi_tuple_int, x_isi_tuple_str, x_isi_tuple_lst, x_isi_tuple_tup, x_isi_tuple_dct, x_isi_list_non, x_isi_list_bl, x_isi_list_int, x_isi_list_str, x_isi_list_lst, x_isi_list_tup, x_isi_list_dct, x_tru_non, x_tru_bl, x_tru_int, x_tru_str, x_tru_lst, x_tru_tup, x_neg, x_sub_lst, x_sub_tup, x_sub_str, x_sub_dct, x_cut_lst, x_cut_tup, x_cut_str, x_len_str, x_len_lst, x_len_tup, x_len_dct, x_int_int, x_int_bl, x_str_int, x_list_lst, x_list_tup, x_list_dct, x_tuple_lst, x_tuple_tup, x_max, x_min, x_add_int, x_add_str, x_add_lst, x_add_tup, x_sub_int, x_mul, x_muls, x_fdiv, x_mod, x_pow, x_cmp_eq, x_cmp_ne, x_cmp_lt, x_cmp_le, x_cmp_gt, x_cmp_ge, x_cmp_isin, x_cmp_notin, x_cmp_is, x_cmp_isnot, x_lt_int, x_le_int, x_gt_int, x_ge_int, x_lt_str, x_le_str, x_is_non, x_is_bl, x_is_bl_non, x_is_int_non, x_is_str_non, x_is_lst_non, x_is_tup_non, x_is_dct_non, x_in_lst, x_in_tup, x_in_dct, x_in_str, x_wk_lst, x_wk_tup, x_wk_str, x_li, x_di_lst, x_di_tup, x_rg1, x_rg2, x_rg3, x_oi, x_db, x_bnm, x_btp, x_dput, x_dput_dct, x_key_int, x_key_str, x_rep_lst, x_rep_tup, x_rep_dct, x_sb1_lst, x_sb1_tup, x_sb1_dct, x_app1, x_eq_int, x_eq_bl]
  obtain ⟨l2, h2, s3⟩ : ∃ l2 : List Ln, l2.length ≤ 7 ∧ evS S whl (.ife (.and (.cons (.cmp .lt (.var 4) (.bin .mod (.call "_law_cell" (.cons (.var 0) (.cons (.con (.int 1)) .nil))) (.con (.int 5)))) (.cons (.cmp .gt (.bin .mod (.bin .fdiv (.call "_law_cell" (.cons (.var 0) (.cons (.bin .add (.con (.int 2)) (.var 4)) .nil))) (.con (.int 7))) (.con (.int 3))) (.con (.int 0))) .nil))) (.cons (.app 5 (.tup (.cons (.con (.str "do")) (.cons (.sub (.lst (.cons (.con (.str "l")) (.cons (.con (.str "k")) (.cons (.con (.str "a")) (.cons (.con (.str "zz")) .nil))))) (.var 4)) .nil)))) .nil) .nil) (PEnv ns B W P (some (.int k)) (some (lsD l)) y') = some (.nx (PEnv ns B W P (some (.int k)) (some (lsD l2)) y')) := by
    by_cases hk : k < c1 % 5
    · by_cases h3 : 0 < c / 7 % 3
      · obtain ⟨d, g1, g2⟩ := atI_in (xs := [nm "l", nm "k", nm "a", nm "zz"].map tx) (i := k) (by omega) (by show k < 4; omega)
        obtain ⟨n, _, rfl⟩ := List.mem_map.mp g2
        have g1' : atI [D.str "l", D.str "k", D.str "a", D.str "zz"] k = some (tx n) := g1
        have fl : fits (l.length + 1) = true := fit_le (by omega)
        refine ⟨l ++ [.doo n], by simp; omega, ?_⟩
        have dn : D.tup [.str "do", tx n] = lnD (.doo n) := rfl
        simp only [PEnv, lsD, e1, e2, p5, p3, d7, hk, h3, g1', fl, dn, List.map_cons, List.map_nil, f0, f1, f2, f3, f4, f5, f6, f7, f8, encN.frz, encN.frzL, encN.clean, encN.cleanL, ln_frz, ln_clean, lns_frz, lns_clean, pt_frz, pt_clean, pts_frz, pts_clean, frz_scr, frz_app, List.map_append, List.length_append, List.length_map, decide_true, decide_false, and_self, runF, evSs, evS, evT, evE, evAnd, evOr, evAndE, evOrE, evEs, evO, evC, evI, env0, endF, one, two, three, Eng.many, meth, chk, putD, appD, isLst, Eng.kept, Eng.kill, bindT, setAll, Tgt.slots, Exs.isNil, Ex.pure, Exs.pure, Ox.pure, Itr.pure, Ex.vars, Exs.vars, Ox.vars, Itr.vars, popD, popAtD, deepD, getP, putP, evP, callIO, ioArgs, ioSlot, ioOk, ioOut, ioV, ioClean, outs_from, outsGo, List.lookup_cons, List.lookup_nil, List.any_cons, List.any_nil, List.all_cons, List.all_nil, Exs.toList, Ex.isVar, frzE, cleanE, D.clean, cleanL, D.frz, frzL, frz_frz, frzL_frz, tru, get0_cons_zero, get0_cons_succ, get0_nil, List.set_cons_zero, List.set_cons_succ, frzAt_from, frzFrom, List.elem_cons, List.elem_nil, Nat.reduceBEq, List.length_cons, List.length_nil, List.map_cons, List.map_nil, List.replicate_succ, List.replicate_zero, List.cons_append, List.nil_append, List.append_nil, Option.map_some, Option.map_none, Option.bind_some, Option.bind_none, Nat.reduceSub, Nat.reduceAdd, List.range_eq_nil, Bool.not_false, Bool.not_true, Bool.or_true, Bool.true_or, Bool.or_false, Bool.false_or, Bool.and_true, Bool.true_and, Bool.and_false, Bool.false_and, Bool.not_not, Bool.false_eq_true, if_true, if_false, reduceIte, reduceCtorEq, x_blt_len, x_blt_int, x_blt_str, x_blt_list, x_blt_tuple, x_blt_max, x_blt_min, x_blt_sset, x_blt_sorted, x_sorted, x_sortd, x_mth_join, x_mth_upper, x_mth_index, x_isi_str_non, x_isi_str_bl, x_isi_str_int, x_isi_str_str, x_isi_str_lst, x_isi_str_tup, x_isi_str_dct, x_isi_int_non, x_isi_int_bl, x_isi_int_int, x_isi_int_str, x_isi_int_lst, x_isi_int_tup, x_isi_int_dct, x_isi_bool_non, x_isi_bool_bl, x_isi_bool_int, x_isi_bool_str, x_isi_bool_lst, x_isi_bool_tup, x_isi_bool_dct, x_isi_tuple_non, x_isi_tuple_bl, x_isi_tuple_int, x_isi_tuple_str, x_isi_tuple_lst, x_isi_tuple_tup, x_isi_tuple_dct, x_isi_list_non, x_isi_list_bl, x_isi_list_int, x_isi_list_str, x_isi_list_lst, x_isi_list_tup, x_isi_list_dct, x_tru_non, x_tru_bl, x_tru_int, x_tru_str, x_tru_lst, x_tru_tup, x_neg, x_sub_lst, x_sub_tup, x_sub_str, x_sub_dct, x_cut_lst, x_cut_tup, x_cut_str, x_len_str, x_len_lst, x_len_tup, x_len_dct, x_int_int, x_int_bl, x_str_int, x_list_lst, x_list_tup, x_list_dct, x_tuple_lst, x_tuple_tup, x_max, x_min, x_add_int, x_add_str, x_add_lst, x_add_tup, x_sub_int, x_mul, x_muls, x_fdiv, x_mod, x_pow, x_cmp_eq, x_cmp_ne, x_cmp_lt, x_cmp_le, x_cmp_gt, x_cmp_ge, x_cmp_isin, x_cmp_notin, x_cmp_is, x_cmp_isnot, x_lt_int, x_le_int, x_gt_int, x_ge_int, x_lt_str, x_le_str, x_is_non, x_is_bl, x_is_bl_non, x_is_int_non, x_is_str_non, x_is_lst_non, x_is_tup_non, x_is_dct_non, x_in_lst, x_in_tup, x_in_dct, x_in_str, x_wk_lst, x_wk_tup, x_wk_str, x_li, x_di_lst, x_di_tup, x_rg1, x_rg2, x_rg3, x_oi, x_db, x_bnm, x_btp, x_dput, x_dput_dct, x_key_int, x_key_str, x_rep_lst, x_rep_tup, x_rep_dct, x_sb1_lst, x_sb1_tup, x_sb1_dct, x_app1, x_eq_int, x_eq_bl]
      · refine ⟨l, by omega, ?_⟩
        simp only [PEnv, lsD, e1, e2, p5, p3, d7, hk, h3, f0, f1, f2, f3, f4, f5, f6, f7, f8, encN.frz, encN.frzL, encN.clean, encN.cleanL, ln_frz, ln_clean, lns_frz, lns_clean, pt_frz, pt_clean, pts_frz, pts_clean, frz_scr, frz_app, List.map_append, List.length_append, List.length_map, decide_true, decide_false, and_self, runF, evSs, evS, evT, evE, evAnd, evOr, evAndE, evOrE, evEs, evO, evC, evI, env0, endF, one, two, three, Eng.many, meth, chk, putD, appD, isLst, Eng.kept, Eng.kill, bindT, setAll, Tgt.slots, Exs.isNil, Ex.pure, Exs.pure, Ox.pure, Itr.pure, Ex.vars, Exs.vars, Ox.vars, Itr.vars, popD, popAtD, deepD, getP, putP, evP, callIO, ioArgs, ioSlot, ioOk, ioOut, ioV, ioClean, outs_from, outsGo, List.lookup_cons, List.lookup_nil, List.any_cons, List.any_nil, List.all_cons, List.all_nil, Exs.toList, Ex.isVar, frzE, cleanE, D.clean, cleanL, D.frz, frzL, frz_frz, frzL_frz, tru, get0_cons_zero, get0_cons_succ, get0_nil, List.set_cons_zero, List.set_cons_succ, frzAt_from, frzFrom, List.elem_cons, List.elem_nil, Nat.reduceBEq, List.length_cons, List.length_nil, List.map_cons, List.map_nil, List.replicate_succ, List.replicate_zero, List.cons_append, List.nil_append, List.append_nil, Option.map_some, Option.map_none, Option.bind_some, Option.bind_none, Nat.reduceSub, Nat.reduceAdd, List.range_eq_nil, Bool.not_false, Bool.not_true, Bool.or_true, Bool.true_or, Bool.or_false, Bool.false_or, Bool.and_true, Bool.true_and, Bool.and_false, Bool.false_and, Bool.not_not, Bool.false_eq_true, if_true, if_false, reduceIte, reduceCtorEq, x_blt_len, x_blt_int, x_blt_str, x_blt_list, x_blt_tuple, x_blt_max, x_blt_min, x_blt_sset, x_blt_sorted, x_sorted, x_sortd, x_mth_join, x_mth_upper, x_mth_index, x_isi_str_non, x_isi_str_bl, x_isi_str_int, x_isi_str_str, x_isi_str_lst, x_isi_str_tup, x_isi_str_dct, x_isi_int_non, x_isi_int_bl, x_isi_int_int, x_isi_int_str, x_isi_int_lst, x_isi_int_tup, x_isi_int_dct, x_isi_bool_non, x_isi_bool_bl, x_isi_bool_int, x_isi_bool_str, x_isi_bool_lst, x_isi_bool_tup, x_isi_bool_dct, x_isi_tuple_non, x_isi_tuple_bl, x_isi_tuple_int, x_isi_tuple_str, x_isi_tuple_lst, x_isi_tuple_tup, x_isi_tuple_dct, x_isi_list_non, x_isi_list_bl, x_isi_list_int, x_isi_list_str, x_isi_list_lst, x_isi_list_tup, x_isi_list_dct, x_tru_non, x_tru_bl, x_tru_int, x_tru_str, x_tru_lst, x_tru_tup, x_neg, x_sub_lst, x_sub_tup, x_sub_str, x_sub_dct, x_cut_lst, x_cut_tup, x_cut_str, x_len_str, x_len_lst, x_len_tup, x_len_dct, x_int_int, x_int_bl, x_str_int, x_list_lst, x_list_tup, x_list_dct, x_tuple_lst, x_tuple_tup, x_max, x_min, x_add_int, x_add_str, x_add_lst, x_add_tup, x_sub_int, x_mul, x_muls, x_fdiv, x_mod, x_pow, x_cmp_eq, x_cmp_ne, x_cmp_lt, x_cmp_le, x_cmp_gt, x_cmp_ge, x_cmp_isin, x_cmp_notin, x_cmp_is, x_cmp_isnot, x_lt_int, x_le_int, x_gt_int, x_ge_int, x_lt_str, x_le_str, x_is_non, x_is_bl, x_is_bl_non, x_is_int_non, x_is_str_non, x_is_lst_non, x_is_tup_non, x_is_dct_non, x_in_lst, x_in_tup, x_in_dct, x_in_str, x_wk_lst, x_wk_tup, x_wk_str, x_li, x_di_lst, x_di_tup, x_rg1, x_rg2, x_rg3, x_oi, x_db, x_bnm, x_btp, x_dput, x_dput_dct, x_key_int, x_key_str, x_rep_lst, x_rep_tup, x_rep_dct, x_sb1_lst, x_sb1_tup, x_sb1_dct, x_app1, x_eq_int, x_eq_bl]
    · refine ⟨l, by omega, ?_⟩
      simp only [PEnv, lsD, e1, p5, hk, f0, f1, f2, f3, f4, f5, f6, f7, f8, encN.frz, encN.frzL, encN.clean, encN.cleanL, ln_frz, ln_clean, lns_frz, lns_clean, pt_frz, pt_clean, pts_frz, pts_clean, frz_scr, frz_app, List.map_append, List.length_append, List.length_map, decide_true, decide_false, and_self, runF, evSs, evS, evT, evE, evAnd, evOr, evAndE, evOrE, evEs, evO, evC, evI, env0, endF, one, two, three, Eng.many, meth, chk, putD, appD, isLst, Eng.kept, Eng.kill, bindT, setAll, Tgt.slots, Exs.isNil, Ex.pure, Exs.pure, Ox.pure, Itr.pure, Ex.vars, Exs.vars, Ox.vars, Itr.vars, popD, popAtD, deepD, getP, putP, evP, callIO, ioArgs, ioSlot, ioOk, ioOut, ioV, ioClean, outs_from, outsGo, List.lookup_cons, List.lookup_nil, List.any_cons, List.any_nil, List.all_cons, List.all_nil, Exs.toList, Ex.isVar, frzE, cleanE, D.clean, cleanL, D.frz, frzL, frz_frz, frzL_frz, tru, get0_cons_zero, get0_cons_succ, get0_nil, List.set_cons_zero, List.set_cons_succ, frzAt_from, frzFrom, List.elem_cons, List.elem_nil, Nat.reduceBEq, List.length_cons, List.length_nil, List.map_cons, List.map_nil, List.replicate_succ, List.replicate_zero, List.cons_append, List.nil_append, List.append_nil, Option.map_some, Option.map_none, Option.bind_some, Option.bind_none, Nat.reduceSub, Nat.reduceAdd, List.range_eq_nil, Bool.not_false, Bool.not_true, Bool.or_true, Bool.true_or, Bool.or_false, Bool.false_or, Bool.and_true, Bool.true_and, Bool.and_false, Bool.false_and, Bool.not_not, Bool.false_eq_true, if_true, if_false, reduceIte, reduceCtorEq, x_blt_len, x_blt_int, x_blt_str, x_blt_list, x_blt_tuple, x_blt_max, x_blt_min, x_blt_sset, x_blt_sorted, x_sorted, x_sortd, x_mth_join, x_mth_upper, x_mth_index, x_isi_str_non, x_isi_str_bl, x_isi_str_int, x_isi_str_str, x_isi_str_lst, x_isi_str_tup, x_isi_str_dct, x_isi_int_non, x_isi_int_bl, x_isi_int_int, x_isi_int_str, x_isi_int_lst, x_isi_int_tup, x_isi_int_dct, x_isi_bool_non, x_isi_bool_bl, x_isi_bool_int, x_isi_bool_str, x_isi_bool_lst, x_isi_bool_tup, x_isi_bool_dct, x_isi_tuple_non, x_isi_tuple_bl, x_isi_tuple_int, x_isi_tuple_str, x_isi_tuple_lst, x_isi_tuple_tup, x_isi_tuple_dct, x_isi_list_non, x_isi_list_bl, x_isi_list_int, x_isi_list_str, x_isi_list_lst, x_isi_list_tup, x_isi_list_dct, x_tru_non, x_tru_bl, x_tru_int, x_tru_str, x_tru_lst, x_tru_tup, x_neg, x_sub_lst, x_sub_tup, x_sub_str, x_sub_dct, x_cut_lst, x_cut_tup, x_cut_str, x_len_str, x_len_lst, x_len_tup, x_len_dct, x_int_int, x_int_bl, x_str_int, x_list_lst, x_list_tup, x_list_dct, x_tuple_lst, x_tuple_tup, x_max, x_min, x_add_int, x_add_str, x_add_lst, x_add_tup, x_sub_int, x_mul, x_muls, x_fdiv, x_mod, x_pow, x_cmp_eq, x_cmp_ne, x_cmp_lt, x_cmp_le, x_cmp_gt, x_cmp_ge, x_cmp_isin, x_cmp_notin, x_cmp_is, x_cmp_isnot, x_lt_int, x_le_int, x_gt_int, x_ge_int, x_lt_str, x_le_str, x_is_non, x_is_bl, x_is_bl_non, x_is_int_non, x_is_str_non, x_is_lst_non, x_is_tup_non, x_is_dct_non, x_in_lst, x_in_tup, x_in_dct, x_in_str, x_wk_lst, x_wk_tup, x_wk_str, x_li, x_di_lst, x_di_tup, x_rg1, x_rg2, x_rg3, x_oi, x_db, x_bnm, x_btp, x_dput, x_dput_dct, x_key_int, x_key_str, x_rep_lst, x_rep_tup, x_rep_dct, x_sb1_lst, x_sb1_tup, x_sb1_dct, x_app1, x_eq_int, x_eq_bl]
  obtain ⟨l3, h3, s4⟩ : ∃ l3 : List Ln, l3.length ≤ 10 ∧ evS S whl (.ife (.cmp .eq (.bin .mod (.bin .fdiv (.call "_law_cell" (.cons (.var 0) (.cons (.bin .add (.con (.int 2)) (.var 4)) .nil))) (.con (.int 21))) (.con (.int 3))) (.con (.int 0))) (.cons (.set 5 (.bin .add (.bin .add (.lst (.cons (.tup (.cons (.con (.str "either")) .nil)) .nil)) (.var 5)) (.lst (.cons (.tup (.cons (.con (.str "or")) .nil)) (.cons (.tup (.cons (.con (.str "end")) .nil)) .nil))))) .nil) .nil) (PEnv ns B W P (some (.int k)) (some (lsD l2)) y') = some (.nx (PEnv ns B W P (some (.int k)) (some (lsD l3)) y')) := by
    cases hq : (c / 21 % 3 == 0) with
    | true =>
      refine ⟨.kw 0 :: l2 ++ [.kw 1, .kw 2], by simp; omega, ?_⟩
      have fa : fits (1 + l2.length) = true := fit_le (by omega)
      have fb : fits (l2.length + 1 + 2) = true := fit_le (by omega)
      have k0 : lnD (.kw 0) = D.tup [.str "either"] := rfl
      have k1 : lnD (.kw 1) = D.tup [.str "or"] := rfl
      have k2 : lnD (.kw 2) = D.tup [.str "end"] := rfl
      have hcl : cleanL (List.map lnD l2 ++ [D.tup [.str "or"], D.tup [.str "end"]]) = true := by
        have := lns_clean (l2 ++ [.kw 1, .kw 2])
        rwa [List.map_append] at this
      simp only [PEnv, lsD, e2, p3, d21, hq, fa, fb, k0, k1, k2, hcl, List.map_cons, List.map_nil, f0, f1, f2, f3, f4, f5, f6, f7, f8, encN.frz, encN.frzL, encN.clean, encN.cleanL, ln_frz, ln_clean, lns_frz, lns_clean, pt_frz, pt_clean, pts_frz, pts_clean, frz_scr, frz_app, List.map_append, List.length_append, List.length_map, decide_true, decide_false, and_self, runF, evSs, evS, evT, evE, evAnd, evOr, evAndE, evOrE, evEs, evO, evC, evI, env0, endF, one, two, three, Eng.many, meth, chk, putD, appD, isLst, Eng.kept, Eng.kill, bindT, setAll, Tgt.slots, Exs.isNil, Ex.pure, Exs.pure, Ox.pure, Itr.pure, Ex.vars, Exs.vars, Ox.vars, Itr.vars, popD, popAtD, deepD, getP, putP, evP, callIO, ioArgs, ioSlot, ioOk, ioOut, ioV, ioClean, outs_from, outsGo, List.lookup_cons, List.lookup_nil, List.any_cons, List.any_nil, List.all_cons, List.all_nil, Exs.toList, Ex.isVar, frzE, cleanE, D.clean, cleanL, D.frz, frzL, frz_frz, frzL_frz, tru, get0_cons_zero, get0_cons_succ, get0_nil, List.set_cons_zero, List.set_cons_succ, frzAt_from, frzFrom, List.elem_cons, List.elem_nil, Nat.reduceBEq, List.length_cons, List.length_nil, List.map_cons, List.map_nil, List.replicate_succ, List.replicate_zero, List.cons_append, List.nil_append, List.append_nil, Option.map_some, Option.map_none, Option.bind_some, Option.bind_none, Nat.reduceSub, Nat.reduceAdd, List.range_eq_nil, Bool.not_false, Bool.not_true, Bool.or_true, Bool.true_or, Bool.or_false, Bool.false_or, Bool.and_true, Bool.true_and, Bool.and_false, Bool.false_and, Bool.not_not, Bool.false_eq_true, if_true, if_false, reduceIte, reduceCtorEq, x_blt_len, x_blt_int, x_blt_str, x_blt_list, x_blt_tuple, x_blt_max, x_blt_min, x_blt_sset, x_blt_sorted, x_sorted, x_sortd, x_mth_join, x_mth_upper, x_mth_index, x_isi_str_non, x_isi_str_bl, x_isi_str_int, x_isi_str_str, x_isi_str_lst, x_isi_str_tup, x_isi_str_dct, x_isi_int_non, x_isi_int_bl, x_isi_int_int, x_isi_int_str, x_isi_int_lst, x_isi_int_tup, x_isi_int_dct, x_isi_bool_non, x_isi_bool_bl, x_isi_bool_int, x_isi_bool_str, x_isi_bool_lst, x_isi_bool_tup, x_isi_bool_dct, x_isi_tuple_non, x_isi_tuple_bl, x_isi_tuple_int, x_isi_tuple_str, x_isi_tuple_lst, x_isi_tuple_tup, x_isi_tuple_dct, x_isi_list_non, x_isi_list_bl, x_isi_list_int, x_isi_list_str, x_isi_list_lst, x_isi_list_tup, x_isi_list_dct, x_tru_non, x_tru_bl, x_tru_int, x_tru_str, x_tru_lst, x_tru_tup, x_neg, x_sub_lst, x_sub_tup, x_sub_str, x_sub_dct, x_cut_lst, x_cut_tup, x_cut_str, x_len_str, x_len_lst, x_len_tup, x_len_dct, x_int_int, x_int_bl, x_str_int, x_list_lst, x_list_tup, x_list_dct, x_tuple_lst, x_tuple_tup, x_max, x_min, x_add_int, x_add_str, x_add_lst, x_add_tup, x_sub_int, x_mul, x_muls, x_fdiv, x_mod, x_pow, x_cmp_eq, x_cmp_ne, x_cmp_lt, x_cmp_le, x_cmp_gt, x_cmp_ge, x_cmp_isin, x_cmp_notin, x_cmp_is, x_cmp_isnot, x_lt_int, x_le_int, x_gt_int, x_ge_int, x_lt_str, x_le_str, x_is_non, x_is_bl, x_is_bl_non, x_is_int_non, x_is_str_non, x_is_lst_non, x_is_tup_non, x_is_dct_non, x_in_lst, x_in_tup, x_in_dct, x_in_str, x_wk_lst, x_wk_tup, x_wk_str, x_li, x_di_lst, x_di_tup, x_rg1, x_rg2, x_rg3, x_oi, x_db, x_bnm, x_btp, x_dput, x_dput_dct, x_key_int, x_key_str, x_rep_lst, x_rep_tup, x_rep_dct, x_sb1_lst, x_sb1_tup, x_sb1_dct, x_app1, x_eq_int, x_eq_bl]
    | false =>
      refine ⟨l2, by omega, ?_⟩
      simp only [PEnv, lsD, e2, p3, d21, hq, f0, f1, f2, f3, f4, f5, f6, f7, f8, encN.frz, encN.frzL, encN.clean, encN.cleanL, ln_frz, ln_clean, lns_frz, lns_clean, pt_frz, pt_clean, pts_frz, pts_clean, frz_scr, frz_app, List.map_append, List.length_append, List.length_map, decide_true, decide_false, and_self, runF, evSs, evS, evT, evE, evAnd, evOr, evAndE, evOrE, evEs, evO, evC, evI, env0, endF, one, two, three, Eng.many, meth, chk, putD, appD, isLst, Eng.kept, Eng.kill, bindT, setAll, Tgt.slots, Exs.isNil, Ex.pure, Exs.pure, Ox.pure, Itr.pure, Ex.vars, Exs.vars, Ox.vars, Itr.vars, popD, popAtD, deepD, getP, putP, evP, callIO, ioArgs, ioSlot, ioOk, ioOut, ioV, ioClean, outs_from, outsGo, List.lookup_cons, List.lookup_nil, List.any_cons, List.any_nil, List.all_cons, List.all_nil, Exs.toList, Ex.isVar, frzE, cleanE, D.clean, cleanL, D.frz, frzL, frz_frz, frzL_frz, tru, get0_cons_zero, get0_cons_succ, get0_nil, List.set_cons_zero, List.set_cons_succ, frzAt_from, frzFrom, List.elem_cons, List.elem_nil, Nat.reduceBEq, List.length_cons, List.length_nil, List.map_cons, List.map_nil, List.replicate_succ, List.replicate_zero, List.cons_append, List.nil_append, List.append_nil, Option.map_some, Option.map_none, Option.bind_some, Option.bind_none, Nat.reduceSub, Nat.reduceAdd, List.range_eq_nil, Bool.not_false, Bool.not_true, Bool.or_true, Bool.true_or, Bool.or_false, Bool.false_or, Bool.and_true, Bool.true_and, Bool.and_false, Bool.false_and, Bool.not_not, Bool.false_eq_true, if_true, if_false, reduceIte, reduceCtorEq, x_blt_len, x_blt_int, x_blt_str, x_blt_list, x_blt_tuple, x_blt_max, x_blt_min, x_blt_sset, x_blt_sorted, x_sorted, x_sortd, x_mth_join, x_mth_upper, x_mth_index, x_isi_str_non, x_isi_str_bl, x_isi_str_int, x_isi_str_str, x_isi_str_lst, x_isi_str_tup, x_isi_str_dct, x_isi_int_non, x_isi_int_bl, x_isi_int_int, x_isi_int_str, x_isi_int_lst, x_isi_int_tup, x_isi_int_dct, x_isi_bool_non, x_isi_bool_bl, x_isi_bool_int, x_isi_bool_str, x_isi_bool_lst, x_isi_bool_tup, x_isi_bool_dct, x_isi_tuple_non, x_isi_tuple_bl, x_isi_tuple_int, x_isi_tuple_str, x_isi_tuple_lst, x_isi_tuple_tup, x_isi_tuple_dct, x_isi_list_non, x_isi_list_bl, x_isi_list_int, x_isi_list_str, x_isi_list_lst, x_isi_list_tup, x_isi_list_dct, x_tru_non, x_tru_bl, x_tru_int, x_tru_str, x_tru_lst, x_tru_tup, x_neg, x_sub_lst, x_sub_tup, x_sub_str, x_sub_dct, x_cut_lst, x_cut_tup, x_cut_str, x_len_str, x_len_lst, x_len_tup, x_len_dct, x_int_int, x_int_bl, x_str_int, x_list_lst, x_list_tup, x_list_dct, x_tuple_lst, x_tuple_tup, x_max, x_min, x_add_int, x_add_str, x_add_lst, x_add_tup, x_sub_int, x_mul, x_muls, x_fdiv, x_mod, x_pow, x_cmp_eq, x_cmp_ne, x_cmp_lt, x_cmp_le, x_cmp_gt, x_cmp_ge, x_cmp_isin, x_cmp_notin, x_cmp_is, x_cmp_isnot, x_lt_int, x_le_int, x_gt_int, x_ge_int, x_lt_str, x_le_str, x_is_non, x_is_bl, x_is_bl_non, x_is_int_non, x_is_str_non, x_is_lst_non, x_is_tup_non, x_is_dct_non, x_in_lst, x_in_tup, x_in_dct, x_in_str, x_wk_lst, x_wk_tup, x_wk_str, x_li, x_di_lst, x_di_tup, x_rg1, x_rg2, x_rg3, x_oi, x_db, x_bnm, x_btp, x_dput, x_dput_dct, x_key_int, x_key_str, x_rep_lst, x_rep_tup, x_rep_dct, x_sb1_lst, x_sb1_tup, x_sb1_dct, x_app1, x_eq_int, x_eq_bl]
  obtain ⟨d, g1, g2⟩ := atI_in (xs := [nm "m", nm "l", nm "k", nm "a", nm "zz"].map tx) (i := k) (by omega) (by show k < 5; omega)
  obtain ⟨n, _, rfl⟩ := List.mem_map.mp g2
  have g1' : atI [D.str "m", D.str "l", D.str "k", D.str "a", D.str "zz"] k = some (tx n) := g1
  have fP : fits (P.length + 1) = true := fit_le (by omega)
  have pd : D.tup [tx n, .tup (l3.map lnD)] = partD (n, l3) := rfl
  refine ⟨(n, l3), some (lsD l3), y', by show l3.length ≤ 20; omega, seq_nx s1 (seq_nx s2 (seq_nx s3 (seq_nx s4 (seq_nx (ρ1 := PEnv ns B W (P ++ [(n, l3)]) (some (.int k)) (some (lsD l3)) y') ?_ rfl))))⟩
  simp only [PEnv, lsD, g1', fP, pd, List.map_cons, List.map_nil, f0, f1, f2, f3, f4, f5, f6, f7, f8, encN.frz, encN.frzL, encN.clean, encN.cleanL, ln_frz, ln_clean, lns_frz, lns_clean, pt_frz, pt_clean, pts_frz, pts_clean, frz_scr, frz_app, List.map_append, List.length_append, List.length_map, decide_true, decide_false, and_self, runF, evSs, evS, evT, evE, evAnd, evOr, evAndE, evOrE, evEs, evO, evC, evI, env0, endF, one, two, three, Eng.many, meth, chk, putD, appD, isLst, Eng.kept, Eng.kill, bindT, setAll, Tgt.slots, Exs.isNil, Ex.pure, Exs.pure, Ox.pure, Itr.pure, Ex.vars, Exs.vars, Ox.vars, Itr.vars, popD, popAtD, deepD, getP, putP, evP, callIO, ioArgs, ioSlot, ioOk, ioOut, ioV, ioClean, outs_from, outsGo, List.lookup_cons, List.lookup_nil, List.any_cons, List.any_nil, List.all_cons, List.all_nil, Exs.toList, Ex.isVar, frzE, cleanE, D.clean, cleanL, D.frz, frzL, frz_frz, frzL_frz, tru, get0_cons_zero, get0_cons_succ, get0_nil, List.set_cons_zero, List.set_cons_succ, frzAt_from, frzFrom, List.elem_cons, List.elem_nil, Nat.reduceBEq, List.length_cons, List.length_nil, List.map_cons, List.map_nil, List.replicate_succ, List.replicate_zero, List.cons_append, List.nil_append, List.append_nil, Option.map_some, Option.map_none, Option.bind_some, Option.bind_none, Nat.reduceSub, Nat.reduceAdd, List.range_eq_nil, Bool.not_false, Bool.not_true, Bool.or_true, Bool.true_or, Bool.or_false, Bool.false_or, Bool.and_true, Bool.true_and, Bool.and_false, Bool.false_and, Bool.not_not, Bool.false_eq_true, if_true, if_false, reduceIte, reduceCtorEq, x_blt_len, x_blt_int, x_blt_str, x_blt_list, x_blt_tuple, x_blt_max, x_blt_min, x_blt_sset, x_blt_sorted, x_sorted, x_sortd, x_mth_join, x_mth_upper, x_mth_index, x_isi_str_non, x_isi_str_bl, x_isi_str_int, x_isi_str_str, x_isi_str_lst, x_isi_str_tup, x_isi_str_dct, x_isi_int_non, x_isi_int_bl, x_isi_int_int, x_isi_int_str, x_isi_int_lst, x_isi_int_tup, x_isi_int_dct, x_isi_bool_non, x_isi_bool_bl, x_isi_bool_int, x_isi_bool_str, x_isi_bool_lst, x_isi_bool_tup, x_isi_bool_dct, x_isi_tuple_non, x_isi_tuple_bl, x_isi_tuple_int, x_isi_tuple_str, x_isi_tuple_lst, x_isi_tuple_tup, x_isi_tuple_dct, x_isi_list_non, x_isi_list_bl, x_isi_list_int, x_isi_list_str, x_isi_list_lst, x_isi_list_tup, x_isi_list_dct, x_tru_non, x_tru_bl, x_tru_int, x_tru_str, x_tru_lst, x_tru_tup, x_neg, x_sub_lst, x_sub_tup, x_sub_str, x_sub_dct, x_cut_lst, x_cut_tup, x_cut_str, x_len_str, x_len_lst, x_len_tup, x_len_dct, x_int_int, x_int_bl, x_str_int, x_list_lst, x_list_tup, x_list_dct, x_tuple_lst, x_tuple_tup, x_max, x_min, x_add_int, x_add_str, x_add_lst, x_add_tup, x_sub_int, x_mul, x_muls, x_fdiv, x_mod, x_pow, x_cmp_eq, x_cmp_ne, x_cmp_lt, x_cmp_le, x_cmp_gt, x_cmp_ge, x_cmp_isin, x_cmp_notin, x_cmp_is, x_cmp_isnot, x_lt_int, x_le_int, x_gt_int, x_ge_int, x_lt_str, x_le_str, x_is_non, x_is_bl, x_is_bl_non, x_is_int_non, x_is_str_non, x_is_lst_non, x_is_tup_non, x_is_dct_non, x_in_lst, x_in_tup, x_in_dct, x_in_str, x_wk_lst, x_wk_tup, x_wk_str, x_li, x_di_lst, x_di_tup, x_rg1, x_rg2, x_rg3, x_oi, x_db, x_bnm, x_btp, x_dput, x_dput_dct, x_key_int, x_key_str, x_rep_lst, x_rep_tup, x_rep_dct, x_sb1_lst, x_sb1_tup, x_sb1_dct, x_app1, x_eq_int, x_eq_bl]
theorem prog_ok (hB : B.length = 5) (hW : W.length = 5) (n1 : ∀ c, S.call "_law_cell" [scr ns, .int 0] = some (.int c, [none, none]) → S.call "_law_names" [.int c] = some (.lst false (B.map tx), [none]) ∧ S.call "_law_names" [.int (c / 4)] = some (.lst false (W.map tx), [none])) :
    ∃ P : List Part, P.length ≤ 5 ∧ (∀ p ∈ P, p.2.length ≤ 20) ∧ runF S f_law_program [scr ns] = some (prD P, [none]) := by
  obtain ⟨c, c0, e0⟩ := hcell 0 (by omega) (by omega)
  obtain ⟨c1, c10, e1⟩ := hcell 1 (by omega) (by omega)
  obtain ⟨g1, g2⟩ := n1 c e0
  have p5 : (0 : Int) < 5 := by decide
  have d4 : (0 : Int) < 4 ∧ (4 : Int).natAbs.log2 < 9000 := by decide +kernel
  obtain ⟨m, hm, m0, m1⟩ : ∃ m : Int, 1 + c1 % 5 = m ∧ 0 ≤ m ∧ m ≤ 5 := ⟨_, rfl, by omega, by omega⟩
  have hr := rangeD_ok m0 (by omega)
  obtain ⟨ρ', e, P, k, x, y, rfl, l1, l2⟩ := loopL_inv (tg := .nm 4) (b := evSs S whl f_law_program_b2) (ds := (List.range m.toNat).map fun (k : Nat) => D.int k) (ρ := PEnv ns B W [] none none none)
    (fun i ρ => ∃ P k x y, ρ = PEnv ns B W P k x y ∧ P.length = i ∧ ∀ p ∈ P, p.2.length ≤ 20) (fun i ρ d ⟨P, k, x, y, hρ, l1, l2⟩ hi => by
      obtain ⟨hi2, rfl⟩ := rng_get hi
      obtain ⟨p, x', y', h1, e⟩ := prog_t2 S ns B W hcell hline P (by omega) (i : Nat) (by omega) (by omega) x y
      subst hρ
      refine ⟨_, _, rfl, e, P ++ [p], _, x', y', rfl, by simp [l1], fun q hq => ?_⟩
      rcases List.mem_append.mp hq with z | z
      · exact l2 q z
      · rw [List.mem_singleton.mp z]; exact h1) ⟨[], none, none, none, rfl, rfl, (by intro p hp; cases hp)⟩
  rw [List.length_map, List.length_range] at l1
  refine ⟨P, by omega, l2, ?_⟩
  have s1 : evS S whl (.set 1 (.call "_law_names" (.cons (.call "_law_cell" (.cons (.var 0) (.cons (.con (.int 0)) .nil))) .nil))) [some (scr ns), none, none, none, none, none, none] = some (.nx [some (scr ns), some (.lst false (B.map tx)), none, none, none, none, none]) := by
    simp only [e0, g1, f0, f1, f2, f3, f4, f5, f6, f7, f8, encN.frz, encN.frzL, encN.clean, encN.cleanL, ln_frz, ln_clean, lns_frz, lns_clean, pt_frz, pt_clean, pts_frz, pts_clean, frz_scr, frz_app, List.map_append, List.length_append, List.length_map, decide_true, decide_false, and_self, runF, evSs, evS, evT, evE, evAnd, evOr, evAndE, evOrE, evEs, evO, evC, evI, env0, endF, one, two, three, Eng.many, meth, chk, putD, appD, isLst, Eng.kept, Eng.kill, bindT, setAll, Tgt.slots, Exs.isNil, Ex.pure, Exs.pure, Ox.pure, Itr.pure, Ex.vars, Exs.vars, Ox.vars, Itr.vars, popD, popAtD, deepD, getP, putP, evP, callIO, ioArgs, ioSlot, ioOk, ioOut, ioV, ioClean, outs_from, outsGo, List.lookup_cons, List.lookup_nil, List.any_cons, List.any_nil, List.all_cons, List.all_nil, Exs.toList, Ex.isVar, frzE, cleanE, D.clean, cleanL, D.frz, frzL, frz_frz, frzL_frz, tru, get0_cons_zero, get0_cons_succ, get0_nil, List.set_cons_zero, List.set_cons_succ, frzAt_from, frzFrom, List.elem_cons, List.elem_nil, Nat.reduceBEq, List.length_cons, List.length_nil, List.map_cons, List.map_nil, List.replicate_succ, List.replicate_zero, List.cons_append, List.nil_append, List.append_nil, Option.map_some, Option.map_none, Option.bind_some, Option.bind_none, Nat.reduceSub, Nat.reduceAdd, List.range_eq_nil, Bool.not_false, Bool.not_true, Bool.or_true, Bool.true_or, Bool.or_false, Bool.false_or, Bool.and_true, Bool.true_and, Bool.and_false, Bool.false_and, Bool.not_not, Bool.false_eq_true, if_true, if_false, reduceIte, reduceCtorEq, x_blt_len, x_blt_int, x_blt_str, x_blt_list, x_blt_tuple, x_blt_max, x_blt_min, x_blt_sset, x_blt_sorted, x_sorted, x_sortd, x_mth_join, x_mth_upper, x_mth_index, x_isi_str_non, x_isi_str_bl, x_isi_str_int, x_isi_str_str, x_isi_str_lst, x_isi_str_tup, x_isi_str_dct, x_isi_int_non, x_isi_int_bl, x_isi_int_int, x_isi_int_str, x_isi_int_lst, x_isi_int_tup, x_isi_int_dct, x_isi_bool_non, x_isi_bool_bl, x_isi_bool_int, x_isi_bool_str, x_isi_bool_lst, x_isi_bool_tup, x_isi_bool_dct, x_isi_tuple_non, x_isi_tuple_bl, x_isi_tuple_int, x_isi_tuple_str, x_isi_tuple_lst, x_isi_tuple_tup, x_isi_tuple_dct, x_isi_list_non, x_isi_list_bl, x_isi_list_int, x_isi_list_str, x_isi_list_lst, x_isi_list_tup, x_isi_list_dct, x_tru_non, x_tru_bl, x_tru_int, x_tru_str, x_tru_lst, x_tru_tup, x_neg, x_sub_lst, x_sub_tup, x_sub_str, x_sub_dct, x_cut_lst, x_cut_tup, x_cut_str, x_len_str, x_len_lst, x_len_tup, x_len_dct, x_int_int, x_int_bl, x_str_int, x_list_lst, x_list_tup, x_list_dct, x_tuple_lst, x_tuple_tup, x_max, x_min, x_add_int, x_add_str, x_add_lst, x_add_tup, x_sub_int, x_mul, x_muls, x_fdiv, x_mod, x_pow, x_cmp_eq, x_cmp_ne, x_cmp_lt, x_cmp_le, x_cmp_gt, x_cmp_ge, x_cmp_isin, x_cmp_notin, x_cmp_is, x_cmp_isnot, x_lt_int, x_le_int, x_gt_int, x_ge_int, x_lt_str, x_le_str, x_is_non, x_is_bl, x_is_bl_non, x_is_int_non, x_is_str_non, x_is_lst_non, x_is_tup_non, x_is_dct_non, x_in_lst, x_in_tup, x_in_dct, x_in_str, x_wk_lst, x_wk_tup, x_wk_str, x_li, x_di_lst, x_di_tup, x_rg1, x_rg2, x_rg3, x_oi, x_db, x_bnm, x_btp, x_dput, x_dput_dct, x_key_int, x_key_str, x_rep_lst, x_rep_tup, x_rep_dct, x_sb1_lst, x_sb1_tup, x_sb1_dct, x_app1, x_eq_int, x_eq_bl]
  have s2 : evS S whl (.set 2 (.call "_law_names" (.cons (.bin .fdiv (.call "_law_cell" (.cons (.var 0) (.cons (.con (.int 0)) .nil))) (.con (.int 4))) .nil))) [some (scr ns), some (.lst false (B.map tx)), none, none, none, none, none] = some (.nx [some (scr ns), some (.lst false (B.map tx)), some (.lst false (W.map tx)), none, none, none, none]) := by
    simp only [e0, d4, g2, f0, f1, f2, f3, f4, f5, f6, f7, f8, encN.frz, encN.frzL, encN.clean, encN.cleanL, ln_frz, ln_clean, lns_frz, lns_clean, pt_frz, pt_clean, pts_frz, pts_clean, frz_scr, frz_app, List.map_append, List.length_append, List.length_map, decide_true, decide_false, and_self, runF, evSs, evS, evT, evE, evAnd, evOr, evAndE, evOrE, evEs, evO, evC, evI, env0, endF, one, two, three, Eng.many, meth, chk, putD, appD, isLst, Eng.kept, Eng.kill, bindT, setAll, Tgt.slots, Exs.isNil, Ex.pure, Exs.pure, Ox.pure, Itr.pure, Ex.vars, Exs.vars, Ox.vars, Itr.vars, popD, popAtD, deepD, getP, putP, evP, callIO, ioArgs, ioSlot, ioOk, ioOut, ioV, ioClean, outs_from, outsGo, List.lookup_cons, List.lookup_nil, List.any_cons, List.any_nil, List.all_cons, List.all_nil, Exs.toList, Ex.isVar, frzE, cleanE, D.clean, cleanL, D.frz, frzL, frz_frz, frzL_frz, tru, get0_cons_zero, get0_cons_succ, get0_nil, List.set_cons_zero, List.set_cons_succ, frzAt_from, frzFrom, List.elem_cons, List.elem_nil, Nat.reduceBEq, List.length_cons, List.length_nil, List.map_cons, List.map_nil, List.replicate_succ, List.replicate_zero, List.cons_append, List.nil_append, List.append_nil, Option.map_some, Option.map_none, Option.bind_some, Option.bind_none, Nat.reduceSub, Nat.reduceAdd, List.range_eq_nil, Bool.not_false, Bool.not_true, Bool.or_true, Bool.true_or, Bool.or_false, Bool.false_or, Bool.and_true, Bool.true_and, Bool.and_false, Bool.false_and, Bool.not_not, Bool.false_eq_true, if_true, if_false, reduceIte, reduceCtorEq, x_blt_len, x_blt_int, x_blt_str, x_blt_list, x_blt_tuple, x_blt_max, x_blt_min, x_blt_sset, x_blt_sorted, x_sorted, x_sortd, x_mth_join, x_mth_upper, x_mth_index, x_isi_str_non, x_isi_str_bl, x_isi_str_int, x_isi_str_str, x_isi_str_lst, x_isi_str_tup, x_isi_str_dct, x_isi_int_non, x_isi_int_bl, x_isi_int_int, x_isi_int_str, x_isi_int_lst, x_isi_int_tup, x_isi_int_dct, x_isi_bool_non, x_isi_bool_bl, x_isi_bool_int, x_isi_bool_str, x_isi_bool_lst, x_isi_bool_tup, x_isi_bool_dct, x_isi_tuple_non, x_isi_tuple_bl, x_isi_tuple_int, x_isi_tuple_str, x_isi_tuple_lst, x_isi_tuple_tup, x_isi_tuple_dct, x_isi_list_non, x_isi_list_bl, x_isi_list_int, x_isi_list_str, x_isi_list_lst, x_isi_list_tup, x_isi_list_dct, x_tru_non, x_tru_bl, x_tru_int, x_tru_str, x_tru_lst, x_tru_tup, x_neg, x_sub_lst, x_sub_tup, x_sub_str, x_sub_dct, x_cut_lst, x_cut_tup, x_cut_str, x_len_str, x_len_lst, x_len_tup, x_len_dct, x_int_int, x_int_bl, x_str_int, x_list_lst, x_list_tup, x_list_dct, x_tuple_lst, x_tuple_tup, x_max, x_min, x_add_int, x_add_str, x_add_lst, x_add_tup, x_sub_int, x_mul, x_muls, x_fdiv, x_mod, x_pow, x_cmp_eq, x_cmp_ne, x_cmp_lt, x_cmp_le, x_cmp_gt, x_cmp_ge, x_cmp_isin, x_cmp_notin, x_cmp_is, x_cmp_isnot, x_lt_int, x_le_int, x_gt_int, x_ge_int, x_lt_str, x_le_str, x_is_non, x_is_bl, x_is_bl_non, x_is_int_non, x_is_str_non, x_is_lst_non, x_is_tup_non, x_is_dct_non, x_in_lst, x_in_tup, x_in_dct, x_in_str, x_wk_lst, x_wk_tup, x_wk_str, x_li, x_di_lst, x_di_tup, x_rg1, x_rg2, x_rg3, x_oi, x_db, x_bnm, x_btp, x_dput, x_dput_dct, x_key_int, x_key_str, x_rep_lst, x_rep_tup, x_rep_dct, x_sb1_lst, x_sb1_tup, x_sb1_dct, x_app1, x_eq_int, x_eq_bl]
  have s3 : evS S whl (.set 3 (.lst .nil)) [some (scr ns), some (.lst false (B.map tx)), some (.lst false (W.map tx)), none, none, none, none] = some (.nx (PEnv ns B W [] none none none)) := by
    simp only [PEnv, List.map_nil, f0, f1, f2, f3, f4, f5, f6, f7, f8, encN.frz, encN.frzL, encN.clean, encN.cleanL, ln_frz, ln_clean, lns_frz, lns_clean, pt_frz, pt_clean, pts_frz, pts_clean, frz_scr, frz_app, List.map_append, List.length_append, List.length_map, decide_true, decide_false, and_self, runF, evSs, evS, evT, evE, evAnd, evOr, evAndE, evOrE, evEs, evO, evC, evI, env0, endF, one, two, three, Eng.many, meth, chk, putD, appD, isLst, Eng.kept, Eng.kill, bindT, setAll, Tgt.slots, Exs.isNil, Ex.pure, Exs.pure, Ox.pure, Itr.pure, Ex.vars, Exs.vars, Ox.vars, Itr.vars, popD, popAtD, deepD, getP, putP, evP, callIO, ioArgs, ioSlot, ioOk, ioOut, ioV, ioClean, outs_from, outsGo, List.lookup_cons, List.lookup_nil, List.any_cons, List.any_nil, List.all_cons, List.all_nil, Exs.toList, Ex.isVar, frzE, cleanE, D.clean, cleanL, D.frz, frzL, frz_frz, frzL_frz, tru, get0_cons_zero, get0_cons_succ, get0_nil, List.set_cons_zero, List.set_cons_succ, frzAt_from, frzFrom, List.elem_cons, List.elem_nil, Nat.reduceBEq, List.length_cons, List.length_nil, List.map_cons, List.map_nil, List.replicate_succ, List.replicate_zero, List.cons_append, List.nil_append, List.append_nil, Option.map_some, Option.map_none, Option.bind_some, Option.bind_none, Nat.reduceSub, Nat.reduceAdd, List.range_eq_nil, Bool.not_false, Bool.not_true, Bool.or_true, Bool.true_or, Bool.or_false, Bool.false_or, Bool.and_true, Bool.true_and, Bool.and_false, Bool.false_and, Bool.not_not, Bool.false_eq_true, if_true, if_false, reduceIte, reduceCtorEq, x_blt_len, x_blt_int, x_blt_str, x_blt_list, x_blt_tuple, x_blt_max, x_blt_min, x_blt_sset, x_blt_sorted, x_sorted, x_sortd, x_mth_join, x_mth_upper, x_mth_index, x_isi_str_non, x_isi_str_bl, x_isi_str_int, x_isi_str_str, x_isi_str_lst, x_isi_str_tup, x_isi_str_dct, x_isi_int_non, x_isi_int_bl, x_isi_int_int, x_isi_int_str, x_isi_int_lst, x_isi_int_tup, x_isi_int_dct, x_isi_bool_non, x_isi_bool_bl, x_isi_bool_int, x_isi_bool_str, x_isi_bool_lst, x_isi_bool_tup, x_isi_bool_dct, x_isi_tuple_non, x_isi_tuple_bl, x_isi_tuple_int, x_isi_tuple_str, x_isi_tuple_lst, x_isi_tuple_tup, x_isi_tuple_dct, x_isi_list_non, x_isi_list_bl, x_isi_list_int, x_isi_list_str, x_isi_list_lst, x_isi_list_tup, x_isi_list_dct, x_tru_non, x_tru_bl, x_tru_int, x_tru_str, x_tru_lst, x_tru_tup, x_neg, x_sub_lst, x_sub_tup, x_sub_str, x_sub_dct, x_cut_lst, x_cut_tup, x_cut_str, x_len_str, x_len_lst, x_len_tup, x_len_dct, x_int_int, x_int_bl, x_str_int, x_list_lst, x_list_tup, x_list_dct, x_tuple_lst, x_tuple_tup, x_max, x_min, x_add_int, x_add_str, x_add_lst, x_add_tup, x_sub_int, x_mul, x_muls, x_fdiv, x_mod, x_pow, x_cmp_eq, x_cmp_ne, x_cmp_lt, x_cmp_le, x_cmp_gt, x_cmp_ge, x_cmp_isin, x_cmp_notin, x_cmp_is, x_cmp_isnot, x_lt_int, x_le_int, x_gt_int, x_ge_int, x_lt_str, x_le_str, x_is_non, x_is_bl, x_is_bl_non, x_is_int_non, x_is_str_non, x_is_lst_non, x_is_tup_non, x_is_dct_non, x_in_lst, x_in_tup, x_in_dct, x_in_str, x_wk_lst, x_wk_tup, x_wk_str, x_li, x_di_lst, x_di_tup, x_rg1, x_rg2, x_rg3, x_oi, x_db, x_bnm, x_btp, x_dput, x_dput_dct, x_key_int, x_key_str, x_rep_lst, x_rep_tup, x_rep_dct, x_sb1_lst, x_sb1_tup, x_sb1_dct, x_app1, x_eq_int, x_eq_bl]
  have s4 : evS S whl (.loop (.nm 4) (.range (.cons (.bin .add (.con (.int 1)) (.bin .mod (.call "_law_cell" (.cons (.var 0) (.cons (.con (.int 1)) .nil))) (.con (.int 5)))) .nil)) f_law_program_b2) (PEnv ns B W [] none none none) = some (.nx (PEnv ns B W P k x y)) := by
    simp only [PEnv, List.map_nil] at e
    simp only [PEnv, List.map_nil, e1, p5, hm, hr, e, f0, f1, f2, f3, f4, f5, f6, f7, f8, encN.frz, encN.frzL, encN.clean, encN.cleanL, ln_frz, ln_clean, lns_frz, lns_clean, pt_frz, pt_clean, pts_frz, pts_clean, frz_scr, frz_app, List.map_append, List.length_append, List.length_map, decide_true, decide_false, and_self, runF, evSs, evS, evT, evE, evAnd, evOr, evAndE, evOrE, evEs, evO, evC, evI, env0, endF, one, two, three, Eng.many, meth, chk, putD, appD, isLst, Eng.kept, Eng.kill, bindT, setAll, Tgt.slots, Exs.isNil, Ex.pure, Exs.pure, Ox.pure, Itr.pure, Ex.vars, Exs.vars, Ox.vars, Itr.vars, popD, popAtD, deepD, getP, putP, evP, callIO, ioArgs, ioSlot, ioOk, ioOut, ioV, ioClean, outs_from, outsGo, List.lookup_cons, List.lookup_nil, List.any_cons, List.any_nil, List.all_cons, List.all_nil, Exs.toList, Ex.isVar, frzE, cleanE, D.clean, cleanL, D.frz, frzL, frz_frz, frzL_frz, tru, get0_cons_zero, get0_cons_succ, get0_nil, List.set_cons_zero, List.set_cons_succ, frzAt_from, frzFrom, List.elem_cons, List.elem_nil, Nat.reduceBEq, List.length_cons, List.length_nil, List.map_cons, List.map_nil, List.replicate_succ, List.replicate_zero, List.cons_append, List.nil_append, List.append_nil, Option.map_some, Option.map_none, Option.bind_some, Option.bind_none, Nat.reduceSub, Nat.reduceAdd, List.range_eq_nil, Bool.not_false, Bool.not_true, Bool.or_true, Bool.true_or, Bool.or_false, Bool.false_or, Bool.and_true, Bool.true_and, Bool.and_false, Bool.false_and, Bool.not_not, Bool.false_eq_true, if_true, if_false, reduceIte, reduceCtorEq, x_blt_len, x_blt_int, x_blt_str, x_blt_list, x_blt_tuple, x_blt_max, x_blt_min, x_blt_sset, x_blt_sorted, x_sorted, x_sortd, x_mth_join, x_mth_upper, x_mth_index, x_isi_str_non, x_isi_str_bl, x_isi_str_int, x_isi_str_str, x_isi_str_lst, x_isi_str_tup, x_isi_str_dct, x_isi_int_non, x_isi_int_bl, x_isi_int_int, x_isi_int_str, x_isi_int_lst, x_isi_int_tup, x_isi_int_dct, x_isi_bool_non, x_isi_bool_bl, x_isi_bool_int, x_isi_bool_str, x_isi_bool_lst, x_isi_bool_tup, x_isi_bool_dct, x_isi_tuple_non, x_isi_tuple_bl, x_isi_tuple_int, x_isi_tuple_str, x_isi_tuple_lst, x_isi_tuple_tup, x_isi_tuple_dct, x_isi_list_non, x_isi_list_bl, x_isi_list_int, x_isi_list_str, x_isi_list_lst, x_isi_list_tup, x_isi_list_dct, x_tru_non, x_tru_bl, x_tru_int, x_tru_str, x_tru_lst, x_tru_tup, x_neg, x_sub_lst, x_sub_tup, x_sub_str, x_sub_dct, x_cut_lst, x_cut_tup, x_cut_str, x_len_str, x_len_lst, x_len_tup, x_len_dct, x_int_int, x_int_bl, x_str_int, x_list_lst, x_list_tup, x_list_dct, x_tuple_lst, x_tuple_tup, x_max, x_min, x_add_int, x_add_str, x_add_lst, x_add_tup, x_sub_int, x_mul, x_muls, x_fdiv, x_mod, x_pow, x_cmp_eq, x_cmp_ne, x_cmp_lt, x_cmp_le, x_cmp_gt, x_cmp_ge, x_cmp_isin, x_cmp_notin, x_cmp_is, x_cmp_isnot, x_lt_int, x_le_int, x_gt_int, x_ge_int, x_lt_str, x_le_str, x_is_non, x_is_bl, x_is_bl_non, x_is_int_non, x_is_str_non, x_is_lst_non, x_is_tup_non, x_is_dct_non, x_in_lst, x_in_tup, x_in_dct, x_in_str, x_wk_lst, x_wk_tup, x_wk_str, x_li, x_di_lst, x_di_tup, x_rg1, x_rg2, x_rg3, x_oi, x_db, x_bnm, x_btp, x_dput, x_dput_dct, x_key_int, x_key_str, x_rep_lst, x_rep_tup, x_rep_dct, x_sb1_lst, x_sb1_tup, x_sb1_dct, x_app1, x_eq_int, x_eq_bl]
  refine run_of rfl (seq_nx s1 (seq_nx s2 (seq_nx s3 (seq_nx s4 (seq_rt (d := prD P) (ρ1 := PEnv ns B W P k x y) ?_))))) rfl
  simp only [PEnv, prD, f0, f1, f2, f3, f4, f5, f6, f7, f8, encN.frz, encN.frzL, encN.clean, encN.cleanL, ln_frz, ln_clean, lns_frz, lns_clean, pt_frz, pt_clean, pts_frz, pts_clean, frz_scr, frz_app, List.map_append, List.length_append, List.length_map, decide_true, decide_false, and_self, runF, evSs, evS, evT, evE, evAnd, evOr, evAndE, evOrE, evEs, evO, evC, evI, env0, endF, one, two, three, Eng.many, meth, chk, putD, appD, isLst, Eng.kept, Eng.kill, bindT, setAll, Tgt.slots, Exs.isNil, Ex.pure, Exs.pure, Ox.pure, Itr.pure, Ex.vars, Exs.vars, Ox.vars, Itr.vars, popD, popAtD, deepD, getP, putP, evP, callIO, ioArgs, ioSlot, ioOk, ioOut, ioV, ioClean, outs_from, outsGo, List.lookup_cons, List.lookup_nil, List.any_cons, List.any_nil, List.all_cons, List.all_nil, Exs.toList, Ex.isVar, frzE, cleanE, D.clean, cleanL, D.frz, frzL, frz_frz, frzL_frz, tru, get0_cons_zero, get0_cons_succ, get0_nil, List.set_cons_zero, List.set_cons_succ, frzAt_from, frzFrom, List.elem_cons, List.elem_nil, Nat.reduceBEq, List.length_cons, List.length_nil, List.map_cons, List.map_nil, List.replicate_succ, List.replicate_zero, List.cons_append, List.nil_append, List.append_nil, Option.map_some, Option.map_none, Option.bind_some, Option.bind_none, Nat.reduceSub, Nat.reduceAdd, List.range_eq_nil, Bool.not_false, Bool.not_true, Bool.or_true, Bool.true_or, Bool.or_false, Bool.false_or, Bool.and_true, Bool.true_and, Bool.and_false, Bool.false_and, Bool.not_not, Bool.false_eq_true, if_true, if_false, reduceIte, reduceCtorEq, x_blt_len, x_blt_int, x_blt_str, x_blt_list, x_blt_tuple, x_blt_max, x_blt_min, x_blt_sset, x_blt_sorted, x_sorted, x_sortd, x_mth_join, x_mth_upper, x_mth_index, x_isi_str_non, x_isi_str_bl, x_isi_str_int, x_isi_str_str, x_isi_str_lst, x_isi_str_tup, x_isi_str_dct, x_isi_int_non, x_isi_int_bl, x_isi_int_int, x_isi_int_str, x_isi_int_lst, x_isi_int_tup, x_isi_int_dct, x_isi_bool_non, x_isi_bool_bl, x_isi_bool_int, x_isi_bool_str, x_isi_bool_lst, x_isi_bool_tup, x_isi_bool_dct, x_isi_tuple_non, x_isi_tuple_bl, x_isi_tuple_int, x_isi_tuple_str, x_isi_tuple_lst, x_isi_tuple_tup, x_isi_tuple_dct, x_isi_list_non, x_isi_list_bl, x_isi_list_int, x_isi_list_str, x_isi_list_lst, x_isi_list_tup, x_isi_list_dct, x_tru_non, x_tru_bl, x_tru_int, x_tru_str, x_tru_lst, x_tru_tup, x_neg, x_sub_lst, x_sub_tup, x_sub_str, x_sub_dct, x_cut_lst, x_cut_tup, x_cut_str, x_len_str, x_len_lst, x_len_tup, x_len_dct, x_int_int, x_int_bl, x_str_int, x_list_lst, x_list_tup, x_list_dct, x_tuple_lst, x_tuple_tup, x_max, x_min, x_add_int, x_add_str, x_add_lst, x_add_tup, x_sub_int, x_mul, x_muls, x_fdiv, x_mod, x_pow, x_cmp_eq, x_cmp_ne, x_cmp_lt, x_cmp_le, x_cmp_gt, x_cmp_ge, x_cmp_isin, x_cmp_notin, x_cmp_is, x_cmp_isnot, x_lt_int, x_le_int, x_gt_int, x_ge_int, x_lt_str, x_le_str, x_is_non, x_is_bl, x_is_bl_non, x_is_int_non, x_is_str_non, x_is_lst_non, x_is_tup_non, x_is_dct_non, x_in_lst, x_in_tup, x_in_dct, x_in_str, x_wk_lst, x_wk_tup, x_wk_str, x_li, x_di_lst, x_di_tup, x_rg1, x_rg2, x_rg3, x_oi, x_db, x_bnm, x_btp, x_dput, x_dput_dct, x_key_int, x_key_str, x_rep_lst, x_rep_tup, x_rep_dct, x_sb1_lst, x_sb1_tup, x_sb1_dct, x_app1, x_eq_int, x_eq_bl]
end
end K05
namespace K05
open PySem PySem.Spec PyProof.Rows L2 RT Eng Lib
def hd : Ln → Str
  | .pair _ _ _ _ => "pair" | .two k _ _ => twoW k | .one k _ => oneW k | .back _ => "back" | .doo _ => "do" | .kw k => kwW k
def isPair : Ln → Bool
  | .pair _ _ _ _ => true | _ => false
def isTwo : Ln → Bool
  | .two _ _ _ => true | _ => false
def isOne : Ln → Bool
  | .one _ _ => true | _ => false
def isTell : Ln → Bool
  | .one k _ => k == 1 | _ => false
def isGiv (n : Ln) : Bool := isPair n || (isTwo n || (isOne n && !isTell n))
def giv : D := .tup [.str "pair", .str "first", .str "second", .str "same", .str "none"]
def six : D := .tup [.str "pair", .str "first", .str "second", .str "same", .str "none", .str "tell"]
def thr : D := .tup [.str "first", .str "second", .str "same"]
theorem hd_ind (p : Str → Ln → Prop) (h1 : ∀ x w y z, p "pair" (.pair x w y z)) (h2 : ∀ k x y, p (twoW k) (.two k x y)) (h3 : ∀ k x, p (oneW k) (.one k x)) (h4 : ∀ w, p "back" (.back w)) (h5 : ∀ w, p "do" (.doo w)) (h6 : ∀ k, p (kwW k) (.kw k)) (n : Ln) : p (hd n) n := by
  cases n
  · exact h1 ..
  · exact h2 ..
  · exact h3 ..
  · exact h4 ..
  · exact h5 ..
  · exact h6 ..
theorem sub0 (n : Ln) : dSub (lnD n) (.int 0) = some (.str (hd n)) := by cases n <;> rfl
theorem e_pair (n : Ln) : dEq (.str (hd n)) (.str "pair") = some (isPair n) := by
  refine hd_ind (fun h n => dEq (.str h) (.str "pair") = some (isPair n)) ?_ ?_ ?_ ?_ ?_ ?_ n
  · intros; show _ = some true; decide +kernel
  · intro k x y; show _ = some false; revert k; decide +kernel
  · intro k x; show _ = some false; revert k; decide +kernel
  · intros; show _ = some false; decide +kernel
  · intros; show _ = some false; decide +kernel
  · intro k; show _ = some false; revert k; decide +kernel
theorem e_tell (n : Ln) : dEq (.str (hd n)) (.str "tell") = some (isTell n) := by
  refine hd_ind (fun h n => dEq (.str h) (.str "tell") = some (isTell n)) ?_ ?_ ?_ ?_ ?_ ?_ n
  · intros; show _ = some false; decide +kernel
  · intro k x y; show _ = some false; revert k; decide +kernel
  · intro k x; show _ = some (k == 1); revert k; decide +kernel
  · intros; show _ = some false; decide +kernel
  · intros; show _ = some false; decide +kernel
  · intro k; show _ = some false; revert k; decide +kernel
theorem i_giv (n : Ln) : dIn (.str (hd n)) giv = some (isGiv n) := by
  refine hd_ind (fun h n => dIn (.str h) giv = some (isGiv n)) ?_ ?_ ?_ ?_ ?_ ?_ n
  · intros; show _ = some true; decide +kernel
  · intro k x y; show _ = some true; revert k; decide +kernel
  · intro k x; show _ = some (false || (false || (true && !(k == 1)))); revert k; decide +kernel
  · intros; show _ = some false; decide +kernel
  · intros; show _ = some false; decide +kernel
  · intro k; show _ = some false; revert k; decide +kernel
theorem i_six (n : Ln) : dIn (.str (hd n)) six = some (isPair n || (isTwo n || isOne n)) := by
  refine hd_ind (fun h n => dIn (.str h) six = some (isPair n || (isTwo n || isOne n))) ?_ ?_ ?_ ?_ ?_ ?_ n
  · intros; show _ = some true; decide +kernel
  · intro k x y; show _ = some true; revert k; decide +kernel
  · intro k x; show _ = some true; revert k; decide +kernel
  · intros; show _ = some false; decide +kernel
  · intros; show _ = some false; decide +kernel
  · intro k; show _ = some false; revert k; decide +kernel
theorem i_thr (n : Ln) : dIn (.str (hd n)) thr = some (isTwo n) := by
  refine hd_ind (fun h n => dIn (.str h) thr = some (isTwo n)) ?_ ?_ ?_ ?_ ?_ ?_ n
  · intros; show _ = some false; decide +kernel
  · intro k x y; show _ = some true; revert k; decide +kernel
  · intro k x; show _ = some false; revert k; decide +kernel
  · intros; show _ = some false; decide +kernel
  · intros; show _ = some false; decide +kernel
  · intro k; show _ = some false; revert k; decide +kernel
/-! what a line names -/
def bx : Ln → List Nm
  | .pair x _ y z => [x, y, z] | .two _ x y => [x, y] | .one _ x => [x] | _ => []
def bxd : Ln → List Nm
  | .pair x _ y z => [y, z, x] | .two _ x y => [x, y] | .one _ x => [x] | _ => []
def wx : Ln → List Nm
  | .pair _ w _ _ => [w] | _ => []
theorem bi_ok (S : Sem0) (hg : S.glob "GIVING" = some giv) (n : Ln) : runF S f_boxes_in [lnD n] = some (.lst true ((bx n).map tx), [none]) := by
  have e1 := e_pair n
  have e2 := i_giv n
  have e3 := e_tell n
  have e4 := sub0 n
  have gf : giv.frz = giv := rfl
  cases n with
  | pair x w y z =>
    have a1 : dSub (lnD (.pair x w y z)) (.int 1) = some (tx x) := rfl
    have a3 : dSub (lnD (.pair x w y z)) (.int 3) = some (tx y) := rfl
    have a4 : dSub (lnD (.pair x w y z)) (.int 4) = some (tx z) := rfl
    simp only [f_boxes_in, e1, e4, a1, a3, a4, isPair, bx, List.map_cons, List.map_nil, f0, f1, f2, f3, f4, f5, f6, f7, f8, encN.frz, encN.frzL, encN.clean, encN.cleanL, setE_frz encN, setE_clean encN, ln_frz, ln_clean, lns_frz, lns_clean, pt_frz, pt_clean, pts_frz, pts_clean, pr_frz, pr_clean, frz_scr, frz_app, List.map_append, List.length_append, List.length_map, decide_true, decide_false, and_self, runF, evSs, evS, evT, evE, evAnd, evOr, evAndE, evOrE, evEs, evO, evC, evI, env0, endF, one, two, three, Eng.many, meth, chk, putD, appD, isLst, Eng.kept, Eng.kill, bindT, setAll, Tgt.slots, Exs.isNil, Ex.pure, Exs.pure, Ox.pure, Itr.pure, Ex.vars, Exs.vars, Ox.vars, Itr.vars, popD, popAtD, deepD, getP, putP, evP, callIO, ioArgs, ioSlot, ioOk, ioOut, ioV, ioClean, outs_from, outsGo, List.lookup_cons, List.lookup_nil, List.any_cons, List.any_nil, List.all_cons, List.all_nil, Exs.toList, Ex.isVar, frzE, cleanE, D.clean, cleanL, D.frz, frzL, frz_frz, frzL_frz, tru, get0_cons_zero, get0_cons_succ, get0_nil, List.set_cons_zero, List.set_cons_succ, frzAt_from, frzFrom, List.elem_cons, List.elem_nil, Nat.reduceBEq, List.length_cons, List.length_nil, List.map_cons, List.map_nil, List.replicate_succ, List.replicate_zero, List.cons_append, List.nil_append, List.append_nil, Option.map_some, Option.map_none, Option.bind_some, Option.bind_none, Nat.reduceSub, Nat.reduceAdd, List.range_eq_nil, Bool.not_false, Bool.not_true, Bool.or_true, Bool.true_or, Bool.or_false, Bool.false_or, Bool.and_true, Bool.true_and, Bool.and_false, Bool.false_and, Bool.not_not, Bool.false_eq_true, if_true, if_false, reduceIte, reduceCtorEq, x_blt_len, x_blt_int, x_blt_str, x_blt_list, x_blt_tuple, x_blt_max, x_blt_min, x_blt_sset, x_blt_sorted, x_sorted, x_sortd, x_mth_join, x_mth_upper, x_mth_index, x_isi_str_non, x_isi_str_bl, x_isi_str_int, x_isi_str_str, x_isi_str_lst, x_isi_str_tup, x_isi_str_dct, x_isi_int_non, x_isi_int_bl, x_isi_int_int, x_isi_int_str, x_isi_int_lst, x_isi_int_tup, x_isi_int_dct, x_isi_bool_non, x_isi_bool_bl, x_isi_bool_int, x_isi_bool_str, x_isi_bool_lst, x_isi_bool_tup, x_isi_bool_dct, x_isi_tuple_non, x_isi_tuple_bl, x_isi_tuple_int, x_isi_tuple_str, x_isi_tuple_lst, x_isi_tuple_tup, x_isi_tuple_dct, x_isi_list_non, x_isi_list_bl, x_isi_list_int, x_isi_list_str, x_isi_list_lst, x_isi_list_tup, x_isi_list_dct, x_tru_non, x_tru_bl, x_tru_int, x_tru_str, x_tru_lst, x_tru_tup, x_neg, x_sub_lst, x_sub_tup, x_sub_str, x_sub_dct, x_cut_lst, x_cut_tup, x_cut_str, x_len_str, x_len_lst, x_len_tup, x_len_dct, x_int_int, x_int_bl, x_str_int, x_list_lst, x_list_tup, x_list_dct, x_tuple_lst, x_tuple_tup, x_max, x_min, x_add_int, x_add_str, x_add_lst, x_add_tup, x_sub_int, x_mul, x_muls, x_fdiv, x_mod, x_pow, x_cmp_eq, x_cmp_ne, x_cmp_lt, x_cmp_le, x_cmp_gt, x_cmp_ge, x_cmp_isin, x_cmp_notin, x_cmp_is, x_cmp_isnot, x_lt_int, x_le_int, x_gt_int, x_ge_int, x_lt_str, x_le_str, x_is_non, x_is_bl, x_is_bl_non, x_is_int_non, x_is_str_non, x_is_lst_non, x_is_tup_non, x_is_dct_non, x_in_lst, x_in_tup, x_in_dct, x_in_str, x_wk_lst, x_wk_tup, x_wk_str, x_li, x_di_lst, x_di_tup, x_rg1, x_rg2, x_rg3, x_oi, x_db, x_bnm, x_btp, x_dput, x_dput_dct, x_key_int, x_key_str, x_rep_lst, x_rep_tup, x_rep_dct, x_sb1_lst, x_sb1_tup, x_sb1_dct, x_app1, x_eq_int, x_eq_bl]
  | two k x y =>
    have c1 : dCut (some 1) none (lnD (.two k x y)) = some (.tup [tx x, tx y]) := rfl
    simp only [f_boxes_in, hg, gf, e1, e2, e4, c1, isGiv, isPair, isTwo, bx, List.map_cons, List.map_nil, f0, f1, f2, f3, f4, f5, f6, f7, f8, encN.frz, encN.frzL, encN.clean, encN.cleanL, setE_frz encN, setE_clean encN, ln_frz, ln_clean, lns_frz, lns_clean, pt_frz, pt_clean, pts_frz, pts_clean, pr_frz, pr_clean, frz_scr, frz_app, List.map_append, List.length_append, List.length_map, decide_true, decide_false, and_self, runF, evSs, evS, evT, evE, evAnd, evOr, evAndE, evOrE, evEs, evO, evC, evI, env0, endF, one, two, three, Eng.many, meth, chk, putD, appD, isLst, Eng.kept, Eng.kill, bindT, setAll, Tgt.slots, Exs.isNil, Ex.pure, Exs.pure, Ox.pure, Itr.pure, Ex.vars, Exs.vars, Ox.vars, Itr.vars, popD, popAtD, deepD, getP, putP, evP, callIO, ioArgs, ioSlot, ioOk, ioOut, ioV, ioClean, outs_from, outsGo, List.lookup_cons, List.lookup_nil, List.any_cons, List.any_nil, List.all_cons, List.all_nil, Exs.toList, Ex.isVar, frzE, cleanE, D.clean, cleanL, D.frz, frzL, frz_frz, frzL_frz, tru, get0_cons_zero, get0_cons_succ, get0_nil, List.set_cons_zero, List.set_cons_succ, frzAt_from, frzFrom, List.elem_cons, List.elem_nil, Nat.reduceBEq, List.length_cons, List.length_nil, List.map_cons, List.map_nil, List.replicate_succ, List.replicate_zero, List.cons_append, List.nil_append, List.append_nil, Option.map_some, Option.map_none, Option.bind_some, Option.bind_none, Nat.reduceSub, Nat.reduceAdd, List.range_eq_nil, Bool.not_false, Bool.not_true, Bool.or_true, Bool.true_or, Bool.or_false, Bool.false_or, Bool.and_true, Bool.true_and, Bool.and_false, Bool.false_and, Bool.not_not, Bool.false_eq_true, if_true, if_false, reduceIte, reduceCtorEq, x_blt_len, x_blt_int, x_blt_str, x_blt_list, x_blt_tuple, x_blt_max, x_blt_min, x_blt_sset, x_blt_sorted, x_sorted, x_sortd, x_mth_join, x_mth_upper, x_mth_index, x_isi_str_non, x_isi_str_bl, x_isi_str_int, x_isi_str_str, x_isi_str_lst, x_isi_str_tup, x_isi_str_dct, x_isi_int_non, x_isi_int_bl, x_isi_int_int, x_isi_int_str, x_isi_int_lst, x_isi_int_tup, x_isi_int_dct, x_isi_bool_non, x_isi_bool_bl, x_isi_bool_int, x_isi_bool_str, x_isi_bool_lst, x_isi_bool_tup, x_isi_bool_dct, x_isi_tuple_non, x_isi_tuple_bl, x_isi_tuple_int, x_isi_tuple_str, x_isi_tuple_lst, x_isi_tuple_tup, x_isi_tuple_dct, x_isi_list_non, x_isi_list_bl, x_isi_list_int, x_isi_list_str, x_isi_list_lst, x_isi_list_tup, x_isi_list_dct, x_tru_non, x_tru_bl, x_tru_int, x_tru_str, x_tru_lst, x_tru_tup, x_neg, x_sub_lst, x_sub_tup, x_sub_str, x_sub_dct, x_cut_lst, x_cut_tup, x_cut_str, x_len_str, x_len_lst, x_len_tup, x_len_dct, x_int_int, x_int_bl, x_str_int, x_list_lst, x_list_tup, x_list_dct, x_tuple_lst, x_tuple_tup, x_max, x_min, x_add_int, x_add_str, x_add_lst, x_add_tup, x_sub_int, x_mul, x_muls, x_fdiv, x_mod, x_pow, x_cmp_eq, x_cmp_ne, x_cmp_lt, x_cmp_le, x_cmp_gt, x_cmp_ge, x_cmp_isin, x_cmp_notin, x_cmp_is, x_cmp_isnot, x_lt_int, x_le_int, x_gt_int, x_ge_int, x_lt_str, x_le_str, x_is_non, x_is_bl, x_is_bl_non, x_is_int_non, x_is_str_non, x_is_lst_non, x_is_tup_non, x_is_dct_non, x_in_lst, x_in_tup, x_in_dct, x_in_str, x_wk_lst, x_wk_tup, x_wk_str, x_li, x_di_lst, x_di_tup, x_rg1, x_rg2, x_rg3, x_oi, x_db, x_bnm, x_btp, x_dput, x_dput_dct, x_key_int, x_key_str, x_rep_lst, x_rep_tup, x_rep_dct, x_sb1_lst, x_sb1_tup, x_sb1_dct, x_app1, x_eq_int, x_eq_bl]
  | one k x =>
    have c1 : dCut (some 1) none (lnD (.one k x)) = some (.tup [tx x]) := rfl
    cases hk : isTell (.one k x) with
    | true =>
      rw [hk] at e3
      simp only [f_boxes_in, hg, gf, e1, e2, e3, e4, c1, hk, isGiv, isPair, isTwo, isOne, bx, List.map_cons, List.map_nil, f0, f1, f2, f3, f4, f5, f6, f7, f8, encN.frz, encN.frzL, encN.clean, encN.cleanL, setE_frz encN, setE_clean encN, ln_frz, ln_clean, lns_frz, lns_clean, pt_frz, pt_clean, pts_frz, pts_clean, pr_frz, pr_clean, frz_scr, frz_app, List.map_append, List.length_append, List.length_map, decide_true, decide_false, and_self, runF, evSs, evS, evT, evE, evAnd, evOr, evAndE, evOrE, evEs, evO, evC, evI, env0, endF, one, two, three, Eng.many, meth, chk, putD, appD, isLst, Eng.kept, Eng.kill, bindT, setAll, Tgt.slots, Exs.isNil, Ex.pure, Exs.pure, Ox.pure, Itr.pure, Ex.vars, Exs.vars, Ox.vars, Itr.vars, popD, popAtD, deepD, getP, putP, evP, callIO, ioArgs, ioSlot, ioOk, ioOut, ioV, ioClean, outs_from, outsGo, List.lookup_cons, List.lookup_nil, List.any_cons, List.any_nil, List.all_cons, List.all_nil, Exs.toList, Ex.isVar, frzE, cleanE, D.clean, cleanL, D.frz, frzL, frz_frz, frzL_frz, tru, get0_cons_zero, get0_cons_succ, get0_nil, List.set_cons_zero, List.set_cons_succ, frzAt_from, frzFrom, List.elem_cons, List.elem_nil, Nat.reduceBEq, List.length_cons, List.length_nil, List.map_cons, List.map_nil, List.replicate_succ, List.replicate_zero, List.cons_append, List.nil_append, List.append_nil, Option.map_some, Option.map_none, Option.bind_some, Option.bind_none, Nat.reduceSub, Nat.reduceAdd, List.range_eq_nil, Bool.not_false, Bool.not_true, Bool.or_true, Bool.true_or, Bool.or_false, Bool.false_or, Bool.and_true, Bool.true_and, Bool.and_false, Bool.false_and, Bool.not_not, Bool.false_eq_true, if_true, if_false, reduceIte, reduceCtorEq, x_blt_len, x_blt_int, x_blt_str, x_blt_list, x_blt_tuple, x_blt_max, x_blt_min, x_blt_sset, x_blt_sorted, x_sorted, x_sortd, x_mth_join, x_mth_upper, x_mth_index, x_isi_str_non, x_isi_str_bl, x_isi_str_int, x_isi_str_str, x_isi_str_lst, x_isi_str_tup, x_isi_str_dct, x_isi_int_non, x_isi_int_bl, x_isi_int_int, x_isi_int_str, x_isi_int_lst, x_isi_int_tup, x_isi_int_dct, x_isi_bool_non, x_isi_bool_bl, x_isi_bool_int, x_isi_bool_str, x_isi_bool_lst, x_isi_bool_tup, x_isi_bool_dct, x_isi_tuple_non, x_isi_tuple_bl, x_isi_tuple_int, x_isi_tuple_str, x_isi_tuple_lst, x_isi_tuple_tup, x_isi_tuple_dct, x_isi_list_non, x_isi_list_bl, x_isi_list_int, x_isi_list_str, x_isi_list_lst, x_isi_list_tup, x_isi_list_dct, x_tru_non, x_tru_bl, x_tru_int, x_tru_str, x_tru_lst, x_tru_tup, x_neg, x_sub_lst, x_sub_tup, x_sub_str, x_sub_dct, x_cut_lst, x_cut_tup, x_cut_str, x_len_str, x_len_lst, x_len_tup, x_len_dct, x_int_int, x_int_bl, x_str_int, x_list_lst, x_list_tup, x_list_dct, x_tuple_lst, x_tuple_tup, x_max, x_min, x_add_int, x_add_str, x_add_lst, x_add_tup, x_sub_int, x_mul, x_muls, x_fdiv, x_mod, x_pow, x_cmp_eq, x_cmp_ne, x_cmp_lt, x_cmp_le, x_cmp_gt, x_cmp_ge, x_cmp_isin, x_cmp_notin, x_cmp_is, x_cmp_isnot, x_lt_int, x_le_int, x_gt_int, x_ge_int, x_lt_str, x_le_str, x_is_non, x_is_bl, x_is_bl_non, x_is_int_non, x_is_str_non, x_is_lst_non, x_is_tup_non, x_is_dct_non, x_in_lst, x_in_tup, x_in_dct, x_in_str, x_wk_lst, x_wk_tup, x_wk_str, x_li, x_di_lst, x_di_tup, x_rg1, x_rg2, x_rg3, x_oi, x_db, x_bnm, x_btp, x_dput, x_dput_dct, x_key_int, x_key_str, x_rep_lst, x_rep_tup, x_rep_dct, x_sb1_lst, x_sb1_tup, x_sb1_dct, x_app1, x_eq_int, x_eq_bl]
    | false =>
      simp only [f_boxes_in, hg, gf, e1, e2, e4, c1, hk, isGiv, isPair, isTwo, isOne, bx, List.map_cons, List.map_nil, f0, f1, f2, f3, f4, f5, f6, f7, f8, encN.frz, encN.frzL, encN.clean, encN.cleanL, setE_frz encN, setE_clean encN, ln_frz, ln_clean, lns_frz, lns_clean, pt_frz, pt_clean, pts_frz, pts_clean, pr_frz, pr_clean, frz_scr, frz_app, List.map_append, List.length_append, List.length_map, decide_true, decide_false, and_self, runF, evSs, evS, evT, evE, evAnd, evOr, evAndE, evOrE, evEs, evO, evC, evI, env0, endF, one, two, three, Eng.many, meth, chk, putD, appD, isLst, Eng.kept, Eng.kill, bindT, setAll, Tgt.slots, Exs.isNil, Ex.pure, Exs.pure, Ox.pure, Itr.pure, Ex.vars, Exs.vars, Ox.vars, Itr.vars, popD, popAtD, deepD, getP, putP, evP, callIO, ioArgs, ioSlot, ioOk, ioOut, ioV, ioClean, outs_from, outsGo, List.lookup_cons, List.lookup_nil, List.any_cons, List.any_nil, List.all_cons, List.all_nil, Exs.toList, Ex.isVar, frzE, cleanE, D.clean, cleanL, D.frz, frzL, frz_frz, frzL_frz, tru, get0_cons_zero, get0_cons_succ, get0_nil, List.set_cons_zero, List.set_cons_succ, frzAt_from, frzFrom, List.elem_cons, List.elem_nil, Nat.reduceBEq, List.length_cons, List.length_nil, List.map_cons, List.map_nil, List.replicate_succ, List.replicate_zero, List.cons_append, List.nil_append, List.append_nil, Option.map_some, Option.map_none, Option.bind_some, Option.bind_none, Nat.reduceSub, Nat.reduceAdd, List.range_eq_nil, Bool.not_false, Bool.not_true, Bool.or_true, Bool.true_or, Bool.or_false, Bool.false_or, Bool.and_true, Bool.true_and, Bool.and_false, Bool.false_and, Bool.not_not, Bool.false_eq_true, if_true, if_false, reduceIte, reduceCtorEq, x_blt_len, x_blt_int, x_blt_str, x_blt_list, x_blt_tuple, x_blt_max, x_blt_min, x_blt_sset, x_blt_sorted, x_sorted, x_sortd, x_mth_join, x_mth_upper, x_mth_index, x_isi_str_non, x_isi_str_bl, x_isi_str_int, x_isi_str_str, x_isi_str_lst, x_isi_str_tup, x_isi_str_dct, x_isi_int_non, x_isi_int_bl, x_isi_int_int, x_isi_int_str, x_isi_int_lst, x_isi_int_tup, x_isi_int_dct, x_isi_bool_non, x_isi_bool_bl, x_isi_bool_int, x_isi_bool_str, x_isi_bool_lst, x_isi_bool_tup, x_isi_bool_dct, x_isi_tuple_non, x_isi_tuple_bl, x_isi_tuple_int, x_isi_tuple_str, x_isi_tuple_lst, x_isi_tuple_tup, x_isi_tuple_dct, x_isi_list_non, x_isi_list_bl, x_isi_list_int, x_isi_list_str, x_isi_list_lst, x_isi_list_tup, x_isi_list_dct, x_tru_non, x_tru_bl, x_tru_int, x_tru_str, x_tru_lst, x_tru_tup, x_neg, x_sub_lst, x_sub_tup, x_sub_str, x_sub_dct, x_cut_lst, x_cut_tup, x_cut_str, x_len_str, x_len_lst, x_len_tup, x_len_dct, x_int_int, x_int_bl, x_str_int, x_list_lst, x_list_tup, x_list_dct, x_tuple_lst, x_tuple_tup, x_max, x_min, x_add_int, x_add_str, x_add_lst, x_add_tup, x_sub_int, x_mul, x_muls, x_fdiv, x_mod, x_pow, x_cmp_eq, x_cmp_ne, x_cmp_lt, x_cmp_le, x_cmp_gt, x_cmp_ge, x_cmp_isin, x_cmp_notin, x_cmp_is, x_cmp_isnot, x_lt_int, x_le_int, x_gt_int, x_ge_int, x_lt_str, x_le_str, x_is_non, x_is_bl, x_is_bl_non, x_is_int_non, x_is_str_non, x_is_lst_non, x_is_tup_non, x_is_dct_non, x_in_lst, x_in_tup, x_in_dct, x_in_str, x_wk_lst, x_wk_tup, x_wk_str, x_li, x_di_lst, x_di_tup, x_rg1, x_rg2, x_rg3, x_oi, x_db, x_bnm, x_btp, x_dput, x_dput_dct, x_key_int, x_key_str, x_rep_lst, x_rep_tup, x_rep_dct, x_sb1_lst, x_sb1_tup, x_sb1_dct, x_app1, x_eq_int, x_eq_bl]
  | back w => simp only [f_boxes_in, hg, gf, e1, e2, e3, e4, isGiv, isPair, isTwo, isOne, isTell, bx, List.map_nil, f0, f1, f2, f3, f4, f5, f6, f7, f8, encN.frz, encN.frzL, encN.clean, encN.cleanL, setE_frz encN, setE_clean encN, ln_frz, ln_clean, lns_frz, lns_clean, pt_frz, pt_clean, pts_frz, pts_clean, pr_frz, pr_clean, frz_scr, frz_app, List.map_append, List.length_append, List.length_map, decide_true, decide_false, and_self, runF, evSs, evS, evT, evE, evAnd, evOr, evAndE, evOrE, evEs, evO, evC, evI, env0, endF, one, two, three, Eng.many, meth, chk, putD, appD, isLst, Eng.kept, Eng.kill, bindT, setAll, Tgt.slots, Exs.isNil, Ex.pure, Exs.pure, Ox.pure, Itr.pure, Ex.vars, Exs.vars, Ox.vars, Itr.vars, popD, popAtD, deepD, getP, putP, evP, callIO, ioArgs, ioSlot, ioOk, ioOut, ioV, ioClean, outs_from, outsGo, List.lookup_cons, List.lookup_nil, List.any_cons, List.any_nil, List.all_cons, List.all_nil, Exs.toList, Ex.isVar, frzE, cleanE, D.clean, cleanL, D.frz, frzL, frz_frz, frzL_frz, tru, get0_cons_zero, get0_cons_succ, get0_nil, List.set_cons_zero, List.set_cons_succ, frzAt_from, frzFrom, List.elem_cons, List.elem_nil, Nat.reduceBEq, List.length_cons, List.length_nil, List.map_cons, List.map_nil, List.replicate_succ, List.replicate_zero, List.cons_append, List.nil_append, List.append_nil, Option.map_some, Option.map_none, Option.bind_some, Option.bind_none, Nat.reduceSub, Nat.reduceAdd, List.range_eq_nil, Bool.not_false, Bool.not_true, Bool.or_true, Bool.true_or, Bool.or_false, Bool.false_or, Bool.and_true, Bool.true_and, Bool.and_false, Bool.false_and, Bool.not_not, Bool.false_eq_true, if_true, if_false, reduceIte, reduceCtorEq, x_blt_len, x_blt_int, x_blt_str, x_blt_list, x_blt_tuple, x_blt_max, x_blt_min, x_blt_sset, x_blt_sorted, x_sorted, x_sortd, x_mth_join, x_mth_upper, x_mth_index, x_isi_str_non, x_isi_str_bl, x_isi_str_int, x_isi_str_str, x_isi_str_lst, x_isi_str_tup, x_isi_str_dct, x_isi_int_non, x_isi_int_bl, x_isi_int_int, x_isi_int_str, x_isi_int_lst, x_isi_int_tup, x_isi_int_dct, x_isi_bool_non, x_isi_bool_bl, x_isi_bool_int, x_isi_bool_str, x_isi_bool_lst, x_isi_bool_tup, x_isi_bool_dct, x_isi_tuple_non, x_isi_tuple_bl, x_isi_tuple_int, x_isi_tuple_str, x_isi_tuple_lst, x_isi_tuple_tup, x_isi_tuple_dct, x_isi_list_non, x_isi_list_bl, x_isi_list_int, x_isi_list_str, x_isi_list_lst, x_isi_list_tup, x_isi_list_dct, x_tru_non, x_tru_bl, x_tru_int, x_tru_str, x_tru_lst, x_tru_tup, x_neg, x_sub_lst, x_sub_tup, x_sub_str, x_sub_dct, x_cut_lst, x_cut_tup, x_cut_str, x_len_str, x_len_lst, x_len_tup, x_len_dct, x_int_int, x_int_bl, x_str_int, x_list_lst, x_list_tup, x_list_dct, x_tuple_lst, x_tuple_tup, x_max, x_min, x_add_int, x_add_str, x_add_lst, x_add_tup, x_sub_int, x_mul, x_muls, x_fdiv, x_mod, x_pow, x_cmp_eq, x_cmp_ne, x_cmp_lt, x_cmp_le, x_cmp_gt, x_cmp_ge, x_cmp_isin, x_cmp_notin, x_cmp_is, x_cmp_isnot, x_lt_int, x_le_int, x_gt_int, x_ge_int, x_lt_str, x_le_str, x_is_non, x_is_bl, x_is_bl_non, x_is_int_non, x_is_str_non, x_is_lst_non, x_is_tup_non, x_is_dct_non, x_in_lst, x_in_tup, x_in_dct, x_in_str, x_wk_lst, x_wk_tup, x_wk_str, x_li, x_di_lst, x_di_tup, x_rg1, x_rg2, x_rg3, x_oi, x_db, x_bnm, x_btp, x_dput, x_dput_dct, x_key_int, x_key_str, x_rep_lst, x_rep_tup, x_rep_dct, x_sb1_lst, x_sb1_tup, x_sb1_dct, x_app1, x_eq_int, x_eq_bl]
  | doo w => simp only [f_boxes_in, hg, gf, e1, e2, e3, e4, isGiv, isPair, isTwo, isOne, isTell, bx, List.map_nil, f0, f1, f2, f3, f4, f5, f6, f7, f8, encN.frz, encN.frzL, encN.clean, encN.cleanL, setE_frz encN, setE_clean encN, ln_frz, ln_clean, lns_frz, lns_clean, pt_frz, pt_clean, pts_frz, pts_clean, pr_frz, pr_clean, frz_scr, frz_app, List.map_append, List.length_append, List.length_map, decide_true, decide_false, and_self, runF, evSs, evS, evT, evE, evAnd, evOr, evAndE, evOrE, evEs, evO, evC, evI, env0, endF, one, two, three, Eng.many, meth, chk, putD, appD, isLst, Eng.kept, Eng.kill, bindT, setAll, Tgt.slots, Exs.isNil, Ex.pure, Exs.pure, Ox.pure, Itr.pure, Ex.vars, Exs.vars, Ox.vars, Itr.vars, popD, popAtD, deepD, getP, putP, evP, callIO, ioArgs, ioSlot, ioOk, ioOut, ioV, ioClean, outs_from, outsGo, List.lookup_cons, List.lookup_nil, List.any_cons, List.any_nil, List.all_cons, List.all_nil, Exs.toList, Ex.isVar, frzE, cleanE, D.clean, cleanL, D.frz, frzL, frz_frz, frzL_frz, tru, get0_cons_zero, get0_cons_succ, get0_nil, List.set_cons_zero, List.set_cons_succ, frzAt_from, frzFrom, List.elem_cons, List.elem_nil, Nat.reduceBEq, List.length_cons, List.length_nil, List.map_cons, List.map_nil, List.replicate_succ, List.replicate_zero, List.cons_append, List.nil_append, List.append_nil, Option.map_some, Option.map_none, Option.bind_some, Option.bind_none, Nat.reduceSub, Nat.reduceAdd, List.range_eq_nil, Bool.not_false, Bool.not_true, Bool.or_true, Bool.true_or, Bool.or_false, Bool.false_or, Bool.and_true, Bool.true_and, Bool.and_false, Bool.false_and, Bool.not_not, Bool.false_eq_true, if_true, if_false, reduceIte, reduceCtorEq, x_blt_len, x_blt_int, x_blt_str, x_blt_list, x_blt_tuple, x_blt_max, x_blt_min, x_blt_sset, x_blt_sorted, x_sorted, x_sortd, x_mth_join, x_mth_upper, x_mth_index, x_isi_str_non, x_isi_str_bl, x_isi_str_int, x_isi_str_str, x_isi_str_lst, x_isi_str_tup, x_isi_str_dct, x_isi_int_non, x_isi_int_bl, x_isi_int_int, x_isi_int_str, x_isi_int_lst, x_isi_int_tup, x_isi_int_dct, x_isi_bool_non, x_isi_bool_bl, x_isi_bool_int, x_isi_bool_str, x_isi_bool_lst, x_isi_bool_tup, x_isi_bool_dct, x_isi_tuple_non, x_isi_tuple_bl, x_isi_tuple_int, x_isi_tuple_str, x_isi_tuple_lst, x_isi_tuple_tup, x_isi_tuple_dct, x_isi_list_non, x_isi_list_bl, x_isi_list_int, x_isi_list_str, x_isi_list_lst, x_isi_list_tup, x_isi_list_dct, x_tru_non, x_tru_bl, x_tru_int, x_tru_str, x_tru_lst, x_tru_tup, x_neg, x_sub_lst, x_sub_tup, x_sub_str, x_sub_dct, x_cut_lst, x_cut_tup, x_cut_str, x_len_str, x_len_lst, x_len_tup, x_len_dct, x_int_int, x_int_bl, x_str_int, x_list_lst, x_list_tup, x_list_dct, x_tuple_lst, x_tuple_tup, x_max, x_min, x_add_int, x_add_str, x_add_lst, x_add_tup, x_sub_int, x_mul, x_muls, x_fdiv, x_mod, x_pow, x_cmp_eq, x_cmp_ne, x_cmp_lt, x_cmp_le, x_cmp_gt, x_cmp_ge, x_cmp_isin, x_cmp_notin, x_cmp_is, x_cmp_isnot, x_lt_int, x_le_int, x_gt_int, x_ge_int, x_lt_str, x_le_str, x_is_non, x_is_bl, x_is_bl_non, x_is_int_non, x_is_str_non, x_is_lst_non, x_is_tup_non, x_is_dct_non, x_in_lst, x_in_tup, x_in_dct, x_in_str, x_wk_lst, x_wk_tup, x_wk_str, x_li, x_di_lst, x_di_tup, x_rg1, x_rg2, x_rg3, x_oi, x_db, x_bnm, x_btp, x_dput, x_dput_dct, x_key_int, x_key_str, x_rep_lst, x_rep_tup, x_rep_dct, x_sb1_lst, x_sb1_tup, x_sb1_dct, x_app1, x_eq_int, x_eq_bl]
  | kw k => simp only [f_boxes_in, hg, gf, e1, e2, e3, e4, isGiv, isPair, isTwo, isOne, isTell, bx, List.map_nil, f0, f1, f2, f3, f4, f5, f6, f7, f8, encN.frz, encN.frzL, encN.clean, encN.cleanL, setE_frz encN, setE_clean encN, ln_frz, ln_clean, lns_frz, lns_clean, pt_frz, pt_clean, pts_frz, pts_clean, pr_frz, pr_clean, frz_scr, frz_app, List.map_append, List.length_append, List.length_map, decide_true, decide_false, and_self, runF, evSs, evS, evT, evE, evAnd, evOr, evAndE, evOrE, evEs, evO, evC, evI, env0, endF, one, two, three, Eng.many, meth, chk, putD, appD, isLst, Eng.kept, Eng.kill, bindT, setAll, Tgt.slots, Exs.isNil, Ex.pure, Exs.pure, Ox.pure, Itr.pure, Ex.vars, Exs.vars, Ox.vars, Itr.vars, popD, popAtD, deepD, getP, putP, evP, callIO, ioArgs, ioSlot, ioOk, ioOut, ioV, ioClean, outs_from, outsGo, List.lookup_cons, List.lookup_nil, List.any_cons, List.any_nil, List.all_cons, List.all_nil, Exs.toList, Ex.isVar, frzE, cleanE, D.clean, cleanL, D.frz, frzL, frz_frz, frzL_frz, tru, get0_cons_zero, get0_cons_succ, get0_nil, List.set_cons_zero, List.set_cons_succ, frzAt_from, frzFrom, List.elem_cons, List.elem_nil, Nat.reduceBEq, List.length_cons, List.length_nil, List.map_cons, List.map_nil, List.replicate_succ, List.replicate_zero, List.cons_append, List.nil_append, List.append_nil, Option.map_some, Option.map_none, Option.bind_some, Option.bind_none, Nat.reduceSub, Nat.reduceAdd, List.range_eq_nil, Bool.not_false, Bool.not_true, Bool.or_true, Bool.true_or, Bool.or_false, Bool.false_or, Bool.and_true, Bool.true_and, Bool.and_false, Bool.false_and, Bool.not_not, Bool.false_eq_true, if_true, if_false, reduceIte, reduceCtorEq, x_blt_len, x_blt_int, x_blt_str, x_blt_list, x_blt_tuple, x_blt_max, x_blt_min, x_blt_sset, x_blt_sorted, x_sorted, x_sortd, x_mth_join, x_mth_upper, x_mth_index, x_isi_str_non, x_isi_str_bl, x_isi_str_int, x_isi_str_str, x_isi_str_lst, x_isi_str_tup, x_isi_str_dct, x_isi_int_non, x_isi_int_bl, x_isi_int_int, x_isi_int_str, x_isi_int_lst, x_isi_int_tup, x_isi_int_dct, x_isi_bool_non, x_isi_bool_bl, x_isi_bool_int, x_isi_bool_str, x_isi_bool_lst, x_isi_bool_tup, x_isi_bool_dct, x_isi_tuple_non, x_isi_tuple_bl, x_isi_tuple_int, x_isi_tuple_str, x_isi_tuple_lst, x_isi_tuple_tup, x_isi_tuple_dct, x_isi_list_non, x_isi_list_bl, x_isi_list_int, x_isi_list_str, x_isi_list_lst, x_isi_list_tup, x_isi_list_dct, x_tru_non, x_tru_bl, x_tru_int, x_tru_str, x_tru_lst, x_tru_tup, x_neg, x_sub_lst, x_sub_tup, x_sub_str, x_sub_dct, x_cut_lst, x_cut_tup, x_cut_str, x_len_str, x_len_lst, x_len_tup, x_len_dct, x_int_int, x_int_bl, x_str_int, x_list_lst, x_list_tup, x_list_dct, x_tuple_lst, x_tuple_tup, x_max, x_min, x_add_int, x_add_str, x_add_lst, x_add_tup, x_sub_int, x_mul, x_muls, x_fdiv, x_mod, x_pow, x_cmp_eq, x_cmp_ne, x_cmp_lt, x_cmp_le, x_cmp_gt, x_cmp_ge, x_cmp_isin, x_cmp_notin, x_cmp_is, x_cmp_isnot, x_lt_int, x_le_int, x_gt_int, x_ge_int, x_lt_str, x_le_str, x_is_non, x_is_bl, x_is_bl_non, x_is_int_non, x_is_str_non, x_is_lst_non, x_is_tup_non, x_is_dct_non, x_in_lst, x_in_tup, x_in_dct, x_in_str, x_wk_lst, x_wk_tup, x_wk_str, x_li, x_di_lst, x_di_tup, x_rg1, x_rg2, x_rg3, x_oi, x_db, x_bnm, x_btp, x_dput, x_dput_dct, x_key_int, x_key_str, x_rep_lst, x_rep_tup, x_rep_dct, x_sb1_lst, x_sb1_tup, x_sb1_dct, x_app1, x_eq_int, x_eq_bl]
/-! all lines -/
def lines (P : List Part) : List Ln := P.flatMap (·.2)
theorem lines_len {P : List Part} (h1 : P.length ≤ 5) (h2 : ∀ p ∈ P, p.2.length ≤ 20) : (lines P).length ≤ 100 := by
  have key : ∀ P : List Part, (∀ p ∈ P, p.2.length ≤ 20) → (lines P).length ≤ 20 * P.length := fun P => by
    induction P with
    | nil => intro _; exact Nat.le_refl _
    | cons p P ih =>
      intro h
      have a := h p List.mem_cons_self
      have b := ih fun q hq => h q (List.mem_cons_of_mem _ hq)
      show (p.2 ++ lines P).length ≤ 20 * (P.length + 1)
      rw [List.length_append]
      omega
  have := key P h2
  omega
theorem loopL_ix {α : Type} {f : α → D} {tg : Tgt} {b : Rho → Option Out} {l : List α} (E : Nat → Rho → Prop) (h : ∀ i ρ a, l[i]? = some a → E i ρ → ∃ ρ1 ρ2, bindT tg (f a) ρ = some ρ1 ∧ b ρ1 = some (.nx ρ2) ∧ E (i + 1) ρ2) {ρ : Rho} (h0 : E 0 ρ) :
    ∃ ρ', loopL tg b (l.map f) ρ = some (.nx ρ') ∧ E l.length ρ' := by
  have := loopL_inv (tg := tg) (b := b) (ds := l.map f) (ρ := ρ) E (fun i ρ d p hi => by
    rw [List.getElem?_map] at hi
    obtain ⟨a, ha, rfl⟩ := Option.map_eq_some_iff.mp hi
    exact h i ρ a ha p) h0
  rwa [List.length_map] at this
theorem take_next {α : Type} {l : List α} {i : Nat} {a : α} (h : l[i]? = some a) : l.take (i + 1) = l.take i ++ [a] := by
  rw [List.take_succ, h]; rfl
theorem lines_take {P : List Part} {i : Nat} {p : Part} (h : P[i]? = some p) : lines (P.take (i + 1)) = lines (P.take i) ++ p.2 := by
  rw [take_next h]
  unfold lines
  rw [List.flatMap_append]
  simp
theorem al_ok (S : Sem0) (P : List Part) (h1 : P.length ≤ 5) (h2 : ∀ p ∈ P, p.2.length ≤ 20) : runF S f_all_lines [prD P] = some (.lst true ((lines P).map lnD), [none]) := by
  obtain ⟨ρ', e, x, hρ⟩ := loopL_ix (f := partD) (tg := .nm 2) (b := evSs S whl f_all_lines_b1) (l := P) (ρ := [some (prD P), some (.lst true []), none])
    (fun i ρ => ∃ x, ρ = [some (prD P), some (.lst true ((lines (P.take i)).map lnD)), x]) (fun i ρ p hp ⟨x, hρ⟩ => by
      subst hρ
      have hb := h2 p (List.mem_of_getElem? hp)
      have hl := lines_len (P := P.take i) (by rw [List.length_take]; omega) fun q hq => h2 q (List.mem_of_mem_take hq)
      have ff : fits ((lines (P.take i)).length + p.2.length) = true := fit_le (by omega)
      have a1 : dSub (partD p) (.int 1) = some (.tup (p.2.map lnD)) := rfl
      refine ⟨[some (prD P), some (.lst true ((lines (P.take i)).map lnD)), some (partD p)], [some (prD P), some (.lst true ((lines (P.take (i + 1))).map lnD)), some (partD p)], rfl, ?_, _, rfl⟩
      rw [lines_take hp]
      simp only [f_all_lines_b1, extD, a1, ff, f0, f1, f2, f3, f4, f5, f6, f7, f8, encN.frz, encN.frzL, encN.clean, encN.cleanL, setE_frz encN, setE_clean encN, ln_frz, ln_clean, lns_frz, lns_clean, pt_frz, pt_clean, pts_frz, pts_clean, pr_frz, pr_clean, frz_scr, frz_app, List.map_append, List.length_append, List.length_map, decide_true, decide_false, and_self, runF, evSs, evS, evT, evE, evAnd, evOr, evAndE, evOrE, evEs, evO, evC, evI, env0, endF, one, two, three, Eng.many, meth, chk, putD, appD, isLst, Eng.kept, Eng.kill, bindT, setAll, Tgt.slots, Exs.isNil, Ex.pure, Exs.pure, Ox.pure, Itr.pure, Ex.vars, Exs.vars, Ox.vars, Itr.vars, popD, popAtD, deepD, getP, putP, evP, callIO, ioArgs, ioSlot, ioOk, ioOut, ioV, ioClean, outs_from, outsGo, List.lookup_cons, List.lookup_nil, List.any_cons, List.any_nil, List.all_cons, List.all_nil, Exs.toList, Ex.isVar, frzE, cleanE, D.clean, cleanL, D.frz, frzL, frz_frz, frzL_frz, tru, get0_cons_zero, get0_cons_succ, get0_nil, List.set_cons_zero, List.set_cons_succ, frzAt_from, frzFrom, List.elem_cons, List.elem_nil, Nat.reduceBEq, List.length_cons, List.length_nil, List.map_cons, List.map_nil, List.replicate_succ, List.replicate_zero, List.cons_append, List.nil_append, List.append_nil, Option.map_some, Option.map_none, Option.bind_some, Option.bind_none, Nat.reduceSub, Nat.reduceAdd, List.range_eq_nil, Bool.not_false, Bool.not_true, Bool.or_true, Bool.true_or, Bool.or_false, Bool.false_or, Bool.and_true, Bool.true_and, Bool.and_false, Bool.false_and, Bool.not_not, Bool.false_eq_true, if_true, if_false, reduceIte, reduceCtorEq, x_blt_len, x_blt_int, x_blt_str, x_blt_list, x_blt_tuple, x_blt_max, x_blt_min, x_blt_sset, x_blt_sorted, x_sorted, x_sortd, x_mth_join, x_mth_upper, x_mth_index, x_isi_str_non, x_isi_str_bl, x_isi_str_int, x_isi_str_str, x_isi_str_lst, x_isi_str_tup, x_isi_str_dct, x_isi_int_non, x_isi_int_bl, x_isi_int_int, x_isi_int_str, x_isi_int_lst, x_isi_int_tup, x_isi_int_dct, x_isi_bool_non, x_isi_bool_bl, x_isi_bool_int, x_isi_bool_str, x_isi_bool_lst, x_isi_bool_tup, x_isi_bool_dct, x_isi_tuple_non, x_isi_tuple_bl, x_isi_tuple_int, x_isi_tuple_str, x_isi_tuple_lst, x_isi_tuple_tup, x_isi_tuple_dct, x_isi_list_non, x_isi_list_bl, x_isi_list_int, x_isi_list_str, x_isi_list_lst, x_isi_list_tup, x_isi_list_dct, x_tru_non, x_tru_bl, x_tru_int, x_tru_str, x_tru_lst, x_tru_tup, x_neg, x_sub_lst, x_sub_tup, x_sub_str, x_sub_dct, x_cut_lst, x_cut_tup, x_cut_str, x_len_str, x_len_lst, x_len_tup, x_len_dct, x_int_int, x_int_bl, x_str_int, x_list_lst, x_list_tup, x_list_dct, x_tuple_lst, x_tuple_tup, x_max, x_min, x_add_int, x_add_str, x_add_lst, x_add_tup, x_sub_int, x_mul, x_muls, x_fdiv, x_mod, x_pow, x_cmp_eq, x_cmp_ne, x_cmp_lt, x_cmp_le, x_cmp_gt, x_cmp_ge, x_cmp_isin, x_cmp_notin, x_cmp_is, x_cmp_isnot, x_lt_int, x_le_int, x_gt_int, x_ge_int, x_lt_str, x_le_str, x_is_non, x_is_bl, x_is_bl_non, x_is_int_non, x_is_str_non, x_is_lst_non, x_is_tup_non, x_is_dct_non, x_in_lst, x_in_tup, x_in_dct, x_in_str, x_wk_lst, x_wk_tup, x_wk_str, x_li, x_di_lst, x_di_tup, x_rg1, x_rg2, x_rg3, x_oi, x_db, x_bnm, x_btp, x_dput, x_dput_dct, x_key_int, x_key_str, x_rep_lst, x_rep_tup, x_rep_dct, x_sb1_lst, x_sb1_tup, x_sb1_dct, x_app1, x_eq_int, x_eq_bl]) ⟨none, rfl⟩
  subst hρ
  rw [List.take_length] at e
  have s1 : evS S whl (.set 1 (.lst .nil)) [some (prD P), none, none] = some (.nx [some (prD P), some (.lst true []), none]) := by simp only [f0, f1, f2, f3, f4, f5, f6, f7, f8, encN.frz, encN.frzL, encN.clean, encN.cleanL, setE_frz encN, setE_clean encN, ln_frz, ln_clean, lns_frz, lns_clean, pt_frz, pt_clean, pts_frz, pts_clean, pr_frz, pr_clean, frz_scr, frz_app, List.map_append, List.length_append, List.length_map, decide_true, decide_false, and_self, runF, evSs, evS, evT, evE, evAnd, evOr, evAndE, evOrE, evEs, evO, evC, evI, env0, endF, one, two, three, Eng.many, meth, chk, putD, appD, isLst, Eng.kept, Eng.kill, bindT, setAll, Tgt.slots, Exs.isNil, Ex.pure, Exs.pure, Ox.pure, Itr.pure, Ex.vars, Exs.vars, Ox.vars, Itr.vars, popD, popAtD, deepD, getP, putP, evP, callIO, ioArgs, ioSlot, ioOk, ioOut, ioV, ioClean, outs_from, outsGo, List.lookup_cons, List.lookup_nil, List.any_cons, List.any_nil, List.all_cons, List.all_nil, Exs.toList, Ex.isVar, frzE, cleanE, D.clean, cleanL, D.frz, frzL, frz_frz, frzL_frz, tru, get0_cons_zero, get0_cons_succ, get0_nil, List.set_cons_zero, List.set_cons_succ, frzAt_from, frzFrom, List.elem_cons, List.elem_nil, Nat.reduceBEq, List.length_cons, List.length_nil, List.map_cons, List.map_nil, List.replicate_succ, List.replicate_zero, List.cons_append, List.nil_append, List.append_nil, Option.map_some, Option.map_none, Option.bind_some, Option.bind_none, Nat.reduceSub, Nat.reduceAdd, List.range_eq_nil, Bool.not_false, Bool.not_true, Bool.or_true, Bool.true_or, Bool.or_false, Bool.false_or, Bool.and_true, Bool.true_and, Bool.and_false, Bool.false_and, Bool.not_not, Bool.false_eq_true, if_true, if_false, reduceIte, reduceCtorEq, x_blt_len, x_blt_int, x_blt_str, x_blt_list, x_blt_tuple, x_blt_max, x_blt_min, x_blt_sset, x_blt_sorted, x_sorted, x_sortd, x_mth_join, x_mth_upper, x_mth_index, x_isi_str_non, x_isi_str_bl, x_isi_str_int, x_isi_str_str, x_isi_str_lst, x_isi_str_tup, x_isi_str_dct, x_isi_int_non, x_isi_int_bl, x_isi_int_int, x_isi_int_str, x_isi_int_lst, x_isi_int_tup, x_isi_int_dct, x_isi_bool_non, x_isi_bool_bl, x_isi_bool_int, x_isi_bool_str, x_isi_bool_lst, x_isi_bool_tup, x_isi_bool_dct, x_isi_tuple_non, x_isi_tuple_bl, x_isi_tuple_int, x_isi_tuple_str, x_isi_tuple_lst, x_isi_tuple_tup, x_isi_tuple_dct, x_isi_list_non, x_isi_list_bl, x_isi_list_int, x_isi_list_str, x_isi_list_lst, x_isi_list_tup, x_isi_list_dct, x_tru_non, x_tru_bl, x_tru_int, x_tru_str, x_tru_lst, x_tru_tup, x_neg, x_sub_lst, x_sub_tup, x_sub_str, x_sub_dct, x_cut_lst, x_cut_tup, x_cut_str, x_len_str, x_len_lst, x_len_tup, x_len_dct, x_int_int, x_int_bl, x_str_int, x_list_lst, x_list_tup, x_list_dct, x_tuple_lst, x_tuple_tup, x_max, x_min, x_add_int, x_add_str, x_add_lst, x_add_tup, x_sub_int, x_mul, x_muls, x_fdiv, x_mod, x_pow, x_cmp_eq, x_cmp_ne, x_cmp_lt, x_cmp_le, x_cmp_gt, x_cmp_ge, x_cmp_isin, x_cmp_notin, x_cmp_is, x_cmp_isnot, x_lt_int, x_le_int, x_gt_int, x_ge_int, x_lt_str, x_le_str, x_is_non, x_is_bl, x_is_bl_non, x_is_int_non, x_is_str_non, x_is_lst_non, x_is_tup_non, x_is_dct_non, x_in_lst, x_in_tup, x_in_dct, x_in_str, x_wk_lst, x_wk_tup, x_wk_str, x_li, x_di_lst, x_di_tup, x_rg1, x_rg2, x_rg3, x_oi, x_db, x_bnm, x_btp, x_dput, x_dput_dct, x_key_int, x_key_str, x_rep_lst, x_rep_tup, x_rep_dct, x_sb1_lst, x_sb1_tup, x_sb1_dct, x_app1, x_eq_int, x_eq_bl]
  have s2 : evS S whl (.loop (.nm 2) (.of (.var 0)) f_all_lines_b1) [some (prD P), some (.lst true []), none] = some (.nx [some (prD P), some (.lst true ((lines P).map lnD)), x]) := by
    simp only [prD] at e
    simp only [prD, e, f0, f1, f2, f3, f4, f5, f6, f7, f8, encN.frz, encN.frzL, encN.clean, encN.cleanL, setE_frz encN, setE_clean encN, ln_frz, ln_clean, lns_frz, lns_clean, pt_frz, pt_clean, pts_frz, pts_clean, pr_frz, pr_clean, frz_scr, frz_app, List.map_append, List.length_append, List.length_map, decide_true, decide_false, and_self, runF, evSs, evS, evT, evE, evAnd, evOr, evAndE, evOrE, evEs, evO, evC, evI, env0, endF, one, two, three, Eng.many, meth, chk, putD, appD, isLst, Eng.kept, Eng.kill, bindT, setAll, Tgt.slots, Exs.isNil, Ex.pure, Exs.pure, Ox.pure, Itr.pure, Ex.vars, Exs.vars, Ox.vars, Itr.vars, popD, popAtD, deepD, getP, putP, evP, callIO, ioArgs, ioSlot, ioOk, ioOut, ioV, ioClean, outs_from, outsGo, List.lookup_cons, List.lookup_nil, List.any_cons, List.any_nil, List.all_cons, List.all_nil, Exs.toList, Ex.isVar, frzE, cleanE, D.clean, cleanL, D.frz, frzL, frz_frz, frzL_frz, tru, get0_cons_zero, get0_cons_succ, get0_nil, List.set_cons_zero, List.set_cons_succ, frzAt_from, frzFrom, List.elem_cons, List.elem_nil, Nat.reduceBEq, List.length_cons, List.length_nil, List.map_cons, List.map_nil, List.replicate_succ, List.replicate_zero, List.cons_append, List.nil_append, List.append_nil, Option.map_some, Option.map_none, Option.bind_some, Option.bind_none, Nat.reduceSub, Nat.reduceAdd, List.range_eq_nil, Bool.not_false, Bool.not_true, Bool.or_true, Bool.true_or, Bool.or_false, Bool.false_or, Bool.and_true, Bool.true_and, Bool.and_false, Bool.false_and, Bool.not_not, Bool.false_eq_true, if_true, if_false, reduceIte, reduceCtorEq, x_blt_len, x_blt_int, x_blt_str, x_blt_list, x_blt_tuple, x_blt_max, x_blt_min, x_blt_sset, x_blt_sorted, x_sorted, x_sortd, x_mth_join, x_mth_upper, x_mth_index, x_isi_str_non, x_isi_str_bl, x_isi_str_int, x_isi_str_str, x_isi_str_lst, x_isi_str_tup, x_isi_str_dct, x_isi_int_non, x_isi_int_bl, x_isi_int_int, x_isi_int_str, x_isi_int_lst, x_isi_int_tup, x_isi_int_dct, x_isi_bool_non, x_isi_bool_bl, x_isi_bool_int, x_isi_bool_str, x_isi_bool_lst, x_isi_bool_tup, x_isi_bool_dct, x_isi_tuple_non, x_isi_tuple_bl, x_isi_tuple_int, x_isi_tuple_str, x_isi_tuple_lst, x_isi_tuple_tup, x_isi_tuple_dct, x_isi_list_non, x_isi_list_bl, x_isi_list_int, x_isi_list_str, x_isi_list_lst, x_isi_list_tup, x_isi_list_dct, x_tru_non, x_tru_bl, x_tru_int, x_tru_str, x_tru_lst, x_tru_tup, x_neg, x_sub_lst, x_sub_tup, x_sub_str, x_sub_dct, x_cut_lst, x_cut_tup, x_cut_str, x_len_str, x_len_lst, x_len_tup, x_len_dct, x_int_int, x_int_bl, x_str_int, x_list_lst, x_list_tup, x_list_dct, x_tuple_lst, x_tuple_tup, x_max, x_min, x_add_int, x_add_str, x_add_lst, x_add_tup, x_sub_int, x_mul, x_muls, x_fdiv, x_mod, x_pow, x_cmp_eq, x_cmp_ne, x_cmp_lt, x_cmp_le, x_cmp_gt, x_cmp_ge, x_cmp_isin, x_cmp_notin, x_cmp_is, x_cmp_isnot, x_lt_int, x_le_int, x_gt_int, x_ge_int, x_lt_str, x_le_str, x_is_non, x_is_bl, x_is_bl_non, x_is_int_non, x_is_str_non, x_is_lst_non, x_is_tup_non, x_is_dct_non, x_in_lst, x_in_tup, x_in_dct, x_in_str, x_wk_lst, x_wk_tup, x_wk_str, x_li, x_di_lst, x_di_tup, x_rg1, x_rg2, x_rg3, x_oi, x_db, x_bnm, x_btp, x_dput, x_dput_dct, x_key_int, x_key_str, x_rep_lst, x_rep_tup, x_rep_dct, x_sb1_lst, x_sb1_tup, x_sb1_dct, x_app1, x_eq_int, x_eq_bl]
  refine run_of rfl (seq_nx s1 (seq_nx s2 (seq_rt (d := .lst true ((lines P).map lnD)) (ρ1 := [some (prD P), none, x]) ?_))) rfl
  simp only [f0, f1, f2, f3, f4, f5, f6, f7, f8, encN.frz, encN.frzL, encN.clean, encN.cleanL, setE_frz encN, setE_clean encN, ln_frz, ln_clean, lns_frz, lns_clean, pt_frz, pt_clean, pts_frz, pts_clean, pr_frz, pr_clean, frz_scr, frz_app, List.map_append, List.length_append, List.length_map, decide_true, decide_false, and_self, runF, evSs, evS, evT, evE, evAnd, evOr, evAndE, evOrE, evEs, evO, evC, evI, env0, endF, one, two, three, Eng.many, meth, chk, putD, appD, isLst, Eng.kept, Eng.kill, bindT, setAll, Tgt.slots, Exs.isNil, Ex.pure, Exs.pure, Ox.pure, Itr.pure, Ex.vars, Exs.vars, Ox.vars, Itr.vars, popD, popAtD, deepD, getP, putP, evP, callIO, ioArgs, ioSlot, ioOk, ioOut, ioV, ioClean, outs_from, outsGo, List.lookup_cons, List.lookup_nil, List.any_cons, List.any_nil, List.all_cons, List.all_nil, Exs.toList, Ex.isVar, frzE, cleanE, D.clean, cleanL, D.frz, frzL, frz_frz, frzL_frz, tru, get0_cons_zero, get0_cons_succ, get0_nil, List.set_cons_zero, List.set_cons_succ, frzAt_from, frzFrom, List.elem_cons, List.elem_nil, Nat.reduceBEq, List.length_cons, List.length_nil, List.map_cons, List.map_nil, List.replicate_succ, List.replicate_zero, List.cons_append, List.nil_append, List.append_nil, Option.map_some, Option.map_none, Option.bind_some, Option.bind_none, Nat.reduceSub, Nat.reduceAdd, List.range_eq_nil, Bool.not_false, Bool.not_true, Bool.or_true, Bool.true_or, Bool.or_false, Bool.false_or, Bool.and_true, Bool.true_and, Bool.and_false, Bool.false_and, Bool.not_not, Bool.false_eq_true, if_true, if_false, reduceIte, reduceCtorEq, x_blt_len, x_blt_int, x_blt_str, x_blt_list, x_blt_tuple, x_blt_max, x_blt_min, x_blt_sset, x_blt_sorted, x_sorted, x_sortd, x_mth_join, x_mth_upper, x_mth_index, x_isi_str_non, x_isi_str_bl, x_isi_str_int, x_isi_str_str, x_isi_str_lst, x_isi_str_tup, x_isi_str_dct, x_isi_int_non, x_isi_int_bl, x_isi_int_int, x_isi_int_str, x_isi_int_lst, x_isi_int_tup, x_isi_int_dct, x_isi_bool_non, x_isi_bool_bl, x_isi_bool_int, x_isi_bool_str, x_isi_bool_lst, x_isi_bool_tup, x_isi_bool_dct, x_isi_tuple_non, x_isi_tuple_bl, x_isi_tuple_int, x_isi_tuple_str, x_isi_tuple_lst, x_isi_tuple_tup, x_isi_tuple_dct, x_isi_list_non, x_isi_list_bl, x_isi_list_int, x_isi_list_str, x_isi_list_lst, x_isi_list_tup, x_isi_list_dct, x_tru_non, x_tru_bl, x_tru_int, x_tru_str, x_tru_lst, x_tru_tup, x_neg, x_sub_lst, x_sub_tup, x_sub_str, x_sub_dct, x_cut_lst, x_cut_tup, x_cut_str, x_len_str, x_len_lst, x_len_tup, x_len_dct, x_int_int, x_int_bl, x_str_int, x_list_lst, x_list_tup, x_list_dct, x_tuple_lst, x_tuple_tup, x_max, x_min, x_add_int, x_add_str, x_add_lst, x_add_tup, x_sub_int, x_mul, x_muls, x_fdiv, x_mod, x_pow, x_cmp_eq, x_cmp_ne, x_cmp_lt, x_cmp_le, x_cmp_gt, x_cmp_ge, x_cmp_isin, x_cmp_notin, x_cmp_is, x_cmp_isnot, x_lt_int, x_le_int, x_gt_int, x_ge_int, x_lt_str, x_le_str, x_is_non, x_is_bl, x_is_bl_non, x_is_int_non, x_is_str_non, x_is_lst_non, x_is_tup_non, x_is_dct_non, x_in_lst, x_in_tup, x_in_dct, x_in_str, x_wk_lst, x_wk_tup, x_wk_str, x_li, x_di_lst, x_di_tup, x_rg1, x_rg2, x_rg3, x_oi, x_db, x_bnm, x_btp, x_dput, x_dput_dct, x_key_int, x_key_str, x_rep_lst, x_rep_tup, x_rep_dct, x_sb1_lst, x_sb1_tup, x_sb1_dct, x_app1, x_eq_int, x_eq_bl]
/-! names gathered -/
def ins (L l : List Nm) : List Nm := l.foldl insA L
theorem ins_len (l : List Nm) : ∀ L : List Nm, (ins L l).length ≤ L.length + l.length := by
  induction l with
  | nil => intro L; exact Nat.le_refl _
  | cons a l ih =>
    intro L
    have := ih (insA L a)
    have h2 := insA_len (l := L) (a := a)
    show (ins (insA L a) l).length ≤ L.length + (l.length + 1)
    omega
theorem ins_app (L l m : List Nm) : ins L (l ++ m) = ins (ins L l) m := List.foldl_append
theorem mem_ins {x : Nm} (l : List Nm) : ∀ L : List Nm, x ∈ ins L l ↔ x ∈ L ∨ x ∈ l := by
  induction l with
  | nil => intro L; simp [ins]
  | cons a l ih =>
    intro L
    show x ∈ ins (insA L a) l ↔ _
    rw [ih, mem_insA, List.mem_cons]
    constructor
    · rintro ((h | h) | h)
      · exact .inl h
      · exact .inr (.inl h)
      · exact .inr (.inr h)
    · rintro (h | h | h)
      · exact .inl (.inl h)
      · exact .inl (.inr h)
      · exact .inr h
theorem insA_nd {L : List Nm} {a : Nm} (h : L.Nodup) : (insA L a).Nodup := by
  unfold insA
  split
  · exact h
  · rename_i n
    exact List.nodup_append.mpr ⟨h, by simp, fun x hx y hy e => by rw [List.mem_singleton.mp hy] at e; exact n (e ▸ hx)⟩
theorem ins_nd (l : List Nm) : ∀ L : List Nm, L.Nodup → (ins L l).Nodup := by
  induction l with
  | nil => intro L h; exact h
  | cons a l ih => intro L h; exact ih _ (insA_nd h)
theorem bx_len (n : Ln) : (bx n).length ≤ 3 := by cases n <;> simp [bx]
theorem bxd_len (n : Ln) : (bxd n).length ≤ 3 := by cases n <;> simp [bxd]
theorem wx_len (n : Ln) : (wx n).length ≤ 1 := by cases n <;> simp [wx]
theorem flat_len {g : Ln → List Nm} {k : Nat} (h : ∀ n, (g n).length ≤ k) : ∀ l : List Ln, (l.flatMap g).length ≤ k * l.length
  | [] => Nat.le_refl _
  | n :: l => by
    have := flat_len h l
    have := h n
    rw [List.flatMap_cons, List.length_append, List.length_cons, Nat.mul_succ]
    omega
theorem sort_txt (l : List Nm) : sortB (l.map tx) = true ∧ (l.map tx).all D.pur = true := by
  refine ⟨?_, List.all_eq_true.mpr fun x hx => ?_⟩
  · unfold sortB
    simp only [Bool.and_eq_true, List.all_eq_true, Bool.or_eq_true, decide_eq_true_eq]
    refine ⟨⟨fun x hx y hy => ?_, .inr fun x hx => ?_⟩, fun x hx => ?_⟩
    · obtain ⟨a, _, rfl⟩ := List.mem_map.mp hx
      obtain ⟨b, _, rfl⟩ := List.mem_map.mp hy
      rfl
    · obtain ⟨a, _, rfl⟩ := List.mem_map.mp hx
      rfl
    · obtain ⟨a, _, rfl⟩ := List.mem_map.mp hx
      exact ⟨a.2, Nat.zero_le _⟩
  · obtain ⟨a, _, rfl⟩ := List.mem_map.mp hx
    rfl
def srt (l : List Nm) : List D := (l.map tx).mergeSort leD
theorem srt_lst (o : Bool) (l : List Nm) : dSorted (.lst o (l.map tx)) = some (.lst true (srt l)) := by
  show (if sortB (l.map tx) = true then some (D.lst true ((l.map tx).mergeSort leD)) else none) = _
  rw [if_pos (sort_txt l).1]; rfl
theorem keys_set (l : List Nm) : (setE tx l).map (·.1) = l.map tx := by
  unfold setE
  rw [List.map_map]; rfl
theorem srt_dct (o : Bool) (l : List Nm) : dSorted (.dct o (setE tx l)) = some (.lst true (srt l)) := by
  show (if (sortB ((setE tx l).map (·.1)) && ((setE tx l).map (·.1)).all D.pur) = true then some (D.lst true (((setE tx l).map (·.1)).mergeSort leD)) else none) = _
  rw [keys_set, (sort_txt l).1, (sort_txt l).2]; rfl
theorem srt_ex (l : List Nm) : ∃ m : List Nm, srt l = m.map tx ∧ m.Perm l := by
  obtain ⟨m, pm, e⟩ := perm_unmap (List.mergeSort_perm (l.map tx) leD) l rfl
  exact ⟨m, e, pm⟩
theorem srt_clean (l : List Nm) : cleanL (srt l) = true := by
  obtain ⟨m, e, _⟩ := srt_ex l
  rw [e, encN.cleanL]
theorem srt_frz (l : List Nm) : frzL (srt l) = srt l := by
  obtain ⟨m, e, _⟩ := srt_ex l
  rw [e, encN.frzL]
theorem srt_one {l m : List Nm} (hl : l.Nodup) (hm : m.Nodup) (h : ∀ x, x ∈ l ↔ x ∈ m) : srt l = srt m := by
  unfold srt
  refine sort_one (sort_txt m).2 (fun x hx y hy => ?_) (((List.perm_ext_iff_of_nodup hl hm).mpr h).map tx)
  obtain ⟨a, _, rfl⟩ := List.mem_map.mp hx
  obtain ⟨b, _, rfl⟩ := List.mem_map.mp hy
  rfl
def bxs (g : Ln → List Nm) (P : List Part) : List Nm := ins [] ((lines P).flatMap g)
theorem flat_take {g : Ln → List Nm} {l : List Ln} {i : Nat} {n : Ln} (h : l[i]? = some n) : (l.take (i + 1)).flatMap g = (l.take i).flatMap g ++ g n := by
  rw [take_next h, List.flatMap_append]
  simp
theorem bo_ok (S : Sem0) (P : List Part) (h1 : P.length ≤ 5) (h2 : ∀ p ∈ P, p.2.length ≤ 20) (ha : S.call "all_lines" [prD P] = some (.lst true ((lines P).map lnD), [none])) (hb : ∀ n, S.call "boxes_in" [lnD n] = some (.lst true ((bx n).map tx), [none])) :
    runF S f_boxes_of [prD P] = some (.lst true (srt (bxs bx P)), [none]) := by
  have hl := lines_len h1 h2
  obtain ⟨ρ', e, x, y, hρ⟩ := loopL_ix (f := lnD) (tg := .nm 2) (b := evSs S whl f_boxes_of_b2) (l := lines P) (ρ := [some (prD P), some (.dct true (setE tx (ins [] []))), none, none])
    (fun i ρ => ∃ x y, ρ = [some (prD P), some (.dct true (setE tx (ins [] (((lines P).take i).flatMap bx)))), x, y]) (fun i ρ n hn ⟨x, y, hρ⟩ => by
      subst hρ
      have hi := (List.getElem?_eq_some_iff.mp hn).1
      have l1 := flat_len bx_len ((lines P).take i)
      rw [List.length_take] at l1
      have l2 := ins_len (((lines P).take i).flatMap bx) []
      have hbn := hb n
      rw [flat_take hn, ins_app]
      generalize ins [] (((lines P).take i).flatMap bx) = L at l2 ⊢
      have l3 : L.length ≤ 300 := by rw [List.length_nil] at l2; omega
      obtain ⟨ρ2, e2, z, hρ2⟩ := loopL_ix (f := tx) (tg := .nm 3) (b := evSs S whl f_boxes_of_b1) (l := bx n) (ρ := [some (prD P), some (.dct true (setE tx L)), some (lnD n), y])
        (fun j ρ => ∃ z, ρ = [some (prD P), some (.dct true (setE tx (ins L ((bx n).take j)))), some (lnD n), z]) (fun j ρ a ha ⟨z, hρ⟩ => by
          subst hρ
          have l4 := ins_len ((bx n).take j) L
          have l5 := bx_len n
          rw [List.length_take] at l4
          have ff : fits ((setE tx (ins L ((bx n).take j))).length + 1) = true := fit_le (by unfold setE; rw [List.length_map]; omega)
          have hk : dKey (tx a) = some (.text a.1) := rfl
          refine ⟨[some (prD P), some (.dct true (setE tx (ins L ((bx n).take j)))), some (lnD n), some (tx a)], [some (prD P), some (.dct true (setE tx (ins L ((bx n).take (j + 1))))), some (lnD n), some (tx a)], rfl, ?_, _, rfl⟩
          rw [take_next ha, ins_app]
          show _ = some (Out.nx [some (prD P), some (.dct true (setE tx (insA (ins L ((bx n).take j)) a))), some (lnD n), some (tx a)])
          rw [← encN.set]
          simp only [f_boxes_of_b1, ff, hk, f0, f1, f2, f3, f4, f5, f6, f7, f8, encN.frz, encN.frzL, encN.clean, encN.cleanL, setE_frz encN, setE_clean encN, ln_frz, ln_clean, lns_frz, lns_clean, pt_frz, pt_clean, pts_frz, pts_clean, pr_frz, pr_clean, frz_scr, frz_app, List.map_append, List.length_append, List.length_map, decide_true, decide_false, and_self, runF, evSs, evS, evT, evE, evAnd, evOr, evAndE, evOrE, evEs, evO, evC, evI, env0, endF, one, two, three, Eng.many, meth, chk, putD, appD, isLst, Eng.kept, Eng.kill, bindT, setAll, Tgt.slots, Exs.isNil, Ex.pure, Exs.pure, Ox.pure, Itr.pure, Ex.vars, Exs.vars, Ox.vars, Itr.vars, popD, popAtD, deepD, getP, putP, evP, callIO, ioArgs, ioSlot, ioOk, ioOut, ioV, ioClean, outs_from, outsGo, List.lookup_cons, List.lookup_nil, List.any_cons, List.any_nil, List.all_cons, List.all_nil, Exs.toList, Ex.isVar, frzE, cleanE, D.clean, cleanL, D.frz, frzL, frz_frz, frzL_frz, tru, get0_cons_zero, get0_cons_succ, get0_nil, List.set_cons_zero, List.set_cons_succ, frzAt_from, frzFrom, List.elem_cons, List.elem_nil, Nat.reduceBEq, List.length_cons, List.length_nil, List.map_cons, List.map_nil, List.replicate_succ, List.replicate_zero, List.cons_append, List.nil_append, List.append_nil, Option.map_some, Option.map_none, Option.bind_some, Option.bind_none, Nat.reduceSub, Nat.reduceAdd, List.range_eq_nil, Bool.not_false, Bool.not_true, Bool.or_true, Bool.true_or, Bool.or_false, Bool.false_or, Bool.and_true, Bool.true_and, Bool.and_false, Bool.false_and, Bool.not_not, Bool.false_eq_true, if_true, if_false, reduceIte, reduceCtorEq, x_blt_len, x_blt_int, x_blt_str, x_blt_list, x_blt_tuple, x_blt_max, x_blt_min, x_blt_sset, x_blt_sorted, x_sorted, x_sortd, x_mth_join, x_mth_upper, x_mth_index, x_isi_str_non, x_isi_str_bl, x_isi_str_int, x_isi_str_str, x_isi_str_lst, x_isi_str_tup, x_isi_str_dct, x_isi_int_non, x_isi_int_bl, x_isi_int_int, x_isi_int_str, x_isi_int_lst, x_isi_int_tup, x_isi_int_dct, x_isi_bool_non, x_isi_bool_bl, x_isi_bool_int, x_isi_bool_str, x_isi_bool_lst, x_isi_bool_tup, x_isi_bool_dct, x_isi_tuple_non, x_isi_tuple_bl, x_isi_tuple_int, x_isi_tuple_str, x_isi_tuple_lst, x_isi_tuple_tup, x_isi_tuple_dct, x_isi_list_non, x_isi_list_bl, x_isi_list_int, x_isi_list_str, x_isi_list_lst, x_isi_list_tup, x_isi_list_dct, x_tru_non, x_tru_bl, x_tru_int, x_tru_str, x_tru_lst, x_tru_tup, x_neg, x_sub_lst, x_sub_tup, x_sub_str, x_sub_dct, x_cut_lst, x_cut_tup, x_cut_str, x_len_str, x_len_lst, x_len_tup, x_len_dct, x_int_int, x_int_bl, x_str_int, x_list_lst, x_list_tup, x_list_dct, x_tuple_lst, x_tuple_tup, x_max, x_min, x_add_int, x_add_str, x_add_lst, x_add_tup, x_sub_int, x_mul, x_muls, x_fdiv, x_mod, x_pow, x_cmp_eq, x_cmp_ne, x_cmp_lt, x_cmp_le, x_cmp_gt, x_cmp_ge, x_cmp_isin, x_cmp_notin, x_cmp_is, x_cmp_isnot, x_lt_int, x_le_int, x_gt_int, x_ge_int, x_lt_str, x_le_str, x_is_non, x_is_bl, x_is_bl_non, x_is_int_non, x_is_str_non, x_is_lst_non, x_is_tup_non, x_is_dct_non, x_in_lst, x_in_tup, x_in_dct, x_in_str, x_wk_lst, x_wk_tup, x_wk_str, x_li, x_di_lst, x_di_tup, x_rg1, x_rg2, x_rg3, x_oi, x_db, x_bnm, x_btp, x_dput, x_dput_dct, x_key_int, x_key_str, x_rep_lst, x_rep_tup, x_rep_dct, x_sb1_lst, x_sb1_tup, x_sb1_dct, x_app1, x_eq_int, x_eq_bl]) ⟨y, rfl⟩
      subst hρ2
      rw [List.take_length] at e2
      refine ⟨[some (prD P), some (.dct true (setE tx L)), some (lnD n), y], [some (prD P), some (.dct true (setE tx (ins L (bx n)))), some (lnD n), z], rfl, ?_, _, _, rfl⟩
      refine seq_nx (ρ1 := [some (prD P), some (.dct true (setE tx (ins L (bx n)))), some (lnD n), z]) ?_ rfl
      simp only [hbn, e2, f0, f1, f2, f3, f4, f5, f6, f7, f8, encN.frz, encN.frzL, encN.clean, encN.cleanL, setE_frz encN, setE_clean encN, ln_frz, ln_clean, lns_frz, lns_clean, pt_frz, pt_clean, pts_frz, pts_clean, pr_frz, pr_clean, frz_scr, frz_app, List.map_append, List.length_append, List.length_map, decide_true, decide_false, and_self, runF, evSs, evS, evT, evE, evAnd, evOr, evAndE, evOrE, evEs, evO, evC, evI, env0, endF, one, two, three, Eng.many, meth, chk, putD, appD, isLst, Eng.kept, Eng.kill, bindT, setAll, Tgt.slots, Exs.isNil, Ex.pure, Exs.pure, Ox.pure, Itr.pure, Ex.vars, Exs.vars, Ox.vars, Itr.vars, popD, popAtD, deepD, getP, putP, evP, callIO, ioArgs, ioSlot, ioOk, ioOut, ioV, ioClean, outs_from, outsGo, List.lookup_cons, List.lookup_nil, List.any_cons, List.any_nil, List.all_cons, List.all_nil, Exs.toList, Ex.isVar, frzE, cleanE, D.clean, cleanL, D.frz, frzL, frz_frz, frzL_frz, tru, get0_cons_zero, get0_cons_succ, get0_nil, List.set_cons_zero, List.set_cons_succ, frzAt_from, frzFrom, List.elem_cons, List.elem_nil, Nat.reduceBEq, List.length_cons, List.length_nil, List.map_cons, List.map_nil, List.replicate_succ, List.replicate_zero, List.cons_append, List.nil_append, List.append_nil, Option.map_some, Option.map_none, Option.bind_some, Option.bind_none, Nat.reduceSub, Nat.reduceAdd, List.range_eq_nil, Bool.not_false, Bool.not_true, Bool.or_true, Bool.true_or, Bool.or_false, Bool.false_or, Bool.and_true, Bool.true_and, Bool.and_false, Bool.false_and, Bool.not_not, Bool.false_eq_true, if_true, if_false, reduceIte, reduceCtorEq, x_blt_len, x_blt_int, x_blt_str, x_blt_list, x_blt_tuple, x_blt_max, x_blt_min, x_blt_sset, x_blt_sorted, x_sorted, x_sortd, x_mth_join, x_mth_upper, x_mth_index, x_isi_str_non, x_isi_str_bl, x_isi_str_int, x_isi_str_str, x_isi_str_lst, x_isi_str_tup, x_isi_str_dct, x_isi_int_non, x_isi_int_bl, x_isi_int_int, x_isi_int_str, x_isi_int_lst, x_isi_int_tup, x_isi_int_dct, x_isi_bool_non, x_isi_bool_bl, x_isi_bool_int, x_isi_bool_str, x_isi_bool_lst, x_isi_bool_tup, x_isi_bool_dct, x_isi_tuple_non, x_isi_tuple_bl, x_isi_tuple_int, x_isi_tuple_str, x_isi_tuple_lst, x_isi_tuple_tup, x_isi_tuple_dct, x_isi_list_non, x_isi_list_bl, x_isi_list_int, x_isi_list_str, x_isi_list_lst, x_isi_list_tup, x_isi_list_dct, x_tru_non, x_tru_bl, x_tru_int, x_tru_str, x_tru_lst, x_tru_tup, x_neg, x_sub_lst, x_sub_tup, x_sub_str, x_sub_dct, x_cut_lst, x_cut_tup, x_cut_str, x_len_str, x_len_lst, x_len_tup, x_len_dct, x_int_int, x_int_bl, x_str_int, x_list_lst, x_list_tup, x_list_dct, x_tuple_lst, x_tuple_tup, x_max, x_min, x_add_int, x_add_str, x_add_lst, x_add_tup, x_sub_int, x_mul, x_muls, x_fdiv, x_mod, x_pow, x_cmp_eq, x_cmp_ne, x_cmp_lt, x_cmp_le, x_cmp_gt, x_cmp_ge, x_cmp_isin, x_cmp_notin, x_cmp_is, x_cmp_isnot, x_lt_int, x_le_int, x_gt_int, x_ge_int, x_lt_str, x_le_str, x_is_non, x_is_bl, x_is_bl_non, x_is_int_non, x_is_str_non, x_is_lst_non, x_is_tup_non, x_is_dct_non, x_in_lst, x_in_tup, x_in_dct, x_in_str, x_wk_lst, x_wk_tup, x_wk_str, x_li, x_di_lst, x_di_tup, x_rg1, x_rg2, x_rg3, x_oi, x_db, x_bnm, x_btp, x_dput, x_dput_dct, x_key_int, x_key_str, x_rep_lst, x_rep_tup, x_rep_dct, x_sb1_lst, x_sb1_tup, x_sb1_dct, x_app1, x_eq_int, x_eq_bl]) ⟨none, none, rfl⟩
  subst hρ
  rw [List.take_length] at e
  have s1 : evS S whl (.set 1 (.dct .nil)) [some (prD P), none, none, none] = some (.nx [some (prD P), some (.dct true (setE tx (ins [] []))), none, none]) := by
    have : setE tx (ins [] []) = [] := rfl
    simp only [mkD, this, f0, f1, f2, f3, f4, f5, f6, f7, f8, encN.frz, encN.frzL, encN.clean, encN.cleanL, setE_frz encN, setE_clean encN, ln_frz, ln_clean, lns_frz, lns_clean, pt_frz, pt_clean, pts_frz, pts_clean, pr_frz, pr_clean, frz_scr, frz_app, List.map_append, List.length_append, List.length_map, decide_true, decide_false, and_self, runF, evSs, evS, evT, evE, evAnd, evOr, evAndE, evOrE, evEs, evO, evC, evI, env0, endF, one, two, three, Eng.many, meth, chk, putD, appD, isLst, Eng.kept, Eng.kill, bindT, setAll, Tgt.slots, Exs.isNil, Ex.pure, Exs.pure, Ox.pure, Itr.pure, Ex.vars, Exs.vars, Ox.vars, Itr.vars, popD, popAtD, deepD, getP, putP, evP, callIO, ioArgs, ioSlot, ioOk, ioOut, ioV, ioClean, outs_from, outsGo, List.lookup_cons, List.lookup_nil, List.any_cons, List.any_nil, List.all_cons, List.all_nil, Exs.toList, Ex.isVar, frzE, cleanE, D.clean, cleanL, D.frz, frzL, frz_frz, frzL_frz, tru, get0_cons_zero, get0_cons_succ, get0_nil, List.set_cons_zero, List.set_cons_succ, frzAt_from, frzFrom, List.elem_cons, List.elem_nil, Nat.reduceBEq, List.length_cons, List.length_nil, List.map_cons, List.map_nil, List.replicate_succ, List.replicate_zero, List.cons_append, List.nil_append, List.append_nil, Option.map_some, Option.map_none, Option.bind_some, Option.bind_none, Nat.reduceSub, Nat.reduceAdd, List.range_eq_nil, Bool.not_false, Bool.not_true, Bool.or_true, Bool.true_or, Bool.or_false, Bool.false_or, Bool.and_true, Bool.true_and, Bool.and_false, Bool.false_and, Bool.not_not, Bool.false_eq_true, if_true, if_false, reduceIte, reduceCtorEq, x_blt_len, x_blt_int, x_blt_str, x_blt_list, x_blt_tuple, x_blt_max, x_blt_min, x_blt_sset, x_blt_sorted, x_sorted, x_sortd, x_mth_join, x_mth_upper, x_mth_index, x_isi_str_non, x_isi_str_bl, x_isi_str_int, x_isi_str_str, x_isi_str_lst, x_isi_str_tup, x_isi_str_dct, x_isi_int_non, x_isi_int_bl, x_isi_int_int, x_isi_int_str, x_isi_int_lst, x_isi_int_tup, x_isi_int_dct, x_isi_bool_non, x_isi_bool_bl, x_isi_bool_int, x_isi_bool_str, x_isi_bool_lst, x_isi_bool_tup, x_isi_bool_dct, x_isi_tuple_non, x_isi_tuple_bl, x_isi_tuple_int, x_isi_tuple_str, x_isi_tuple_lst, x_isi_tuple_tup, x_isi_tuple_dct, x_isi_list_non, x_isi_list_bl, x_isi_list_int, x_isi_list_str, x_isi_list_lst, x_isi_list_tup, x_isi_list_dct, x_tru_non, x_tru_bl, x_tru_int, x_tru_str, x_tru_lst, x_tru_tup, x_neg, x_sub_lst, x_sub_tup, x_sub_str, x_sub_dct, x_cut_lst, x_cut_tup, x_cut_str, x_len_str, x_len_lst, x_len_tup, x_len_dct, x_int_int, x_int_bl, x_str_int, x_list_lst, x_list_tup, x_list_dct, x_tuple_lst, x_tuple_tup, x_max, x_min, x_add_int, x_add_str, x_add_lst, x_add_tup, x_sub_int, x_mul, x_muls, x_fdiv, x_mod, x_pow, x_cmp_eq, x_cmp_ne, x_cmp_lt, x_cmp_le, x_cmp_gt, x_cmp_ge, x_cmp_isin, x_cmp_notin, x_cmp_is, x_cmp_isnot, x_lt_int, x_le_int, x_gt_int, x_ge_int, x_lt_str, x_le_str, x_is_non, x_is_bl, x_is_bl_non, x_is_int_non, x_is_str_non, x_is_lst_non, x_is_tup_non, x_is_dct_non, x_in_lst, x_in_tup, x_in_dct, x_in_str, x_wk_lst, x_wk_tup, x_wk_str, x_li, x_di_lst, x_di_tup, x_rg1, x_rg2, x_rg3, x_oi, x_db, x_bnm, x_btp, x_dput, x_dput_dct, x_key_int, x_key_str, x_rep_lst, x_rep_tup, x_rep_dct, x_sb1_lst, x_sb1_tup, x_sb1_dct, x_app1, x_eq_int, x_eq_bl]
  have s2 : evS S whl (.loop (.nm 2) (.of (.call "all_lines" (.cons (.var 0) .nil))) f_boxes_of_b2) [some (prD P), some (.dct true (setE tx (ins [] []))), none, none] = some (.nx [some (prD P), some (.dct true (setE tx (bxs bx P))), x, y]) := by
    simp only [ha, e, bxs, f0, f1, f2, f3, f4, f5, f6, f7, f8, encN.frz, encN.frzL, encN.clean, encN.cleanL, setE_frz encN, setE_clean encN, ln_frz, ln_clean, lns_frz, lns_clean, pt_frz, pt_clean, pts_frz, pts_clean, pr_frz, pr_clean, frz_scr, frz_app, List.map_append, List.length_append, List.length_map, decide_true, decide_false, and_self, runF, evSs, evS, evT, evE, evAnd, evOr, evAndE, evOrE, evEs, evO, evC, evI, env0, endF, one, two, three, Eng.many, meth, chk, putD, appD, isLst, Eng.kept, Eng.kill, bindT, setAll, Tgt.slots, Exs.isNil, Ex.pure, Exs.pure, Ox.pure, Itr.pure, Ex.vars, Exs.vars, Ox.vars, Itr.vars, popD, popAtD, deepD, getP, putP, evP, callIO, ioArgs, ioSlot, ioOk, ioOut, ioV, ioClean, outs_from, outsGo, List.lookup_cons, List.lookup_nil, List.any_cons, List.any_nil, List.all_cons, List.all_nil, Exs.toList, Ex.isVar, frzE, cleanE, D.clean, cleanL, D.frz, frzL, frz_frz, frzL_frz, tru, get0_cons_zero, get0_cons_succ, get0_nil, List.set_cons_zero, List.set_cons_succ, frzAt_from, frzFrom, List.elem_cons, List.elem_nil, Nat.reduceBEq, List.length_cons, List.length_nil, List.map_cons, List.map_nil, List.replicate_succ, List.replicate_zero, List.cons_append, List.nil_append, List.append_nil, Option.map_some, Option.map_none, Option.bind_some, Option.bind_none, Nat.reduceSub, Nat.reduceAdd, List.range_eq_nil, Bool.not_false, Bool.not_true, Bool.or_true, Bool.true_or, Bool.or_false, Bool.false_or, Bool.and_true, Bool.true_and, Bool.and_false, Bool.false_and, Bool.not_not, Bool.false_eq_true, if_true, if_false, reduceIte, reduceCtorEq, x_blt_len, x_blt_int, x_blt_str, x_blt_list, x_blt_tuple, x_blt_max, x_blt_min, x_blt_sset, x_blt_sorted, x_sorted, x_sortd, x_mth_join, x_mth_upper, x_mth_index, x_isi_str_non, x_isi_str_bl, x_isi_str_int, x_isi_str_str, x_isi_str_lst, x_isi_str_tup, x_isi_str_dct, x_isi_int_non, x_isi_int_bl, x_isi_int_int, x_isi_int_str, x_isi_int_lst, x_isi_int_tup, x_isi_int_dct, x_isi_bool_non, x_isi_bool_bl, x_isi_bool_int, x_isi_bool_str, x_isi_bool_lst, x_isi_bool_tup, x_isi_bool_dct, x_isi_tuple_non, x_isi_tuple_bl, x_isi_tuple_int, x_isi_tuple_str, x_isi_tuple_lst, x_isi_tuple_tup, x_isi_tuple_dct, x_isi_list_non, x_isi_list_bl, x_isi_list_int, x_isi_list_str, x_isi_list_lst, x_isi_list_tup, x_isi_list_dct, x_tru_non, x_tru_bl, x_tru_int, x_tru_str, x_tru_lst, x_tru_tup, x_neg, x_sub_lst, x_sub_tup, x_sub_str, x_sub_dct, x_cut_lst, x_cut_tup, x_cut_str, x_len_str, x_len_lst, x_len_tup, x_len_dct, x_int_int, x_int_bl, x_str_int, x_list_lst, x_list_tup, x_list_dct, x_tuple_lst, x_tuple_tup, x_max, x_min, x_add_int, x_add_str, x_add_lst, x_add_tup, x_sub_int, x_mul, x_muls, x_fdiv, x_mod, x_pow, x_cmp_eq, x_cmp_ne, x_cmp_lt, x_cmp_le, x_cmp_gt, x_cmp_ge, x_cmp_isin, x_cmp_notin, x_cmp_is, x_cmp_isnot, x_lt_int, x_le_int, x_gt_int, x_ge_int, x_lt_str, x_le_str, x_is_non, x_is_bl, x_is_bl_non, x_is_int_non, x_is_str_non, x_is_lst_non, x_is_tup_non, x_is_dct_non, x_in_lst, x_in_tup, x_in_dct, x_in_str, x_wk_lst, x_wk_tup, x_wk_str, x_li, x_di_lst, x_di_tup, x_rg1, x_rg2, x_rg3, x_oi, x_db, x_bnm, x_btp, x_dput, x_dput_dct, x_key_int, x_key_str, x_rep_lst, x_rep_tup, x_rep_dct, x_sb1_lst, x_sb1_tup, x_sb1_dct, x_app1, x_eq_int, x_eq_bl]
  refine run_of rfl (seq_nx s1 (seq_nx s2 (seq_rt (d := .lst true (srt (bxs bx P))) (ρ1 := [some (prD P), some (.dct true (setE tx (bxs bx P))), x, y]) ?_))) rfl
  have q1 := (sort_txt (bxs bx P)).1
  have q2 := (sort_txt (bxs bx P)).2
  have q3 := srt_clean (bxs bx P)
  simp only [srt] at q3 ⊢
  simp only [keys_set, q1, q2, q3, x_blt_sorted, f0, f1, f2, f3, f4, f5, f6, f7, f8, encN.frz, encN.frzL, encN.clean, encN.cleanL, setE_frz encN, setE_clean encN, ln_frz, ln_clean, lns_frz, lns_clean, pt_frz, pt_clean, pts_frz, pts_clean, pr_frz, pr_clean, frz_scr, frz_app, List.map_append, List.length_append, List.length_map, decide_true, decide_false, and_self, runF, evSs, evS, evT, evE, evAnd, evOr, evAndE, evOrE, evEs, evO, evC, evI, env0, endF, one, two, three, Eng.many, meth, chk, putD, appD, isLst, Eng.kept, Eng.kill, bindT, setAll, Tgt.slots, Exs.isNil, Ex.pure, Exs.pure, Ox.pure, Itr.pure, Ex.vars, Exs.vars, Ox.vars, Itr.vars, popD, popAtD, deepD, getP, putP, evP, callIO, ioArgs, ioSlot, ioOk, ioOut, ioV, ioClean, outs_from, outsGo, List.lookup_cons, List.lookup_nil, List.any_cons, List.any_nil, List.all_cons, List.all_nil, Exs.toList, Ex.isVar, frzE, cleanE, D.clean, cleanL, D.frz, frzL, frz_frz, frzL_frz, tru, get0_cons_zero, get0_cons_succ, get0_nil, List.set_cons_zero, List.set_cons_succ, frzAt_from, frzFrom, List.elem_cons, List.elem_nil, Nat.reduceBEq, List.length_cons, List.length_nil, List.map_cons, List.map_nil, List.replicate_succ, List.replicate_zero, List.cons_append, List.nil_append, List.append_nil, Option.map_some, Option.map_none, Option.bind_some, Option.bind_none, Nat.reduceSub, Nat.reduceAdd, List.range_eq_nil, Bool.not_false, Bool.not_true, Bool.or_true, Bool.true_or, Bool.or_false, Bool.false_or, Bool.and_true, Bool.true_and, Bool.and_false, Bool.false_and, Bool.not_not, Bool.false_eq_true, if_true, if_false, reduceIte, reduceCtorEq, x_blt_len, x_blt_int, x_blt_str, x_blt_list, x_blt_tuple, x_blt_max, x_blt_min, x_blt_sset, x_blt_sorted, x_sorted, x_sortd, x_mth_join, x_mth_upper, x_mth_index, x_isi_str_non, x_isi_str_bl, x_isi_str_int, x_isi_str_str, x_isi_str_lst, x_isi_str_tup, x_isi_str_dct, x_isi_int_non, x_isi_int_bl, x_isi_int_int, x_isi_int_str, x_isi_int_lst, x_isi_int_tup, x_isi_int_dct, x_isi_bool_non, x_isi_bool_bl, x_isi_bool_int, x_isi_bool_str, x_isi_bool_lst, x_isi_bool_tup, x_isi_bool_dct, x_isi_tuple_non, x_isi_tuple_bl, x_isi_tuple_int, x_isi_tuple_str, x_isi_tuple_lst, x_isi_tuple_tup, x_isi_tuple_dct, x_isi_list_non, x_isi_list_bl, x_isi_list_int, x_isi_list_str, x_isi_list_lst, x_isi_list_tup, x_isi_list_dct, x_tru_non, x_tru_bl, x_tru_int, x_tru_str, x_tru_lst, x_tru_tup, x_neg, x_sub_lst, x_sub_tup, x_sub_str, x_sub_dct, x_cut_lst, x_cut_tup, x_cut_str, x_len_str, x_len_lst, x_len_tup, x_len_dct, x_int_int, x_int_bl, x_str_int, x_list_lst, x_list_tup, x_list_dct, x_tuple_lst, x_tuple_tup, x_max, x_min, x_add_int, x_add_str, x_add_lst, x_add_tup, x_sub_int, x_mul, x_muls, x_fdiv, x_mod, x_pow, x_cmp_eq, x_cmp_ne, x_cmp_lt, x_cmp_le, x_cmp_gt, x_cmp_ge, x_cmp_isin, x_cmp_notin, x_cmp_is, x_cmp_isnot, x_lt_int, x_le_int, x_gt_int, x_ge_int, x_lt_str, x_le_str, x_is_non, x_is_bl, x_is_bl_non, x_is_int_non, x_is_str_non, x_is_lst_non, x_is_tup_non, x_is_dct_non, x_in_lst, x_in_tup, x_in_dct, x_in_str, x_wk_lst, x_wk_tup, x_wk_str, x_li, x_di_lst, x_di_tup, x_rg1, x_rg2, x_rg3, x_oi, x_db, x_bnm, x_btp, x_dput, x_dput_dct, x_key_int, x_key_str, x_rep_lst, x_rep_tup, x_rep_dct, x_sb1_lst, x_sb1_tup, x_sb1_dct, x_app1, x_eq_int, x_eq_bl]
theorem wo_ok (S : Sem0) (P : List Part) (h1 : P.length ≤ 5) (h2 : ∀ p ∈ P, p.2.length ≤ 20) (ha : S.call "all_lines" [prD P] = some (.lst true ((lines P).map lnD), [none])) :
    runF S f_words_of [prD P] = some (.lst true (srt (bxs wx P)), [none]) := by
  have hl := lines_len h1 h2
  obtain ⟨ρ', e, x, hρ⟩ := loopL_ix (f := lnD) (tg := .nm 2) (b := evSs S whl f_words_of_b1) (l := lines P) (ρ := [some (prD P), some (.dct true (setE tx (ins [] []))), none])
    (fun i ρ => ∃ x, ρ = [some (prD P), some (.dct true (setE tx (ins [] (((lines P).take i).flatMap wx)))), x]) (fun i ρ n hn ⟨x, hρ⟩ => by
      subst hρ
      have hi := (List.getElem?_eq_some_iff.mp hn).1
      have l1 := flat_len wx_len ((lines P).take i)
      rw [List.length_take] at l1
      have l2 := ins_len (((lines P).take i).flatMap wx) []
      rw [flat_take hn, ins_app]
      generalize ins [] (((lines P).take i).flatMap wx) = L at l2 ⊢
      have l3 : L.length ≤ 300 := by rw [List.length_nil] at l2; omega
      have ff : fits ((setE tx L).length + 1) = true := fit_le (by unfold setE; rw [List.length_map]; omega)
      refine ⟨[some (prD P), some (.dct true (setE tx L)), some (lnD n)], [some (prD P), some (.dct true (setE tx (ins L (wx n)))), some (lnD n)], rfl, ?_, _, rfl⟩
      have e1 := e_pair n
      have e4 := sub0 n
      cases n with
      | pair x w y z =>
        have a2 : dSub (lnD (.pair x w y z)) (.int 2) = some (tx w) := rfl
        have hk : dKey (tx w) = some (.text w.1) := rfl
        show _ = some (Out.nx [some (prD P), some (.dct true (setE tx (insA L w))), some (lnD (.pair x w y z))])
        rw [← encN.set]
        simp only [f_words_of_b1, e1, e4, a2, hk, ff, isPair, f0, f1, f2, f3, f4, f5, f6, f7, f8, encN.frz, encN.frzL, encN.clean, encN.cleanL, setE_frz encN, setE_clean encN, ln_frz, ln_clean, lns_frz, lns_clean, pt_frz, pt_clean, pts_frz, pts_clean, pr_frz, pr_clean, frz_scr, frz_app, List.map_append, List.length_append, List.length_map, decide_true, decide_false, and_self, runF, evSs, evS, evT, evE, evAnd, evOr, evAndE, evOrE, evEs, evO, evC, evI, env0, endF, one, two, three, Eng.many, meth, chk, putD, appD, isLst, Eng.kept, Eng.kill, bindT, setAll, Tgt.slots, Exs.isNil, Ex.pure, Exs.pure, Ox.pure, Itr.pure, Ex.vars, Exs.vars, Ox.vars, Itr.vars, popD, popAtD, deepD, getP, putP, evP, callIO, ioArgs, ioSlot, ioOk, ioOut, ioV, ioClean, outs_from, outsGo, List.lookup_cons, List.lookup_nil, List.any_cons, List.any_nil, List.all_cons, List.all_nil, Exs.toList, Ex.isVar, frzE, cleanE, D.clean, cleanL, D.frz, frzL, frz_frz, frzL_frz, tru, get0_cons_zero, get0_cons_succ, get0_nil, List.set_cons_zero, List.set_cons_succ, frzAt_from, frzFrom, List.elem_cons, List.elem_nil, Nat.reduceBEq, List.length_cons, List.length_nil, List.map_cons, List.map_nil, List.replicate_succ, List.replicate_zero, List.cons_append, List.nil_append, List.append_nil, Option.map_some, Option.map_none, Option.bind_some, Option.bind_none, Nat.reduceSub, Nat.reduceAdd, List.range_eq_nil, Bool.not_false, Bool.not_true, Bool.or_true, Bool.true_or, Bool.or_false, Bool.false_or, Bool.and_true, Bool.true_and, Bool.and_false, Bool.false_and, Bool.not_not, Bool.false_eq_true, if_true, if_false, reduceIte, reduceCtorEq, x_blt_len, x_blt_int, x_blt_str, x_blt_list, x_blt_tuple, x_blt_max, x_blt_min, x_blt_sset, x_blt_sorted, x_sorted, x_sortd, x_mth_join, x_mth_upper, x_mth_index, x_isi_str_non, x_isi_str_bl, x_isi_str_int, x_isi_str_str, x_isi_str_lst, x_isi_str_tup, x_isi_str_dct, x_isi_int_non, x_isi_int_bl, x_isi_int_int, x_isi_int_str, x_isi_int_lst, x_isi_int_tup, x_isi_int_dct, x_isi_bool_non, x_isi_bool_bl, x_isi_bool_int, x_isi_bool_str, x_isi_bool_lst, x_isi_bool_tup, x_isi_bool_dct, x_isi_tuple_non, x_isi_tuple_bl, x_isi_tuple_int, x_isi_tuple_str, x_isi_tuple_lst, x_isi_tuple_tup, x_isi_tuple_dct, x_isi_list_non, x_isi_list_bl, x_isi_list_int, x_isi_list_str, x_isi_list_lst, x_isi_list_tup, x_isi_list_dct, x_tru_non, x_tru_bl, x_tru_int, x_tru_str, x_tru_lst, x_tru_tup, x_neg, x_sub_lst, x_sub_tup, x_sub_str, x_sub_dct, x_cut_lst, x_cut_tup, x_cut_str, x_len_str, x_len_lst, x_len_tup, x_len_dct, x_int_int, x_int_bl, x_str_int, x_list_lst, x_list_tup, x_list_dct, x_tuple_lst, x_tuple_tup, x_max, x_min, x_add_int, x_add_str, x_add_lst, x_add_tup, x_sub_int, x_mul, x_muls, x_fdiv, x_mod, x_pow, x_cmp_eq, x_cmp_ne, x_cmp_lt, x_cmp_le, x_cmp_gt, x_cmp_ge, x_cmp_isin, x_cmp_notin, x_cmp_is, x_cmp_isnot, x_lt_int, x_le_int, x_gt_int, x_ge_int, x_lt_str, x_le_str, x_is_non, x_is_bl, x_is_bl_non, x_is_int_non, x_is_str_non, x_is_lst_non, x_is_tup_non, x_is_dct_non, x_in_lst, x_in_tup, x_in_dct, x_in_str, x_wk_lst, x_wk_tup, x_wk_str, x_li, x_di_lst, x_di_tup, x_rg1, x_rg2, x_rg3, x_oi, x_db, x_bnm, x_btp, x_dput, x_dput_dct, x_key_int, x_key_str, x_rep_lst, x_rep_tup, x_rep_dct, x_sb1_lst, x_sb1_tup, x_sb1_dct, x_app1, x_eq_int, x_eq_bl]
      | _ => simp only [f_words_of_b1, e1, e4, isPair, wx, ins, List.foldl_nil, f0, f1, f2, f3, f4, f5, f6, f7, f8, encN.frz, encN.frzL, encN.clean, encN.cleanL, setE_frz encN, setE_clean encN, ln_frz, ln_clean, lns_frz, lns_clean, pt_frz, pt_clean, pts_frz, pts_clean, pr_frz, pr_clean, frz_scr, frz_app, List.map_append, List.length_append, List.length_map, decide_true, decide_false, and_self, runF, evSs, evS, evT, evE, evAnd, evOr, evAndE, evOrE, evEs, evO, evC, evI, env0, endF, one, two, three, Eng.many, meth, chk, putD, appD, isLst, Eng.kept, Eng.kill, bindT, setAll, Tgt.slots, Exs.isNil, Ex.pure, Exs.pure, Ox.pure, Itr.pure, Ex.vars, Exs.vars, Ox.vars, Itr.vars, popD, popAtD, deepD, getP, putP, evP, callIO, ioArgs, ioSlot, ioOk, ioOut, ioV, ioClean, outs_from, outsGo, List.lookup_cons, List.lookup_nil, List.any_cons, List.any_nil, List.all_cons, List.all_nil, Exs.toList, Ex.isVar, frzE, cleanE, D.clean, cleanL, D.frz, frzL, frz_frz, frzL_frz, tru, get0_cons_zero, get0_cons_succ, get0_nil, List.set_cons_zero, List.set_cons_succ, frzAt_from, frzFrom, List.elem_cons, List.elem_nil, Nat.reduceBEq, List.length_cons, List.length_nil, List.map_cons, List.map_nil, List.replicate_succ, List.replicate_zero, List.cons_append, List.nil_append, List.append_nil, Option.map_some, Option.map_none, Option.bind_some, Option.bind_none, Nat.reduceSub, Nat.reduceAdd, List.range_eq_nil, Bool.not_false, Bool.not_true, Bool.or_true, Bool.true_or, Bool.or_false, Bool.false_or, Bool.and_true, Bool.true_and, Bool.and_false, Bool.false_and, Bool.not_not, Bool.false_eq_true, if_true, if_false, reduceIte, reduceCtorEq, x_blt_len, x_blt_int, x_blt_str, x_blt_list, x_blt_tuple, x_blt_max, x_blt_min, x_blt_sset, x_blt_sorted, x_sorted, x_sortd, x_mth_join, x_mth_upper, x_mth_index, x_isi_str_non, x_isi_str_bl, x_isi_str_int, x_isi_str_str, x_isi_str_lst, x_isi_str_tup, x_isi_str_dct, x_isi_int_non, x_isi_int_bl, x_isi_int_int, x_isi_int_str, x_isi_int_lst, x_isi_int_tup, x_isi_int_dct, x_isi_bool_non, x_isi_bool_bl, x_isi_bool_int, x_isi_bool_str, x_isi_bool_lst, x_isi_bool_tup, x_isi_bool_dct, x_isi_tuple_non, x_isi_tuple_bl, x_isi_tuple_int, x_isi_tuple_str, x_isi_tuple_lst, x_isi_tuple_tup, x_isi_tuple_dct, x_isi_list_non, x_isi_list_bl, x_isi_list_int, x_isi_list_str, x_isi_list_lst, x_isi_list_tup, x_isi_list_dct, x_tru_non, x_tru_bl, x_tru_int, x_tru_str, x_tru_lst, x_tru_tup, x_neg, x_sub_lst, x_sub_tup, x_sub_str, x_sub_dct, x_cut_lst, x_cut_tup, x_cut_str, x_len_str, x_len_lst, x_len_tup, x_len_dct, x_int_int, x_int_bl, x_str_int, x_list_lst, x_list_tup, x_list_dct, x_tuple_lst, x_tuple_tup, x_max, x_min, x_add_int, x_add_str, x_add_lst, x_add_tup, x_sub_int, x_mul, x_muls, x_fdiv, x_mod, x_pow, x_cmp_eq, x_cmp_ne, x_cmp_lt, x_cmp_le, x_cmp_gt, x_cmp_ge, x_cmp_isin, x_cmp_notin, x_cmp_is, x_cmp_isnot, x_lt_int, x_le_int, x_gt_int, x_ge_int, x_lt_str, x_le_str, x_is_non, x_is_bl, x_is_bl_non, x_is_int_non, x_is_str_non, x_is_lst_non, x_is_tup_non, x_is_dct_non, x_in_lst, x_in_tup, x_in_dct, x_in_str, x_wk_lst, x_wk_tup, x_wk_str, x_li, x_di_lst, x_di_tup, x_rg1, x_rg2, x_rg3, x_oi, x_db, x_bnm, x_btp, x_dput, x_dput_dct, x_key_int, x_key_str, x_rep_lst, x_rep_tup, x_rep_dct, x_sb1_lst, x_sb1_tup, x_sb1_dct, x_app1, x_eq_int, x_eq_bl]) ⟨none, rfl⟩
  subst hρ
  rw [List.take_length] at e
  have s1 : evS S whl (.set 1 (.dct .nil)) [some (prD P), none, none] = some (.nx [some (prD P), some (.dct true (setE tx (ins [] []))), none]) := by
    have : setE tx (ins [] []) = [] := rfl
    simp only [mkD, this, f0, f1, f2, f3, f4, f5, f6, f7, f8, encN.frz, encN.frzL, encN.clean, encN.cleanL, setE_frz encN, setE_clean encN, ln_frz, ln_clean, lns_frz, lns_clean, pt_frz, pt_clean, pts_frz, pts_clean, pr_frz, pr_clean, frz_scr, frz_app, List.map_append, List.length_append, List.length_map, decide_true, decide_false, and_self, runF, evSs, evS, evT, evE, evAnd, evOr, evAndE, evOrE, evEs, evO, evC, evI, env0, endF, one, two, three, Eng.many, meth, chk, putD, appD, isLst, Eng.kept, Eng.kill, bindT, setAll, Tgt.slots, Exs.isNil, Ex.pure, Exs.pure, Ox.pure, Itr.pure, Ex.vars, Exs.vars, Ox.vars, Itr.vars, popD, popAtD, deepD, getP, putP, evP, callIO, ioArgs, ioSlot, ioOk, ioOut, ioV, ioClean, outs_from, outsGo, List.lookup_cons, List.lookup_nil, List.any_cons, List.any_nil, List.all_cons, List.all_nil, Exs.toList, Ex.isVar, frzE, cleanE, D.clean, cleanL, D.frz, frzL, frz_frz, frzL_frz, tru, get0_cons_zero, get0_cons_succ, get0_nil, List.set_cons_zero, List.set_cons_succ, frzAt_from, frzFrom, List.elem_cons, List.elem_nil, Nat.reduceBEq, List.length_cons, List.length_nil, List.map_cons, List.map_nil, List.replicate_succ, List.replicate_zero, List.cons_append, List.nil_append, List.append_nil, Option.map_some, Option.map_none, Option.bind_some, Option.bind_none, Nat.reduceSub, Nat.reduceAdd, List.range_eq_nil, Bool.not_false, Bool.not_true, Bool.or_true, Bool.true_or, Bool.or_false, Bool.false_or, Bool.and_true, Bool.true_and, Bool.and_false, Bool.false_and, Bool.not_not, Bool.false_eq_true, if_true, if_false, reduceIte, reduceCtorEq, x_blt_len, x_blt_int, x_blt_str, x_blt_list, x_blt_tuple, x_blt_max, x_blt_min, x_blt_sset, x_blt_sorted, x_sorted, x_sortd, x_mth_join, x_mth_upper, x_mth_index, x_isi_str_non, x_isi_str_bl, x_isi_str_int, x_isi_str_str, x_isi_str_lst, x_isi_str_tup, x_isi_str_dct, x_isi_int_non, x_isi_int_bl, x_isi_int_int, x_isi_int_str, x_isi_int_lst, x_isi_int_tup, x_isi_int_dct, x_isi_bool_non, x_isi_bool_bl, x_isi_bool_int, x_isi_bool_str, x_isi_bool_lst, x_isi_bool_tup, x_isi_bool_dct, x_isi_tuple_non, x_isi_tuple_bl, x_isi_tuple_int, x_isi_tuple_str, x_isi_tuple_lst, x_isi_tuple_tup, x_isi_tuple_dct, x_isi_list_non, x_isi_list_bl, x_isi_list_int, x_isi_list_str, x_isi_list_lst, x_isi_list_tup, x_isi_list_dct, x_tru_non, x_tru_bl, x_tru_int, x_tru_str, x_tru_lst, x_tru_tup, x_neg, x_sub_lst, x_sub_tup, x_sub_str, x_sub_dct, x_cut_lst, x_cut_tup, x_cut_str, x_len_str, x_len_lst, x_len_tup, x_len_dct, x_int_int, x_int_bl, x_str_int, x_list_lst, x_list_tup, x_list_dct, x_tuple_lst, x_tuple_tup, x_max, x_min, x_add_int, x_add_str, x_add_lst, x_add_tup, x_sub_int, x_mul, x_muls, x_fdiv, x_mod, x_pow, x_cmp_eq, x_cmp_ne, x_cmp_lt, x_cmp_le, x_cmp_gt, x_cmp_ge, x_cmp_isin, x_cmp_notin, x_cmp_is, x_cmp_isnot, x_lt_int, x_le_int, x_gt_int, x_ge_int, x_lt_str, x_le_str, x_is_non, x_is_bl, x_is_bl_non, x_is_int_non, x_is_str_non, x_is_lst_non, x_is_tup_non, x_is_dct_non, x_in_lst, x_in_tup, x_in_dct, x_in_str, x_wk_lst, x_wk_tup, x_wk_str, x_li, x_di_lst, x_di_tup, x_rg1, x_rg2, x_rg3, x_oi, x_db, x_bnm, x_btp, x_dput, x_dput_dct, x_key_int, x_key_str, x_rep_lst, x_rep_tup, x_rep_dct, x_sb1_lst, x_sb1_tup, x_sb1_dct, x_app1, x_eq_int, x_eq_bl]
  have s2 : evS S whl (.loop (.nm 2) (.of (.call "all_lines" (.cons (.var 0) .nil))) f_words_of_b1) [some (prD P), some (.dct true (setE tx (ins [] []))), none] = some (.nx [some (prD P), some (.dct true (setE tx (bxs wx P))), x]) := by
    simp only [ha, e, bxs, f0, f1, f2, f3, f4, f5, f6, f7, f8, encN.frz, encN.frzL, encN.clean, encN.cleanL, setE_frz encN, setE_clean encN, ln_frz, ln_clean, lns_frz, lns_clean, pt_frz, pt_clean, pts_frz, pts_clean, pr_frz, pr_clean, frz_scr, frz_app, List.map_append, List.length_append, List.length_map, decide_true, decide_false, and_self, runF, evSs, evS, evT, evE, evAnd, evOr, evAndE, evOrE, evEs, evO, evC, evI, env0, endF, one, two, three, Eng.many, meth, chk, putD, appD, isLst, Eng.kept, Eng.kill, bindT, setAll, Tgt.slots, Exs.isNil, Ex.pure, Exs.pure, Ox.pure, Itr.pure, Ex.vars, Exs.vars, Ox.vars, Itr.vars, popD, popAtD, deepD, getP, putP, evP, callIO, ioArgs, ioSlot, ioOk, ioOut, ioV, ioClean, outs_from, outsGo, List.lookup_cons, List.lookup_nil, List.any_cons, List.any_nil, List.all_cons, List.all_nil, Exs.toList, Ex.isVar, frzE, cleanE, D.clean, cleanL, D.frz, frzL, frz_frz, frzL_frz, tru, get0_cons_zero, get0_cons_succ, get0_nil, List.set_cons_zero, List.set_cons_succ, frzAt_from, frzFrom, List.elem_cons, List.elem_nil, Nat.reduceBEq, List.length_cons, List.length_nil, List.map_cons, List.map_nil, List.replicate_succ, List.replicate_zero, List.cons_append, List.nil_append, List.append_nil, Option.map_some, Option.map_none, Option.bind_some, Option.bind_none, Nat.reduceSub, Nat.reduceAdd, List.range_eq_nil, Bool.not_false, Bool.not_true, Bool.or_true, Bool.true_or, Bool.or_false, Bool.false_or, Bool.and_true, Bool.true_and, Bool.and_false, Bool.false_and, Bool.not_not, Bool.false_eq_true, if_true, if_false, reduceIte, reduceCtorEq, x_blt_len, x_blt_int, x_blt_str, x_blt_list, x_blt_tuple, x_blt_max, x_blt_min, x_blt_sset, x_blt_sorted, x_sorted, x_sortd, x_mth_join, x_mth_upper, x_mth_index, x_isi_str_non, x_isi_str_bl, x_isi_str_int, x_isi_str_str, x_isi_str_lst, x_isi_str_tup, x_isi_str_dct, x_isi_int_non, x_isi_int_bl, x_isi_int_int, x_isi_int_str, x_isi_int_lst, x_isi_int_tup, x_isi_int_dct, x_isi_bool_non, x_isi_bool_bl, x_isi_bool_int, x_isi_bool_str, x_isi_bool_lst, x_isi_bool_tup, x_isi_bool_dct, x_isi_tuple_non, x_isi_tuple_bl, x_isi_tuple_int, x_isi_tuple_str, x_isi_tuple_lst, x_isi_tuple_tup, x_isi_tuple_dct, x_isi_list_non, x_isi_list_bl, x_isi_list_int, x_isi_list_str, x_isi_list_lst, x_isi_list_tup, x_isi_list_dct, x_tru_non, x_tru_bl, x_tru_int, x_tru_str, x_tru_lst, x_tru_tup, x_neg, x_sub_lst, x_sub_tup, x_sub_str, x_sub_dct, x_cut_lst, x_cut_tup, x_cut_str, x_len_str, x_len_lst, x_len_tup, x_len_dct, x_int_int, x_int_bl, x_str_int, x_list_lst, x_list_tup, x_list_dct, x_tuple_lst, x_tuple_tup, x_max, x_min, x_add_int, x_add_str, x_add_lst, x_add_tup, x_sub_int, x_mul, x_muls, x_fdiv, x_mod, x_pow, x_cmp_eq, x_cmp_ne, x_cmp_lt, x_cmp_le, x_cmp_gt, x_cmp_ge, x_cmp_isin, x_cmp_notin, x_cmp_is, x_cmp_isnot, x_lt_int, x_le_int, x_gt_int, x_ge_int, x_lt_str, x_le_str, x_is_non, x_is_bl, x_is_bl_non, x_is_int_non, x_is_str_non, x_is_lst_non, x_is_tup_non, x_is_dct_non, x_in_lst, x_in_tup, x_in_dct, x_in_str, x_wk_lst, x_wk_tup, x_wk_str, x_li, x_di_lst, x_di_tup, x_rg1, x_rg2, x_rg3, x_oi, x_db, x_bnm, x_btp, x_dput, x_dput_dct, x_key_int, x_key_str, x_rep_lst, x_rep_tup, x_rep_dct, x_sb1_lst, x_sb1_tup, x_sb1_dct, x_app1, x_eq_int, x_eq_bl]
  refine run_of rfl (seq_nx s1 (seq_nx s2 (seq_rt (d := .lst true (srt (bxs wx P))) (ρ1 := [some (prD P), some (.dct true (setE tx (bxs wx P))), x]) ?_))) rfl
  have q1 := (sort_txt (bxs wx P)).1
  have q2 := (sort_txt (bxs wx P)).2
  have q3 := srt_clean (bxs wx P)
  simp only [srt] at q3 ⊢
  simp only [keys_set, q1, q2, q3, x_blt_sorted, f0, f1, f2, f3, f4, f5, f6, f7, f8, encN.frz, encN.frzL, encN.clean, encN.cleanL, setE_frz encN, setE_clean encN, ln_frz, ln_clean, lns_frz, lns_clean, pt_frz, pt_clean, pts_frz, pts_clean, pr_frz, pr_clean, frz_scr, frz_app, List.map_append, List.length_append, List.length_map, decide_true, decide_false, and_self, runF, evSs, evS, evT, evE, evAnd, evOr, evAndE, evOrE, evEs, evO, evC, evI, env0, endF, one, two, three, Eng.many, meth, chk, putD, appD, isLst, Eng.kept, Eng.kill, bindT, setAll, Tgt.slots, Exs.isNil, Ex.pure, Exs.pure, Ox.pure, Itr.pure, Ex.vars, Exs.vars, Ox.vars, Itr.vars, popD, popAtD, deepD, getP, putP, evP, callIO, ioArgs, ioSlot, ioOk, ioOut, ioV, ioClean, outs_from, outsGo, List.lookup_cons, List.lookup_nil, List.any_cons, List.any_nil, List.all_cons, List.all_nil, Exs.toList, Ex.isVar, frzE, cleanE, D.clean, cleanL, D.frz, frzL, frz_frz, frzL_frz, tru, get0_cons_zero, get0_cons_succ, get0_nil, List.set_cons_zero, List.set_cons_succ, frzAt_from, frzFrom, List.elem_cons, List.elem_nil, Nat.reduceBEq, List.length_cons, List.length_nil, List.map_cons, List.map_nil, List.replicate_succ, List.replicate_zero, List.cons_append, List.nil_append, List.append_nil, Option.map_some, Option.map_none, Option.bind_some, Option.bind_none, Nat.reduceSub, Nat.reduceAdd, List.range_eq_nil, Bool.not_false, Bool.not_true, Bool.or_true, Bool.true_or, Bool.or_false, Bool.false_or, Bool.and_true, Bool.true_and, Bool.and_false, Bool.false_and, Bool.not_not, Bool.false_eq_true, if_true, if_false, reduceIte, reduceCtorEq, x_blt_len, x_blt_int, x_blt_str, x_blt_list, x_blt_tuple, x_blt_max, x_blt_min, x_blt_sset, x_blt_sorted, x_sorted, x_sortd, x_mth_join, x_mth_upper, x_mth_index, x_isi_str_non, x_isi_str_bl, x_isi_str_int, x_isi_str_str, x_isi_str_lst, x_isi_str_tup, x_isi_str_dct, x_isi_int_non, x_isi_int_bl, x_isi_int_int, x_isi_int_str, x_isi_int_lst, x_isi_int_tup, x_isi_int_dct, x_isi_bool_non, x_isi_bool_bl, x_isi_bool_int, x_isi_bool_str, x_isi_bool_lst, x_isi_bool_tup, x_isi_bool_dct, x_isi_tuple_non, x_isi_tuple_bl, x_isi_tuple_int, x_isi_tuple_str, x_isi_tuple_lst, x_isi_tuple_tup, x_isi_tuple_dct, x_isi_list_non, x_isi_list_bl, x_isi_list_int, x_isi_list_str, x_isi_list_lst, x_isi_list_tup, x_isi_list_dct, x_tru_non, x_tru_bl, x_tru_int, x_tru_str, x_tru_lst, x_tru_tup, x_neg, x_sub_lst, x_sub_tup, x_sub_str, x_sub_dct, x_cut_lst, x_cut_tup, x_cut_str, x_len_str, x_len_lst, x_len_tup, x_len_dct, x_int_int, x_int_bl, x_str_int, x_list_lst, x_list_tup, x_list_dct, x_tuple_lst, x_tuple_tup, x_max, x_min, x_add_int, x_add_str, x_add_lst, x_add_tup, x_sub_int, x_mul, x_muls, x_fdiv, x_mod, x_pow, x_cmp_eq, x_cmp_ne, x_cmp_lt, x_cmp_le, x_cmp_gt, x_cmp_ge, x_cmp_isin, x_cmp_notin, x_cmp_is, x_cmp_isnot, x_lt_int, x_le_int, x_gt_int, x_ge_int, x_lt_str, x_le_str, x_is_non, x_is_bl, x_is_bl_non, x_is_int_non, x_is_str_non, x_is_lst_non, x_is_tup_non, x_is_dct_non, x_in_lst, x_in_tup, x_in_dct, x_in_str, x_wk_lst, x_wk_tup, x_wk_str, x_li, x_di_lst, x_di_tup, x_rg1, x_rg2, x_rg3, x_oi, x_db, x_bnm, x_btp, x_dput, x_dput_dct, x_key_int, x_key_str, x_rep_lst, x_rep_tup, x_rep_dct, x_sb1_lst, x_sb1_tup, x_sb1_dct, x_app1, x_eq_int, x_eq_bl]
theorem ad_ok (S : Sem0) (L : List Nm) (a : Nm) (hL : L.length ≤ 1000) : runF S f_law_added [.lst true (L.map tx), tx a] = some (.non, [some (.lst true ((insA L a).map tx)), none]) := by
  have ei := encN.inL false L a
  have ff : fits (L.length + 1) = true := fit_le (by omega)
  unfold insA
  by_cases h : a ∈ L
  · simp only [h, decide_true] at ei
    rw [if_pos h]
    simp only [f_law_added, ei, f0, f1, f2, f3, f4, f5, f6, f7, f8, encN.frz, encN.frzL, encN.clean, encN.cleanL, setE_frz encN, setE_clean encN, ln_frz, ln_clean, lns_frz, lns_clean, pt_frz, pt_clean, pts_frz, pts_clean, pr_frz, pr_clean, frz_scr, frz_app, List.map_append, List.length_append, List.length_map, decide_true, decide_false, and_self, runF, evSs, evS, evT, evE, evAnd, evOr, evAndE, evOrE, evEs, evO, evC, evI, env0, endF, one, two, three, Eng.many, meth, chk, putD, appD, isLst, Eng.kept, Eng.kill, bindT, setAll, Tgt.slots, Exs.isNil, Ex.pure, Exs.pure, Ox.pure, Itr.pure, Ex.vars, Exs.vars, Ox.vars, Itr.vars, popD, popAtD, deepD, getP, putP, evP, callIO, ioArgs, ioSlot, ioOk, ioOut, ioV, ioClean, outs_from, outsGo, List.lookup_cons, List.lookup_nil, List.any_cons, List.any_nil, List.all_cons, List.all_nil, Exs.toList, Ex.isVar, frzE, cleanE, D.clean, cleanL, D.frz, frzL, frz_frz, frzL_frz, tru, get0_cons_zero, get0_cons_succ, get0_nil, List.set_cons_zero, List.set_cons_succ, frzAt_from, frzFrom, List.elem_cons, List.elem_nil, Nat.reduceBEq, List.length_cons, List.length_nil, List.map_cons, List.map_nil, List.replicate_succ, List.replicate_zero, List.cons_append, List.nil_append, List.append_nil, Option.map_some, Option.map_none, Option.bind_some, Option.bind_none, Nat.reduceSub, Nat.reduceAdd, List.range_eq_nil, Bool.not_false, Bool.not_true, Bool.or_true, Bool.true_or, Bool.or_false, Bool.false_or, Bool.and_true, Bool.true_and, Bool.and_false, Bool.false_and, Bool.not_not, Bool.false_eq_true, if_true, if_false, reduceIte, reduceCtorEq, x_blt_len, x_blt_int, x_blt_str, x_blt_list, x_blt_tuple, x_blt_max, x_blt_min, x_blt_sset, x_blt_sorted, x_sorted, x_sortd, x_mth_join, x_mth_upper, x_mth_index, x_isi_str_non, x_isi_str_bl, x_isi_str_int, x_isi_str_str, x_isi_str_lst, x_isi_str_tup, x_isi_str_dct, x_isi_int_non, x_isi_int_bl, x_isi_int_int, x_isi_int_str, x_isi_int_lst, x_isi_int_tup, x_isi_int_dct, x_isi_bool_non, x_isi_bool_bl, x_isi_bool_int, x_isi_bool_str, x_isi_bool_lst, x_isi_bool_tup, x_isi_bool_dct, x_isi_tuple_non, x_isi_tuple_bl, x_isi_tuple_int, x_isi_tuple_str, x_isi_tuple_lst, x_isi_tuple_tup, x_isi_tuple_dct, x_isi_list_non, x_isi_list_bl, x_isi_list_int, x_isi_list_str, x_isi_list_lst, x_isi_list_tup, x_isi_list_dct, x_tru_non, x_tru_bl, x_tru_int, x_tru_str, x_tru_lst, x_tru_tup, x_neg, x_sub_lst, x_sub_tup, x_sub_str, x_sub_dct, x_cut_lst, x_cut_tup, x_cut_str, x_len_str, x_len_lst, x_len_tup, x_len_dct, x_int_int, x_int_bl, x_str_int, x_list_lst, x_list_tup, x_list_dct, x_tuple_lst, x_tuple_tup, x_max, x_min, x_add_int, x_add_str, x_add_lst, x_add_tup, x_sub_int, x_mul, x_muls, x_fdiv, x_mod, x_pow, x_cmp_eq, x_cmp_ne, x_cmp_lt, x_cmp_le, x_cmp_gt, x_cmp_ge, x_cmp_isin, x_cmp_notin, x_cmp_is, x_cmp_isnot, x_lt_int, x_le_int, x_gt_int, x_ge_int, x_lt_str, x_le_str, x_is_non, x_is_bl, x_is_bl_non, x_is_int_non, x_is_str_non, x_is_lst_non, x_is_tup_non, x_is_dct_non, x_in_lst, x_in_tup, x_in_dct, x_in_str, x_wk_lst, x_wk_tup, x_wk_str, x_li, x_di_lst, x_di_tup, x_rg1, x_rg2, x_rg3, x_oi, x_db, x_bnm, x_btp, x_dput, x_dput_dct, x_key_int, x_key_str, x_rep_lst, x_rep_tup, x_rep_dct, x_sb1_lst, x_sb1_tup, x_sb1_dct, x_app1, x_eq_int, x_eq_bl]
  · simp only [h, decide_false] at ei
    rw [if_neg h]
    simp only [f_law_added, ei, ff, List.map_cons, List.map_nil, f0, f1, f2, f3, f4, f5, f6, f7, f8, encN.frz, encN.frzL, encN.clean, encN.cleanL, setE_frz encN, setE_clean encN, ln_frz, ln_clean, lns_frz, lns_clean, pt_frz, pt_clean, pts_frz, pts_clean, pr_frz, pr_clean, frz_scr, frz_app, List.map_append, List.length_append, List.length_map, decide_true, decide_false, and_self, runF, evSs, evS, evT, evE, evAnd, evOr, evAndE, evOrE, evEs, evO, evC, evI, env0, endF, one, two, three, Eng.many, meth, chk, putD, appD, isLst, Eng.kept, Eng.kill, bindT, setAll, Tgt.slots, Exs.isNil, Ex.pure, Exs.pure, Ox.pure, Itr.pure, Ex.vars, Exs.vars, Ox.vars, Itr.vars, popD, popAtD, deepD, getP, putP, evP, callIO, ioArgs, ioSlot, ioOk, ioOut, ioV, ioClean, outs_from, outsGo, List.lookup_cons, List.lookup_nil, List.any_cons, List.any_nil, List.all_cons, List.all_nil, Exs.toList, Ex.isVar, frzE, cleanE, D.clean, cleanL, D.frz, frzL, frz_frz, frzL_frz, tru, get0_cons_zero, get0_cons_succ, get0_nil, List.set_cons_zero, List.set_cons_succ, frzAt_from, frzFrom, List.elem_cons, List.elem_nil, Nat.reduceBEq, List.length_cons, List.length_nil, List.map_cons, List.map_nil, List.replicate_succ, List.replicate_zero, List.cons_append, List.nil_append, List.append_nil, Option.map_some, Option.map_none, Option.bind_some, Option.bind_none, Nat.reduceSub, Nat.reduceAdd, List.range_eq_nil, Bool.not_false, Bool.not_true, Bool.or_true, Bool.true_or, Bool.or_false, Bool.false_or, Bool.and_true, Bool.true_and, Bool.and_false, Bool.false_and, Bool.not_not, Bool.false_eq_true, if_true, if_false, reduceIte, reduceCtorEq, x_blt_len, x_blt_int, x_blt_str, x_blt_list, x_blt_tuple, x_blt_max, x_blt_min, x_blt_sset, x_blt_sorted, x_sorted, x_sortd, x_mth_join, x_mth_upper, x_mth_index, x_isi_str_non, x_isi_str_bl, x_isi_str_int, x_isi_str_str, x_isi_str_lst, x_isi_str_tup, x_isi_str_dct, x_isi_int_non, x_isi_int_bl, x_isi_int_int, x_isi_int_str, x_isi_int_lst, x_isi_int_tup, x_isi_int_dct, x_isi_bool_non, x_isi_bool_bl, x_isi_bool_int, x_isi_bool_str, x_isi_bool_lst, x_isi_bool_tup, x_isi_bool_dct, x_isi_tuple_non, x_isi_tuple_bl, x_isi_tuple_int, x_isi_tuple_str, x_isi_tuple_lst, x_isi_tuple_tup, x_isi_tuple_dct, x_isi_list_non, x_isi_list_bl, x_isi_list_int, x_isi_list_str, x_isi_list_lst, x_isi_list_tup, x_isi_list_dct, x_tru_non, x_tru_bl, x_tru_int, x_tru_str, x_tru_lst, x_tru_tup, x_neg, x_sub_lst, x_sub_tup, x_sub_str, x_sub_dct, x_cut_lst, x_cut_tup, x_cut_str, x_len_str, x_len_lst, x_len_tup, x_len_dct, x_int_int, x_int_bl, x_str_int, x_list_lst, x_list_tup, x_list_dct, x_tuple_lst, x_tuple_tup, x_max, x_min, x_add_int, x_add_str, x_add_lst, x_add_tup, x_sub_int, x_mul, x_muls, x_fdiv, x_mod, x_pow, x_cmp_eq, x_cmp_ne, x_cmp_lt, x_cmp_le, x_cmp_gt, x_cmp_ge, x_cmp_isin, x_cmp_notin, x_cmp_is, x_cmp_isnot, x_lt_int, x_le_int, x_gt_int, x_ge_int, x_lt_str, x_le_str, x_is_non, x_is_bl, x_is_bl_non, x_is_int_non, x_is_str_non, x_is_lst_non, x_is_tup_non, x_is_dct_non, x_in_lst, x_in_tup, x_in_dct, x_in_str, x_wk_lst, x_wk_tup, x_wk_str, x_li, x_di_lst, x_di_tup, x_rg1, x_rg2, x_rg3, x_oi, x_db, x_bnm, x_btp, x_dput, x_dput_dct, x_key_int, x_key_str, x_rep_lst, x_rep_tup, x_rep_dct, x_sb1_lst, x_sb1_tup, x_sb1_dct, x_app1, x_eq_int, x_eq_bl]
end K05
namespace K05
open PySem PySem.Spec PyProof.Rows L2 RT Eng Lib
abbrev Pl := Nat × Nat
def plD (q : Pl) : D := .tup [.int (q.1 : Nat), .int (q.2 : Nat)]
theorem encQ : Enc plD where
  pur := fun _ => rfl
  lay := fun _ => rfl
  dep := fun _ => by show max 0 (max 0 0) + 1 ≤ 20; omega
  key := fun q => ⟨.tup [.num q.1, .num q.2], by
    unfold dKey
    show (if NestedKey.depth (.tup [.num q.1, .num q.2]) ≤ 8 then some _ else none) = _
    rw [if_pos (by simp [NestedKey.depth, NestedKey.depthAll])]⟩
  inj := fun a b h => by
    unfold plD at h
    injection h with h
    simp only [List.cons.injEq, D.int.injEq] at h
    exact Prod.ext (by omega) (by omega)
def plcAt (P : List Part) (i : Nat) : List Pl := (List.range i).flatMap fun k => (List.range (((P[k]?).map fun p => p.2.length).getD 0 + 1)).map fun j => (k, j)
theorem plc_succ {P : List Part} {i : Nat} {p : Part} (h : P[i]? = some p) : plcAt P (i + 1) = plcAt P i ++ (List.range (p.2.length + 1)).map fun j => (i, j) := by
  unfold plcAt
  rw [List.range_succ, List.flatMap_append]
  simp [h]
theorem plc_len {P : List Part} (h2 : ∀ p ∈ P, p.2.length ≤ 20) : ∀ i, (plcAt P i).length ≤ 21 * i
  | 0 => Nat.le_refl _
  | i + 1 => by
    have := plc_len h2 i
    unfold plcAt at this ⊢
    rw [List.range_succ, List.flatMap_append, List.length_append]
    have hb : ((P[i]?).map fun p => p.2.length).getD 0 ≤ 20 := by
      cases h : P[i]? with
      | none => exact Nat.zero_le _
      | some p => exact h2 p (List.mem_of_getElem? h)
    simp only [List.flatMap_cons, List.flatMap_nil, List.append_nil, List.length_map, List.length_range]
    omega
theorem enum_get {P : List Part} {i : Nat} {d : D} (h : ((P.map partD).mapIdx fun i x => D.tup [.int i, x])[i]? = some d) : ∃ p, P[i]? = some p ∧ d = .tup [.int (i : Nat), partD p] := by
  rw [List.getElem?_mapIdx, List.getElem?_map] at h
  cases e : P[i]? with
  | none => rw [e] at h; cases h
  | some p => rw [e] at h; cases h; exact ⟨p, rfl, rfl⟩
theorem len_ln (l : List Ln) : dLen (.tup (l.map lnD)) = some (.int (l.length : Nat)) := by
  show some (D.int ((l.map lnD).length : Nat)) = _
  rw [List.length_map]
theorem part1 (p : Part) : dSub (partD p) (.int 1) = some (.tup (p.2.map lnD)) := rfl
theorem po_ok (S : Sem0) (P : List Part) (h1 : P.length ≤ 5) (h2 : ∀ p ∈ P, p.2.length ≤ 20) : runF S f_places_of [prD P] = some (.lst true ((plcAt P P.length).map plD), [none]) := by
  obtain ⟨ρ', e, x, y, z, hρ⟩ := loopL_inv (tg := .tp [2, 3]) (b := evSs S whl f_places_of_b2) (ds := (P.map partD).mapIdx fun i x => D.tup [.int i, x]) (ρ := [some (prD P), some (.lst true []), none, none, none])
    (fun i ρ => ∃ x y z, ρ = [some (prD P), some (.lst true ((plcAt P i).map plD)), x, y, z]) (fun i ρ d ⟨x, y, z, hρ⟩ hi => by
      obtain ⟨p, hp, rfl⟩ := enum_get hi
      subst hρ
      have hb := h2 p (List.mem_of_getElem? hp)
      have hi5 := (List.getElem?_eq_some_iff.mp hp).1
      have hl := plc_len h2 i
      obtain ⟨n, hn, hr⟩ : ∃ n : Int, (p.2.length : Int) + 1 = n ∧ rangeD 0 n 1 = some ((List.range (p.2.length + 1)).map fun (k : Nat) => D.int k) := ⟨_, rfl, by
        have hr := rangeD_ok (n := (p.2.length : Int) + 1) (by omega) (by omega)
        rwa [show ((p.2.length : Int) + 1).toNat = p.2.length + 1 from by omega] at hr⟩
      rw [plc_succ hp]
      generalize plcAt P i = L at hl ⊢
      obtain ⟨ρ2, e2, w, hρ2⟩ := loopL_ix (f := fun (k : Nat) => D.int k) (tg := .nm 4) (b := evSs S whl f_places_of_b1) (l := List.range (p.2.length + 1)) (ρ := [some (prD P), some (.lst true (L.map plD)), some (.int (i : Nat)), some (partD p), z])
        (fun j ρ => ∃ w, ρ = [some (prD P), some (.lst true ((L ++ (List.range j).map fun k => (i, k)).map plD)), some (.int (i : Nat)), some (partD p), w]) (fun j ρ a ha ⟨w, hρ⟩ => by
          subst hρ
          have ea : a = j := by
            obtain ⟨hj, e⟩ := List.getElem?_eq_some_iff.mp ha
            rw [List.getElem_range] at e
            exact e.symm
          subst ea
          have hj := (List.getElem?_eq_some_iff.mp ha).1
          rw [List.length_range] at hj
          have ff : fits (L.length + (List.range a).length + 1) = true := fit_le (by rw [List.length_range]; omega)
          refine ⟨[some (prD P), some (.lst true ((L ++ (List.range a).map fun k => (i, k)).map plD)), some (.int (i : Nat)), some (partD p), some (.int (a : Nat))], [some (prD P), some (.lst true ((L ++ (List.range (a + 1)).map fun k => (i, k)).map plD)), some (.int (i : Nat)), some (partD p), some (.int (a : Nat))], rfl, ?_, _, rfl⟩
          have q : D.tup [.int (i : Nat), .int (a : Nat)] = plD (i, a) := rfl
          rw [List.range_succ]
          simp only [f_places_of_b1, q, ff, List.map_cons, List.map_nil, List.append_assoc, f0, f1, f2, f3, f4, f5, f6, f7, f8, encN.frz, encN.frzL, encN.clean, encN.cleanL, encQ.frz, encQ.frzL, encQ.clean, encQ.cleanL, srt_frz, srt_clean, ln_frz, ln_clean, lns_frz, lns_clean, pt_frz, pt_clean, pts_frz, pts_clean, pr_frz, pr_clean, frz_scr, frz_app, List.map_append, List.length_append, List.length_map, decide_true, decide_false, and_self, runF, evSs, evS, evT, evE, evAnd, evOr, evAndE, evOrE, evEs, evO, evC, evI, env0, endF, one, two, three, Eng.many, meth, chk, putD, appD, isLst, Eng.kept, Eng.kill, bindT, setAll, Tgt.slots, Exs.isNil, Ex.pure, Exs.pure, Ox.pure, Itr.pure, Ex.vars, Exs.vars, Ox.vars, Itr.vars, popD, popAtD, deepD, getP, putP, evP, callIO, ioArgs, ioSlot, ioOk, ioOut, ioV, ioClean, outs_from, outsGo, List.lookup_cons, List.lookup_nil, List.any_cons, List.any_nil, List.all_cons, List.all_nil, Exs.toList, Ex.isVar, frzE, cleanE, D.clean, cleanL, D.frz, frzL, frz_frz, frzL_frz, tru, get0_cons_zero, get0_cons_succ, get0_nil, List.set_cons_zero, List.set_cons_succ, frzAt_from, frzFrom, List.elem_cons, List.elem_nil, Nat.reduceBEq, List.length_cons, List.length_nil, List.map_cons, List.map_nil, List.replicate_succ, List.replicate_zero, List.cons_append, List.nil_append, List.append_nil, Option.map_some, Option.map_none, Option.bind_some, Option.bind_none, Nat.reduceSub, Nat.reduceAdd, List.range_eq_nil, Bool.not_false, Bool.not_true, Bool.or_true, Bool.true_or, Bool.or_false, Bool.false_or, Bool.and_true, Bool.true_and, Bool.and_false, Bool.false_and, Bool.not_not, Bool.false_eq_true, if_true, if_false, reduceIte, reduceCtorEq, x_blt_len, x_blt_int, x_blt_str, x_blt_list, x_blt_tuple, x_blt_max, x_blt_min, x_blt_sset, x_blt_sorted, x_sorted, x_sortd, x_mth_join, x_mth_upper, x_mth_index, x_isi_str_non, x_isi_str_bl, x_isi_str_int, x_isi_str_str, x_isi_str_lst, x_isi_str_tup, x_isi_str_dct, x_isi_int_non, x_isi_int_bl, x_isi_int_int, x_isi_int_str, x_isi_int_lst, x_isi_int_tup, x_isi_int_dct, x_isi_bool_non, x_isi_bool_bl, x_isi_bool_int, x_isi_bool_str, x_isi_bool_lst, x_isi_bool_tup, x_isi_bool_dct, x_isi_tuple_non, x_isi_tuple_bl, x_isi_tuple_int, x_isi_tuple_str, x_isi_tuple_lst, x_isi_tuple_tup, x_isi_tuple_dct, x_isi_list_non, x_isi_list_bl, x_isi_list_int, x_isi_list_str, x_isi_list_lst, x_isi_list_tup, x_isi_list_dct, x_tru_non, x_tru_bl, x_tru_int, x_tru_str, x_tru_lst, x_tru_tup, x_neg, x_sub_lst, x_sub_tup, x_sub_str, x_sub_dct, x_cut_lst, x_cut_tup, x_cut_str, x_len_str, x_len_lst, x_len_tup, x_len_dct, x_int_int, x_int_bl, x_str_int, x_list_lst, x_list_tup, x_list_dct, x_tuple_lst, x_tuple_tup, x_max, x_min, x_add_int, x_add_str, x_add_lst, x_add_tup, x_sub_int, x_mul, x_muls, x_fdiv, x_mod, x_pow, x_cmp_eq, x_cmp_ne, x_cmp_lt, x_cmp_le, x_cmp_gt, x_cmp_ge, x_cmp_isin, x_cmp_notin, x_cmp_is, x_cmp_isnot, x_lt_int, x_le_int, x_gt_int, x_ge_int, x_lt_str, x_le_str, x_is_non, x_is_bl, x_is_bl_non, x_is_int_non, x_is_str_non, x_is_lst_non, x_is_tup_non, x_is_dct_non, x_in_lst, x_in_tup, x_in_dct, x_in_str, x_wk_lst, x_wk_tup, x_wk_str, x_li, x_di_lst, x_di_tup, x_rg1, x_rg2, x_rg3, x_oi, x_db, x_bnm, x_btp, x_dput, x_dput_dct, x_key_int, x_key_str, x_rep_lst, x_rep_tup, x_rep_dct, x_sb1_lst, x_sb1_tup, x_sb1_dct, x_app1, x_eq_int, x_eq_bl]) ⟨z, by simp⟩
      subst hρ2
      rw [List.length_range] at e2
      refine ⟨[some (prD P), some (.lst true (L.map plD)), some (.int (i : Nat)), some (partD p), z], _, rfl, seq_nx (ρ1 := [some (prD P), some (.lst true ((L ++ (List.range (p.2.length + 1)).map fun k => (i, k)).map plD)), some (.int (i : Nat)), some (partD p), w]) ?_ rfl, _, _, _, rfl⟩
      have hll := len_ln p.2
      simp only [part1, hll, hn, hr, e2, x_blt_len, runF, evSs, evS, evT, evE, evAnd, evOr, evAndE, evOrE, evEs, evO, evC, evI, env0, endF, one, two, three, Eng.many, meth, chk, putD, appD, isLst, Eng.kept, Eng.kill, bindT, setAll, Tgt.slots, Exs.isNil, Ex.pure, Exs.pure, Ox.pure, Itr.pure, Ex.vars, Exs.vars, Ox.vars, Itr.vars, popD, popAtD, deepD, getP, putP, evP, callIO, ioArgs, ioSlot, ioOk, ioOut, ioV, ioClean, outs_from, outsGo, List.lookup_cons, List.lookup_nil, List.any_cons, List.any_nil, List.all_cons, List.all_nil, Exs.toList, Ex.isVar, frzE, cleanE, D.clean, cleanL, D.frz, frzL, frz_frz, frzL_frz, tru, get0_cons_zero, get0_cons_succ, get0_nil, List.set_cons_zero, List.set_cons_succ, frzAt_from, frzFrom, List.elem_cons, List.elem_nil, Nat.reduceBEq, List.length_cons, List.length_nil, List.map_cons, List.map_nil, List.replicate_succ, List.replicate_zero, List.cons_append, List.nil_append, List.append_nil, Option.map_some, Option.map_none, Option.bind_some, Option.bind_none, Nat.reduceSub, Nat.reduceAdd, List.range_eq_nil, Bool.not_false, Bool.not_true, Bool.or_true, Bool.true_or, Bool.or_false, Bool.false_or, Bool.and_true, Bool.true_and, Bool.and_false, Bool.false_and, Bool.not_not, Bool.false_eq_true, if_true, if_false, reduceIte, reduceCtorEq, x_blt_int, x_blt_str, x_blt_list, x_blt_tuple, x_blt_max, x_blt_min, x_blt_sset, x_blt_sorted, x_sorted, x_sortd, x_mth_join, x_mth_upper, x_mth_index, x_isi_str_non, x_isi_str_bl, x_isi_str_int, x_isi_str_str, x_isi_str_lst, x_isi_str_tup, x_isi_str_dct, x_isi_int_non, x_isi_int_bl, x_isi_int_int, x_isi_int_str, x_isi_int_lst, x_isi_int_tup, x_isi_int_dct, x_isi_bool_non, x_isi_bool_bl, x_isi_bool_int, x_isi_bool_str, x_isi_bool_lst, x_isi_bool_tup, x_isi_bool_dct, x_isi_tuple_non, x_isi_tuple_bl, x_isi_tuple_int, x_isi_tuple_str, x_isi_tuple_lst, x_isi_tuple_tup, x_isi_tuple_dct, x_isi_list_non, x_isi_list_bl, x_isi_list_int, x_isi_list_str, x_isi_list_lst, x_isi_list_tup, x_isi_list_dct, x_tru_non, x_tru_bl, x_tru_int, x_tru_str, x_tru_lst, x_tru_tup, x_neg, x_sub_lst, x_sub_tup, x_sub_str, x_sub_dct, x_cut_lst, x_cut_tup, x_cut_str, x_int_int, x_int_bl, x_str_int, x_list_lst, x_list_tup, x_list_dct, x_tuple_lst, x_tuple_tup, x_max, x_min, x_add_int, x_add_str, x_add_lst, x_add_tup, x_sub_int, x_mul, x_muls, x_fdiv, x_mod, x_pow, x_cmp_eq, x_cmp_ne, x_cmp_lt, x_cmp_le, x_cmp_gt, x_cmp_ge, x_cmp_isin, x_cmp_notin, x_cmp_is, x_cmp_isnot, x_lt_int, x_le_int, x_gt_int, x_ge_int, x_lt_str, x_le_str, x_is_non, x_is_bl, x_is_bl_non, x_is_int_non, x_is_str_non, x_is_lst_non, x_is_tup_non, x_is_dct_non, x_in_lst, x_in_tup, x_in_dct, x_in_str, x_wk_lst, x_wk_tup, x_wk_str, x_li, x_di_lst, x_di_tup, x_rg1, x_rg2, x_rg3, x_oi, x_db, x_bnm, x_btp, x_dput, x_dput_dct, x_key_int, x_key_str, x_rep_lst, x_rep_tup, x_rep_dct, x_sb1_lst, x_sb1_tup, x_sb1_dct, x_app1, x_eq_int, x_eq_bl, f0, f1, f2, f3, pt_frz, pt_clean, lns_frz, lns_clean, pr_frz, pr_clean]) ⟨none, none, none, rfl⟩
  subst hρ
  rw [List.length_mapIdx, List.length_map] at e
  have s1 : evS S whl (.set 1 (.lst .nil)) [some (prD P), none, none, none, none] = some (.nx [some (prD P), some (.lst true []), none, none, none]) := by simp only [f0, f1, f2, f3, f4, f5, f6, f7, f8, encN.frz, encN.frzL, encN.clean, encN.cleanL, encQ.frz, encQ.frzL, encQ.clean, encQ.cleanL, srt_frz, srt_clean, ln_frz, ln_clean, lns_frz, lns_clean, pt_frz, pt_clean, pts_frz, pts_clean, pr_frz, pr_clean, frz_scr, frz_app, List.map_append, List.length_append, List.length_map, decide_true, decide_false, and_self, runF, evSs, evS, evT, evE, evAnd, evOr, evAndE, evOrE, evEs, evO, evC, evI, env0, endF, one, two, three, Eng.many, meth, chk, putD, appD, isLst, Eng.kept, Eng.kill, bindT, setAll, Tgt.slots, Exs.isNil, Ex.pure, Exs.pure, Ox.pure, Itr.pure, Ex.vars, Exs.vars, Ox.vars, Itr.vars, popD, popAtD, deepD, getP, putP, evP, callIO, ioArgs, ioSlot, ioOk, ioOut, ioV, ioClean, outs_from, outsGo, List.lookup_cons, List.lookup_nil, List.any_cons, List.any_nil, List.all_cons, List.all_nil, Exs.toList, Ex.isVar, frzE, cleanE, D.clean, cleanL, D.frz, frzL, frz_frz, frzL_frz, tru, get0_cons_zero, get0_cons_succ, get0_nil, List.set_cons_zero, List.set_cons_succ, frzAt_from, frzFrom, List.elem_cons, List.elem_nil, Nat.reduceBEq, List.length_cons, List.length_nil, List.map_cons, List.map_nil, List.replicate_succ, List.replicate_zero, List.cons_append, List.nil_append, List.append_nil, Option.map_some, Option.map_none, Option.bind_some, Option.bind_none, Nat.reduceSub, Nat.reduceAdd, List.range_eq_nil, Bool.not_false, Bool.not_true, Bool.or_true, Bool.true_or, Bool.or_false, Bool.false_or, Bool.and_true, Bool.true_and, Bool.and_false, Bool.false_and, Bool.not_not, Bool.false_eq_true, if_true, if_false, reduceIte, reduceCtorEq, x_blt_len, x_blt_int, x_blt_str, x_blt_list, x_blt_tuple, x_blt_max, x_blt_min, x_blt_sset, x_blt_sorted, x_sorted, x_sortd, x_mth_join, x_mth_upper, x_mth_index, x_isi_str_non, x_isi_str_bl, x_isi_str_int, x_isi_str_str, x_isi_str_lst, x_isi_str_tup, x_isi_str_dct, x_isi_int_non, x_isi_int_bl, x_isi_int_int, x_isi_int_str, x_isi_int_lst, x_isi_int_tup, x_isi_int_dct, x_isi_bool_non, x_isi_bool_bl, x_isi_bool_int, x_isi_bool_str, x_isi_bool_lst, x_isi_bool_tup, x_isi_bool_dct, x_isi_tuple_non, x_isi_tuple_bl, x_isi_tuple_int, x_isi_tuple_str, x_isi_tuple_lst, x_isi_tuple_tup, x_isi_tuple_dct, x_isi_list_non, x_isi_list_bl, x_isi_list_int, x_isi_list_str, x_isi_list_lst, x_isi_list_tup, x_isi_list_dct, x_tru_non, x_tru_bl, x_tru_int, x_tru_str, x_tru_lst, x_tru_tup, x_neg, x_sub_lst, x_sub_tup, x_sub_str, x_sub_dct, x_cut_lst, x_cut_tup, x_cut_str, x_len_str, x_len_lst, x_len_tup, x_len_dct, x_int_int, x_int_bl, x_str_int, x_list_lst, x_list_tup, x_list_dct, x_tuple_lst, x_tuple_tup, x_max, x_min, x_add_int, x_add_str, x_add_lst, x_add_tup, x_sub_int, x_mul, x_muls, x_fdiv, x_mod, x_pow, x_cmp_eq, x_cmp_ne, x_cmp_lt, x_cmp_le, x_cmp_gt, x_cmp_ge, x_cmp_isin, x_cmp_notin, x_cmp_is, x_cmp_isnot, x_lt_int, x_le_int, x_gt_int, x_ge_int, x_lt_str, x_le_str, x_is_non, x_is_bl, x_is_bl_non, x_is_int_non, x_is_str_non, x_is_lst_non, x_is_tup_non, x_is_dct_non, x_in_lst, x_in_tup, x_in_dct, x_in_str, x_wk_lst, x_wk_tup, x_wk_str, x_li, x_di_lst, x_di_tup, x_rg1, x_rg2, x_rg3, x_oi, x_db, x_bnm, x_btp, x_dput, x_dput_dct, x_key_int, x_key_str, x_rep_lst, x_rep_tup, x_rep_dct, x_sb1_lst, x_sb1_tup, x_sb1_dct, x_app1, x_eq_int, x_eq_bl]
  have en : enumD (prD P) = some ((P.map partD).mapIdx fun i x => D.tup [.int i, x]) := rfl
  have s2 : evS S whl (.loop (.tp [2, 3]) (.enum (.var 0)) f_places_of_b2) [some (prD P), some (.lst true []), none, none, none] = some (.nx [some (prD P), some (.lst true ((plcAt P P.length).map plD)), x, y, z]) := by
    simp only [en, e, f0, f1, f2, f3, f4, f5, f6, f7, f8, encN.frz, encN.frzL, encN.clean, encN.cleanL, encQ.frz, encQ.frzL, encQ.clean, encQ.cleanL, srt_frz, srt_clean, ln_frz, ln_clean, lns_frz, lns_clean, pt_frz, pt_clean, pts_frz, pts_clean, pr_frz, pr_clean, frz_scr, frz_app, List.map_append, List.length_append, List.length_map, decide_true, decide_false, and_self, runF, evSs, evS, evT, evE, evAnd, evOr, evAndE, evOrE, evEs, evO, evC, evI, env0, endF, one, two, three, Eng.many, meth, chk, putD, appD, isLst, Eng.kept, Eng.kill, bindT, setAll, Tgt.slots, Exs.isNil, Ex.pure, Exs.pure, Ox.pure, Itr.pure, Ex.vars, Exs.vars, Ox.vars, Itr.vars, popD, popAtD, deepD, getP, putP, evP, callIO, ioArgs, ioSlot, ioOk, ioOut, ioV, ioClean, outs_from, outsGo, List.lookup_cons, List.lookup_nil, List.any_cons, List.any_nil, List.all_cons, List.all_nil, Exs.toList, Ex.isVar, frzE, cleanE, D.clean, cleanL, D.frz, frzL, frz_frz, frzL_frz, tru, get0_cons_zero, get0_cons_succ, get0_nil, List.set_cons_zero, List.set_cons_succ, frzAt_from, frzFrom, List.elem_cons, List.elem_nil, Nat.reduceBEq, List.length_cons, List.length_nil, List.map_cons, List.map_nil, List.replicate_succ, List.replicate_zero, List.cons_append, List.nil_append, List.append_nil, Option.map_some, Option.map_none, Option.bind_some, Option.bind_none, Nat.reduceSub, Nat.reduceAdd, List.range_eq_nil, Bool.not_false, Bool.not_true, Bool.or_true, Bool.true_or, Bool.or_false, Bool.false_or, Bool.and_true, Bool.true_and, Bool.and_false, Bool.false_and, Bool.not_not, Bool.false_eq_true, if_true, if_false, reduceIte, reduceCtorEq, x_blt_len, x_blt_int, x_blt_str, x_blt_list, x_blt_tuple, x_blt_max, x_blt_min, x_blt_sset, x_blt_sorted, x_sorted, x_sortd, x_mth_join, x_mth_upper, x_mth_index, x_isi_str_non, x_isi_str_bl, x_isi_str_int, x_isi_str_str, x_isi_str_lst, x_isi_str_tup, x_isi_str_dct, x_isi_int_non, x_isi_int_bl, x_isi_int_int, x_isi_int_str, x_isi_int_lst, x_isi_int_tup, x_isi_int_dct, x_isi_bool_non, x_isi_bool_bl, x_isi_bool_int, x_isi_bool_str, x_isi_bool_lst, x_isi_bool_tup, x_isi_bool_dct, x_isi_tuple_non, x_isi_tuple_bl, x_isi_tuple_int, x_isi_tuple_str, x_isi_tuple_lst, x_isi_tuple_tup, x_isi_tuple_dct, x_isi_list_non, x_isi_list_bl, x_isi_list_int, x_isi_list_str, x_isi_list_lst, x_isi_list_tup, x_isi_list_dct, x_tru_non, x_tru_bl, x_tru_int, x_tru_str, x_tru_lst, x_tru_tup, x_neg, x_sub_lst, x_sub_tup, x_sub_str, x_sub_dct, x_cut_lst, x_cut_tup, x_cut_str, x_len_str, x_len_lst, x_len_tup, x_len_dct, x_int_int, x_int_bl, x_str_int, x_list_lst, x_list_tup, x_list_dct, x_tuple_lst, x_tuple_tup, x_max, x_min, x_add_int, x_add_str, x_add_lst, x_add_tup, x_sub_int, x_mul, x_muls, x_fdiv, x_mod, x_pow, x_cmp_eq, x_cmp_ne, x_cmp_lt, x_cmp_le, x_cmp_gt, x_cmp_ge, x_cmp_isin, x_cmp_notin, x_cmp_is, x_cmp_isnot, x_lt_int, x_le_int, x_gt_int, x_ge_int, x_lt_str, x_le_str, x_is_non, x_is_bl, x_is_bl_non, x_is_int_non, x_is_str_non, x_is_lst_non, x_is_tup_non, x_is_dct_non, x_in_lst, x_in_tup, x_in_dct, x_in_str, x_wk_lst, x_wk_tup, x_wk_str, x_li, x_di_lst, x_di_tup, x_rg1, x_rg2, x_rg3, x_oi, x_db, x_bnm, x_btp, x_dput, x_dput_dct, x_key_int, x_key_str, x_rep_lst, x_rep_tup, x_rep_dct, x_sb1_lst, x_sb1_tup, x_sb1_dct, x_app1, x_eq_int, x_eq_bl]
  refine run_of rfl (seq_nx s1 (seq_nx s2 (seq_rt (d := .lst true ((plcAt P P.length).map plD)) (ρ1 := [some (prD P), none, x, y, z]) ?_))) rfl
  simp only [f0, f1, f2, f3, f4, f5, f6, f7, f8, encN.frz, encN.frzL, encN.clean, encN.cleanL, encQ.frz, encQ.frzL, encQ.clean, encQ.cleanL, srt_frz, srt_clean, ln_frz, ln_clean, lns_frz, lns_clean, pt_frz, pt_clean, pts_frz, pts_clean, pr_frz, pr_clean, frz_scr, frz_app, List.map_append, List.length_append, List.length_map, decide_true, decide_false, and_self, runF, evSs, evS, evT, evE, evAnd, evOr, evAndE, evOrE, evEs, evO, evC, evI, env0, endF, one, two, three, Eng.many, meth, chk, putD, appD, isLst, Eng.kept, Eng.kill, bindT, setAll, Tgt.slots, Exs.isNil, Ex.pure, Exs.pure, Ox.pure, Itr.pure, Ex.vars, Exs.vars, Ox.vars, Itr.vars, popD, popAtD, deepD, getP, putP, evP, callIO, ioArgs, ioSlot, ioOk, ioOut, ioV, ioClean, outs_from, outsGo, List.lookup_cons, List.lookup_nil, List.any_cons, List.any_nil, List.all_cons, List.all_nil, Exs.toList, Ex.isVar, frzE, cleanE, D.clean, cleanL, D.frz, frzL, frz_frz, frzL_frz, tru, get0_cons_zero, get0_cons_succ, get0_nil, List.set_cons_zero, List.set_cons_succ, frzAt_from, frzFrom, List.elem_cons, List.elem_nil, Nat.reduceBEq, List.length_cons, List.length_nil, List.map_cons, List.map_nil, List.replicate_succ, List.replicate_zero, List.cons_append, List.nil_append, List.append_nil, Option.map_some, Option.map_none, Option.bind_some, Option.bind_none, Nat.reduceSub, Nat.reduceAdd, List.range_eq_nil, Bool.not_false, Bool.not_true, Bool.or_true, Bool.true_or, Bool.or_false, Bool.false_or, Bool.and_true, Bool.true_and, Bool.and_false, Bool.false_and, Bool.not_not, Bool.false_eq_true, if_true, if_false, reduceIte, reduceCtorEq, x_blt_len, x_blt_int, x_blt_str, x_blt_list, x_blt_tuple, x_blt_max, x_blt_min, x_blt_sset, x_blt_sorted, x_sorted, x_sortd, x_mth_join, x_mth_upper, x_mth_index, x_isi_str_non, x_isi_str_bl, x_isi_str_int, x_isi_str_str, x_isi_str_lst, x_isi_str_tup, x_isi_str_dct, x_isi_int_non, x_isi_int_bl, x_isi_int_int, x_isi_int_str, x_isi_int_lst, x_isi_int_tup, x_isi_int_dct, x_isi_bool_non, x_isi_bool_bl, x_isi_bool_int, x_isi_bool_str, x_isi_bool_lst, x_isi_bool_tup, x_isi_bool_dct, x_isi_tuple_non, x_isi_tuple_bl, x_isi_tuple_int, x_isi_tuple_str, x_isi_tuple_lst, x_isi_tuple_tup, x_isi_tuple_dct, x_isi_list_non, x_isi_list_bl, x_isi_list_int, x_isi_list_str, x_isi_list_lst, x_isi_list_tup, x_isi_list_dct, x_tru_non, x_tru_bl, x_tru_int, x_tru_str, x_tru_lst, x_tru_tup, x_neg, x_sub_lst, x_sub_tup, x_sub_str, x_sub_dct, x_cut_lst, x_cut_tup, x_cut_str, x_len_str, x_len_lst, x_len_tup, x_len_dct, x_int_int, x_int_bl, x_str_int, x_list_lst, x_list_tup, x_list_dct, x_tuple_lst, x_tuple_tup, x_max, x_min, x_add_int, x_add_str, x_add_lst, x_add_tup, x_sub_int, x_mul, x_muls, x_fdiv, x_mod, x_pow, x_cmp_eq, x_cmp_ne, x_cmp_lt, x_cmp_le, x_cmp_gt, x_cmp_ge, x_cmp_isin, x_cmp_notin, x_cmp_is, x_cmp_isnot, x_lt_int, x_le_int, x_gt_int, x_ge_int, x_lt_str, x_le_str, x_is_non, x_is_bl, x_is_bl_non, x_is_int_non, x_is_str_non, x_is_lst_non, x_is_tup_non, x_is_dct_non, x_in_lst, x_in_tup, x_in_dct, x_in_str, x_wk_lst, x_wk_tup, x_wk_str, x_li, x_di_lst, x_di_tup, x_rg1, x_rg2, x_rg3, x_oi, x_db, x_bnm, x_btp, x_dput, x_dput_dct, x_key_int, x_key_str, x_rep_lst, x_rep_tup, x_rep_dct, x_sb1_lst, x_sb1_tup, x_sb1_dct, x_app1, x_eq_int, x_eq_bl]
end K05
namespace K05
open PySem PySem.Spec PyProof.Rows L2 RT Eng Lib
abbrev DEnv (P : List Part) (L W : List Nm) (Q : List Pl) (num part line k : Option D) : Rho := [some (prD P), some (.lst true (L.map tx)), some (.lst true (W.map tx)), some (.lst true (Q.map plD)), num, part, line, k]
section
variable (S : Sem0) (P : List Part) (had : ∀ (L : List Nm) (a : Nm), L.length ≤ 1000 → S.call "_law_added" [.lst true (L.map tx), tx a] = some (.non, [some (.lst true ((insA L a).map tx)), none]))
include had
theorem due_b1 (L W : List Nm) (hL : L.length ≤ 500) (hW : W.length ≤ 500) (Q : List Pl) (num part k : Option D) (n : Ln) :
    evSs S whl f_law_due_b1 (DEnv P L W Q num part (some (lnD n)) k) = some (.nx (DEnv P (ins L (bxd n)) (ins W (wx n)) Q num part (some (lnD n)) k)) := by
  have e1 := e_pair n
  have e2 := i_six n
  have e3 := i_thr n
  have e4 := sub0 n
  have g6 : D.tup [.str "pair", .str "first", .str "second", .str "same", .str "none", .str "tell"] = six := rfl
  have g3 : D.tup [.str "first", .str "second", .str "same"] = thr := rfl
  have z6 : six.frz = six := rfl
  have z3 : thr.frz = thr := rfl
  cases n with
  | pair x w y z =>
    have a1 : dSub (lnD (.pair x w y z)) (.int 1) = some (tx x) := rfl
    have a2 : dSub (lnD (.pair x w y z)) (.int 2) = some (tx w) := rfl
    have a3 : dSub (lnD (.pair x w y z)) (.int 3) = some (tx y) := rfl
    have a4 : dSub (lnD (.pair x w y z)) (.int 4) = some (tx z) := rfl
    have c1 := had W w (by omega)
    have c2 := had L y (by omega)
    have l2 := insA_len (l := L) (a := y)
    have c3 := had (insA L y) z (by omega)
    have l3 := insA_len (l := insA L y) (a := z)
    have c4 := had (insA (insA L y) z) x (by omega)
    simp only [DEnv, f_law_due_b1, e1, e2, e3, e4, g6, g3, z6, z3, a1, a2, a3, a4, c1, c2, c3, c4, isPair, isTwo, isOne, bxd, wx, ins, List.foldl_cons, List.foldl_nil, f0, f1, f2, f3, f4, f5, f6, f7, f8, encN.frz, encN.frzL, encN.clean, encN.cleanL, encQ.frz, encQ.frzL, encQ.clean, encQ.cleanL, srt_frz, srt_clean, ln_frz, ln_clean, lns_frz, lns_clean, pt_frz, pt_clean, pts_frz, pts_clean, pr_frz, pr_clean, frz_scr, frz_app, List.map_append, List.length_append, List.length_map, decide_true, decide_false, and_self, runF, evSs, evS, evT, evE, evAnd, evOr, evAndE, evOrE, evEs, evO, evC, evI, env0, endF, one, two, three, Eng.many, meth, chk, putD, appD, isLst, Eng.kept, Eng.kill, bindT, setAll, Tgt.slots, Exs.isNil, Ex.pure, Exs.pure, Ox.pure, Itr.pure, Ex.vars, Exs.vars, Ox.vars, Itr.vars, popD, popAtD, deepD, getP, putP, evP, callIO, ioArgs, ioSlot, ioOk, ioOut, ioV, ioClean, outs_from, outsGo, List.lookup_cons, List.lookup_nil, List.any_cons, List.any_nil, List.all_cons, List.all_nil, Exs.toList, Ex.isVar, frzE, cleanE, D.clean, cleanL, D.frz, frzL, frz_frz, frzL_frz, tru, get0_cons_zero, get0_cons_succ, get0_nil, List.set_cons_zero, List.set_cons_succ, frzAt_from, frzFrom, List.elem_cons, List.elem_nil, Nat.reduceBEq, List.length_cons, List.length_nil, List.map_cons, List.map_nil, List.replicate_succ, List.replicate_zero, List.cons_append, List.nil_append, List.append_nil, Option.map_some, Option.map_none, Option.bind_some, Option.bind_none, Option.isSome_some, Option.isSome_none, Nat.reduceSub, Nat.reduceAdd, List.range_eq_nil, Bool.not_false, Bool.not_true, Bool.or_true, Bool.true_or, Bool.or_false, Bool.false_or, Bool.and_true, Bool.true_and, Bool.and_false, Bool.false_and, Bool.not_not, Bool.false_eq_true, if_true, if_false, reduceIte, reduceCtorEq, x_blt_len, x_blt_int, x_blt_str, x_blt_list, x_blt_tuple, x_blt_max, x_blt_min, x_blt_sset, x_blt_sorted, x_sorted, x_sortd, x_mth_join, x_mth_upper, x_mth_index, x_isi_str_non, x_isi_str_bl, x_isi_str_int, x_isi_str_str, x_isi_str_lst, x_isi_str_tup, x_isi_str_dct, x_isi_int_non, x_isi_int_bl, x_isi_int_int, x_isi_int_str, x_isi_int_lst, x_isi_int_tup, x_isi_int_dct, x_isi_bool_non, x_isi_bool_bl, x_isi_bool_int, x_isi_bool_str, x_isi_bool_lst, x_isi_bool_tup, x_isi_bool_dct, x_isi_tuple_non, x_isi_tuple_bl, x_isi_tuple_int, x_isi_tuple_str, x_isi_tuple_lst, x_isi_tuple_tup, x_isi_tuple_dct, x_isi_list_non, x_isi_list_bl, x_isi_list_int, x_isi_list_str, x_isi_list_lst, x_isi_list_tup, x_isi_list_dct, x_tru_non, x_tru_bl, x_tru_int, x_tru_str, x_tru_lst, x_tru_tup, x_neg, x_sub_lst, x_sub_tup, x_sub_str, x_sub_dct, x_cut_lst, x_cut_tup, x_cut_str, x_len_str, x_len_lst, x_len_tup, x_len_dct, x_int_int, x_int_bl, x_str_int, x_list_lst, x_list_tup, x_list_dct, x_tuple_lst, x_tuple_tup, x_max, x_min, x_add_int, x_add_str, x_add_lst, x_add_tup, x_sub_int, x_mul, x_muls, x_fdiv, x_mod, x_pow, x_cmp_eq, x_cmp_ne, x_cmp_lt, x_cmp_le, x_cmp_gt, x_cmp_ge, x_cmp_isin, x_cmp_notin, x_cmp_is, x_cmp_isnot, x_lt_int, x_le_int, x_gt_int, x_ge_int, x_lt_str, x_le_str, x_is_non, x_is_bl, x_is_bl_non, x_is_int_non, x_is_str_non, x_is_lst_non, x_is_tup_non, x_is_dct_non, x_in_lst, x_in_tup, x_in_dct, x_in_str, x_wk_lst, x_wk_tup, x_wk_str, x_li, x_di_lst, x_di_tup, x_rg1, x_rg2, x_rg3, x_oi, x_db, x_bnm, x_btp, x_dput, x_dput_dct, x_key_int, x_key_str, x_rep_lst, x_rep_tup, x_rep_dct, x_sb1_lst, x_sb1_tup, x_sb1_dct, x_app1, x_eq_int, x_eq_bl]
  | two q x y =>
    have a1 : dSub (lnD (.two q x y)) (.int 1) = some (tx x) := rfl
    have a2 : dSub (lnD (.two q x y)) (.int 2) = some (tx y) := rfl
    have c2 := had L x (by omega)
    have l2 := insA_len (l := L) (a := x)
    have c3 := had (insA L x) y (by omega)
    simp only [DEnv, f_law_due_b1, e1, e2, e3, e4, g6, g3, z6, z3, a1, a2, c2, c3, isPair, isTwo, isOne, bxd, wx, ins, List.foldl_cons, List.foldl_nil, f0, f1, f2, f3, f4, f5, f6, f7, f8, encN.frz, encN.frzL, encN.clean, encN.cleanL, encQ.frz, encQ.frzL, encQ.clean, encQ.cleanL, srt_frz, srt_clean, ln_frz, ln_clean, lns_frz, lns_clean, pt_frz, pt_clean, pts_frz, pts_clean, pr_frz, pr_clean, frz_scr, frz_app, List.map_append, List.length_append, List.length_map, decide_true, decide_false, and_self, runF, evSs, evS, evT, evE, evAnd, evOr, evAndE, evOrE, evEs, evO, evC, evI, env0, endF, one, two, three, Eng.many, meth, chk, putD, appD, isLst, Eng.kept, Eng.kill, bindT, setAll, Tgt.slots, Exs.isNil, Ex.pure, Exs.pure, Ox.pure, Itr.pure, Ex.vars, Exs.vars, Ox.vars, Itr.vars, popD, popAtD, deepD, getP, putP, evP, callIO, ioArgs, ioSlot, ioOk, ioOut, ioV, ioClean, outs_from, outsGo, List.lookup_cons, List.lookup_nil, List.any_cons, List.any_nil, List.all_cons, List.all_nil, Exs.toList, Ex.isVar, frzE, cleanE, D.clean, cleanL, D.frz, frzL, frz_frz, frzL_frz, tru, get0_cons_zero, get0_cons_succ, get0_nil, List.set_cons_zero, List.set_cons_succ, frzAt_from, frzFrom, List.elem_cons, List.elem_nil, Nat.reduceBEq, List.length_cons, List.length_nil, List.map_cons, List.map_nil, List.replicate_succ, List.replicate_zero, List.cons_append, List.nil_append, List.append_nil, Option.map_some, Option.map_none, Option.bind_some, Option.bind_none, Option.isSome_some, Option.isSome_none, Nat.reduceSub, Nat.reduceAdd, List.range_eq_nil, Bool.not_false, Bool.not_true, Bool.or_true, Bool.true_or, Bool.or_false, Bool.false_or, Bool.and_true, Bool.true_and, Bool.and_false, Bool.false_and, Bool.not_not, Bool.false_eq_true, if_true, if_false, reduceIte, reduceCtorEq, x_blt_len, x_blt_int, x_blt_str, x_blt_list, x_blt_tuple, x_blt_max, x_blt_min, x_blt_sset, x_blt_sorted, x_sorted, x_sortd, x_mth_join, x_mth_upper, x_mth_index, x_isi_str_non, x_isi_str_bl, x_isi_str_int, x_isi_str_str, x_isi_str_lst, x_isi_str_tup, x_isi_str_dct, x_isi_int_non, x_isi_int_bl, x_isi_int_int, x_isi_int_str, x_isi_int_lst, x_isi_int_tup, x_isi_int_dct, x_isi_bool_non, x_isi_bool_bl, x_isi_bool_int, x_isi_bool_str, x_isi_bool_lst, x_isi_bool_tup, x_isi_bool_dct, x_isi_tuple_non, x_isi_tuple_bl, x_isi_tuple_int, x_isi_tuple_str, x_isi_tuple_lst, x_isi_tuple_tup, x_isi_tuple_dct, x_isi_list_non, x_isi_list_bl, x_isi_list_int, x_isi_list_str, x_isi_list_lst, x_isi_list_tup, x_isi_list_dct, x_tru_non, x_tru_bl, x_tru_int, x_tru_str, x_tru_lst, x_tru_tup, x_neg, x_sub_lst, x_sub_tup, x_sub_str, x_sub_dct, x_cut_lst, x_cut_tup, x_cut_str, x_len_str, x_len_lst, x_len_tup, x_len_dct, x_int_int, x_int_bl, x_str_int, x_list_lst, x_list_tup, x_list_dct, x_tuple_lst, x_tuple_tup, x_max, x_min, x_add_int, x_add_str, x_add_lst, x_add_tup, x_sub_int, x_mul, x_muls, x_fdiv, x_mod, x_pow, x_cmp_eq, x_cmp_ne, x_cmp_lt, x_cmp_le, x_cmp_gt, x_cmp_ge, x_cmp_isin, x_cmp_notin, x_cmp_is, x_cmp_isnot, x_lt_int, x_le_int, x_gt_int, x_ge_int, x_lt_str, x_le_str, x_is_non, x_is_bl, x_is_bl_non, x_is_int_non, x_is_str_non, x_is_lst_non, x_is_tup_non, x_is_dct_non, x_in_lst, x_in_tup, x_in_dct, x_in_str, x_wk_lst, x_wk_tup, x_wk_str, x_li, x_di_lst, x_di_tup, x_rg1, x_rg2, x_rg3, x_oi, x_db, x_bnm, x_btp, x_dput, x_dput_dct, x_key_int, x_key_str, x_rep_lst, x_rep_tup, x_rep_dct, x_sb1_lst, x_sb1_tup, x_sb1_dct, x_app1, x_eq_int, x_eq_bl]
  | one q x =>
    have a1 : dSub (lnD (.one q x)) (.int 1) = some (tx x) := rfl
    have c2 := had L x (by omega)
    simp only [DEnv, f_law_due_b1, e1, e2, e3, e4, g6, g3, z6, z3, a1, c2, isPair, isTwo, isOne, bxd, wx, ins, List.foldl_cons, List.foldl_nil, f0, f1, f2, f3, f4, f5, f6, f7, f8, encN.frz, encN.frzL, encN.clean, encN.cleanL, encQ.frz, encQ.frzL, encQ.clean, encQ.cleanL, srt_frz, srt_clean, ln_frz, ln_clean, lns_frz, lns_clean, pt_frz, pt_clean, pts_frz, pts_clean, pr_frz, pr_clean, frz_scr, frz_app, List.map_append, List.length_append, List.length_map, decide_true, decide_false, and_self, runF, evSs, evS, evT, evE, evAnd, evOr, evAndE, evOrE, evEs, evO, evC, evI, env0, endF, one, two, three, Eng.many, meth, chk, putD, appD, isLst, Eng.kept, Eng.kill, bindT, setAll, Tgt.slots, Exs.isNil, Ex.pure, Exs.pure, Ox.pure, Itr.pure, Ex.vars, Exs.vars, Ox.vars, Itr.vars, popD, popAtD, deepD, getP, putP, evP, callIO, ioArgs, ioSlot, ioOk, ioOut, ioV, ioClean, outs_from, outsGo, List.lookup_cons, List.lookup_nil, List.any_cons, List.any_nil, List.all_cons, List.all_nil, Exs.toList, Ex.isVar, frzE, cleanE, D.clean, cleanL, D.frz, frzL, frz_frz, frzL_frz, tru, get0_cons_zero, get0_cons_succ, get0_nil, List.set_cons_zero, List.set_cons_succ, frzAt_from, frzFrom, List.elem_cons, List.elem_nil, Nat.reduceBEq, List.length_cons, List.length_nil, List.map_cons, List.map_nil, List.replicate_succ, List.replicate_zero, List.cons_append, List.nil_append, List.append_nil, Option.map_some, Option.map_none, Option.bind_some, Option.bind_none, Option.isSome_some, Option.isSome_none, Nat.reduceSub, Nat.reduceAdd, List.range_eq_nil, Bool.not_false, Bool.not_true, Bool.or_true, Bool.true_or, Bool.or_false, Bool.false_or, Bool.and_true, Bool.true_and, Bool.and_false, Bool.false_and, Bool.not_not, Bool.false_eq_true, if_true, if_false, reduceIte, reduceCtorEq, x_blt_len, x_blt_int, x_blt_str, x_blt_list, x_blt_tuple, x_blt_max, x_blt_min, x_blt_sset, x_blt_sorted, x_sorted, x_sortd, x_mth_join, x_mth_upper, x_mth_index, x_isi_str_non, x_isi_str_bl, x_isi_str_int, x_isi_str_str, x_isi_str_lst, x_isi_str_tup, x_isi_str_dct, x_isi_int_non, x_isi_int_bl, x_isi_int_int, x_isi_int_str, x_isi_int_lst, x_isi_int_tup, x_isi_int_dct, x_isi_bool_non, x_isi_bool_bl, x_isi_bool_int, x_isi_bool_str, x_isi_bool_lst, x_isi_bool_tup, x_isi_bool_dct, x_isi_tuple_non, x_isi_tuple_bl, x_isi_tuple_int, x_isi_tuple_str, x_isi_tuple_lst, x_isi_tuple_tup, x_isi_tuple_dct, x_isi_list_non, x_isi_list_bl, x_isi_list_int, x_isi_list_str, x_isi_list_lst, x_isi_list_tup, x_isi_list_dct, x_tru_non, x_tru_bl, x_tru_int, x_tru_str, x_tru_lst, x_tru_tup, x_neg, x_sub_lst, x_sub_tup, x_sub_str, x_sub_dct, x_cut_lst, x_cut_tup, x_cut_str, x_len_str, x_len_lst, x_len_tup, x_len_dct, x_int_int, x_int_bl, x_str_int, x_list_lst, x_list_tup, x_list_dct, x_tuple_lst, x_tuple_tup, x_max, x_min, x_add_int, x_add_str, x_add_lst, x_add_tup, x_sub_int, x_mul, x_muls, x_fdiv, x_mod, x_pow, x_cmp_eq, x_cmp_ne, x_cmp_lt, x_cmp_le, x_cmp_gt, x_cmp_ge, x_cmp_isin, x_cmp_notin, x_cmp_is, x_cmp_isnot, x_lt_int, x_le_int, x_gt_int, x_ge_int, x_lt_str, x_le_str, x_is_non, x_is_bl, x_is_bl_non, x_is_int_non, x_is_str_non, x_is_lst_non, x_is_tup_non, x_is_dct_non, x_in_lst, x_in_tup, x_in_dct, x_in_str, x_wk_lst, x_wk_tup, x_wk_str, x_li, x_di_lst, x_di_tup, x_rg1, x_rg2, x_rg3, x_oi, x_db, x_bnm, x_btp, x_dput, x_dput_dct, x_key_int, x_key_str, x_rep_lst, x_rep_tup, x_rep_dct, x_sb1_lst, x_sb1_tup, x_sb1_dct, x_app1, x_eq_int, x_eq_bl]
  | _ => simp only [DEnv, f_law_due_b1, e1, e2, e3, e4, g6, g3, z6, z3, isPair, isTwo, isOne, bxd, wx, ins, List.foldl_nil, f0, f1, f2, f3, f4, f5, f6, f7, f8, encN.frz, encN.frzL, encN.clean, encN.cleanL, encQ.frz, encQ.frzL, encQ.clean, encQ.cleanL, srt_frz, srt_clean, ln_frz, ln_clean, lns_frz, lns_clean, pt_frz, pt_clean, pts_frz, pts_clean, pr_frz, pr_clean, frz_scr, frz_app, List.map_append, List.length_append, List.length_map, decide_true, decide_false, and_self, runF, evSs, evS, evT, evE, evAnd, evOr, evAndE, evOrE, evEs, evO, evC, evI, env0, endF, one, two, three, Eng.many, meth, chk, putD, appD, isLst, Eng.kept, Eng.kill, bindT, setAll, Tgt.slots, Exs.isNil, Ex.pure, Exs.pure, Ox.pure, Itr.pure, Ex.vars, Exs.vars, Ox.vars, Itr.vars, popD, popAtD, deepD, getP, putP, evP, callIO, ioArgs, ioSlot, ioOk, ioOut, ioV, ioClean, outs_from, outsGo, List.lookup_cons, List.lookup_nil, List.any_cons, List.any_nil, List.all_cons, List.all_nil, Exs.toList, Ex.isVar, frzE, cleanE, D.clean, cleanL, D.frz, frzL, frz_frz, frzL_frz, tru, get0_cons_zero, get0_cons_succ, get0_nil, List.set_cons_zero, List.set_cons_succ, frzAt_from, frzFrom, List.elem_cons, List.elem_nil, Nat.reduceBEq, List.length_cons, List.length_nil, List.map_cons, List.map_nil, List.replicate_succ, List.replicate_zero, List.cons_append, List.nil_append, List.append_nil, Option.map_some, Option.map_none, Option.bind_some, Option.bind_none, Option.isSome_some, Option.isSome_none, Nat.reduceSub, Nat.reduceAdd, List.range_eq_nil, Bool.not_false, Bool.not_true, Bool.or_true, Bool.true_or, Bool.or_false, Bool.false_or, Bool.and_true, Bool.true_and, Bool.and_false, Bool.false_and, Bool.not_not, Bool.false_eq_true, if_true, if_false, reduceIte, reduceCtorEq, x_blt_len, x_blt_int, x_blt_str, x_blt_list, x_blt_tuple, x_blt_max, x_blt_min, x_blt_sset, x_blt_sorted, x_sorted, x_sortd, x_mth_join, x_mth_upper, x_mth_index, x_isi_str_non, x_isi_str_bl, x_isi_str_int, x_isi_str_str, x_isi_str_lst, x_isi_str_tup, x_isi_str_dct, x_isi_int_non, x_isi_int_bl, x_isi_int_int, x_isi_int_str, x_isi_int_lst, x_isi_int_tup, x_isi_int_dct, x_isi_bool_non, x_isi_bool_bl, x_isi_bool_int, x_isi_bool_str, x_isi_bool_lst, x_isi_bool_tup, x_isi_bool_dct, x_isi_tuple_non, x_isi_tuple_bl, x_isi_tuple_int, x_isi_tuple_str, x_isi_tuple_lst, x_isi_tuple_tup, x_isi_tuple_dct, x_isi_list_non, x_isi_list_bl, x_isi_list_int, x_isi_list_str, x_isi_list_lst, x_isi_list_tup, x_isi_list_dct, x_tru_non, x_tru_bl, x_tru_int, x_tru_str, x_tru_lst, x_tru_tup, x_neg, x_sub_lst, x_sub_tup, x_sub_str, x_sub_dct, x_cut_lst, x_cut_tup, x_cut_str, x_len_str, x_len_lst, x_len_tup, x_len_dct, x_int_int, x_int_bl, x_str_int, x_list_lst, x_list_tup, x_list_dct, x_tuple_lst, x_tuple_tup, x_max, x_min, x_add_int, x_add_str, x_add_lst, x_add_tup, x_sub_int, x_mul, x_muls, x_fdiv, x_mod, x_pow, x_cmp_eq, x_cmp_ne, x_cmp_lt, x_cmp_le, x_cmp_gt, x_cmp_ge, x_cmp_isin, x_cmp_notin, x_cmp_is, x_cmp_isnot, x_lt_int, x_le_int, x_gt_int, x_ge_int, x_lt_str, x_le_str, x_is_non, x_is_bl, x_is_bl_non, x_is_int_non, x_is_str_non, x_is_lst_non, x_is_tup_non, x_is_dct_non, x_in_lst, x_in_tup, x_in_dct, x_in_str, x_wk_lst, x_wk_tup, x_wk_str, x_li, x_di_lst, x_di_tup, x_rg1, x_rg2, x_rg3, x_oi, x_db, x_bnm, x_btp, x_dput, x_dput_dct, x_key_int, x_key_str, x_rep_lst, x_rep_tup, x_rep_dct, x_sb1_lst, x_sb1_tup, x_sb1_dct, x_app1, x_eq_int, x_eq_bl]
theorem due_b2 (L W : List Nm) (hL : L.length ≤ 400) (hW : W.length ≤ 400) (Q : List Pl) (hQ : Q.length ≤ 200) (i : Nat) (p : Part) (hp : p.2.length ≤ 20) (line k : Option D) (hk : k = none) :
    ∃ line', evSs S whl f_law_due_b2 (DEnv P L W Q (some (.int (i : Nat))) (some (partD p)) line k) = some (.nx (DEnv P (ins L (p.2.flatMap bxd)) (ins W (p.2.flatMap wx)) (Q ++ (List.range (p.2.length + 1)).map fun j => (i, j)) (some (.int (i : Nat))) (some (partD p)) line' none)) := by
  subst hk
  obtain ⟨ρ2, e2, l, hρ2⟩ := loopL_ix (f := lnD) (tg := .nm 6) (b := evSs S whl f_law_due_b1) (l := p.2) (ρ := DEnv P L W Q (some (.int (i : Nat))) (some (partD p)) line none)
    (fun j ρ => ∃ l, ρ = DEnv P (ins L ((p.2.take j).flatMap bxd)) (ins W ((p.2.take j).flatMap wx)) Q (some (.int (i : Nat))) (some (partD p)) l none) (fun j ρ n hn ⟨l, hρ⟩ => by
      subst hρ
      have hj := (List.getElem?_eq_some_iff.mp hn).1
      have l1 := flat_len bxd_len (p.2.take j)
      have l2 := flat_len wx_len (p.2.take j)
      rw [List.length_take] at l1 l2
      have l3 := ins_len ((p.2.take j).flatMap bxd) L
      have l4 := ins_len ((p.2.take j).flatMap wx) W
      have t := due_b1 S P had (ins L ((p.2.take j).flatMap bxd)) (ins W ((p.2.take j).flatMap wx)) (by omega) (by omega) Q (some (.int (i : Nat))) (some (partD p)) none n
      refine ⟨_, _, rfl, t, some (lnD n), ?_⟩
      rw [flat_take hn, flat_take hn, ins_app, ins_app]) ⟨line, rfl⟩
  subst hρ2
  rw [List.take_length] at e2
  refine ⟨l, seq_nx (ρ1 := DEnv P (ins L (p.2.flatMap bxd)) (ins W (p.2.flatMap wx)) Q (some (.int (i : Nat))) (some (partD p)) l none) ?_ (seq_nx (ρ1 := DEnv P (ins L (p.2.flatMap bxd)) (ins W (p.2.flatMap wx)) (Q ++ (List.range (p.2.length + 1)).map fun j => (i, j)) (some (.int (i : Nat))) (some (partD p)) l none) ?_ rfl)⟩
  · simp only [DEnv] at e2
    simp only [DEnv, part1, e2, f0, f1, f2, f3, f4, f5, f6, f7, f8, encN.frz, encN.frzL, encN.clean, encN.cleanL, encQ.frz, encQ.frzL, encQ.clean, encQ.cleanL, srt_frz, srt_clean, ln_frz, ln_clean, lns_frz, lns_clean, pt_frz, pt_clean, pts_frz, pts_clean, pr_frz, pr_clean, frz_scr, frz_app, List.map_append, List.length_append, List.length_map, decide_true, decide_false, and_self, runF, evSs, evS, evT, evE, evAnd, evOr, evAndE, evOrE, evEs, evO, evC, evI, env0, endF, one, two, three, Eng.many, meth, chk, putD, appD, isLst, Eng.kept, Eng.kill, bindT, setAll, Tgt.slots, Exs.isNil, Ex.pure, Exs.pure, Ox.pure, Itr.pure, Ex.vars, Exs.vars, Ox.vars, Itr.vars, popD, popAtD, deepD, getP, putP, evP, callIO, ioArgs, ioSlot, ioOk, ioOut, ioV, ioClean, outs_from, outsGo, List.lookup_cons, List.lookup_nil, List.any_cons, List.any_nil, List.all_cons, List.all_nil, Exs.toList, Ex.isVar, frzE, cleanE, D.clean, cleanL, D.frz, frzL, frz_frz, frzL_frz, tru, get0_cons_zero, get0_cons_succ, get0_nil, List.set_cons_zero, List.set_cons_succ, frzAt_from, frzFrom, List.elem_cons, List.elem_nil, Nat.reduceBEq, List.length_cons, List.length_nil, List.map_cons, List.map_nil, List.replicate_succ, List.replicate_zero, List.cons_append, List.nil_append, List.append_nil, Option.map_some, Option.map_none, Option.bind_some, Option.bind_none, Option.isSome_some, Option.isSome_none, Nat.reduceSub, Nat.reduceAdd, List.range_eq_nil, Bool.not_false, Bool.not_true, Bool.or_true, Bool.true_or, Bool.or_false, Bool.false_or, Bool.and_true, Bool.true_and, Bool.and_false, Bool.false_and, Bool.not_not, Bool.false_eq_true, if_true, if_false, reduceIte, reduceCtorEq, x_blt_len, x_blt_int, x_blt_str, x_blt_list, x_blt_tuple, x_blt_max, x_blt_min, x_blt_sset, x_blt_sorted, x_sorted, x_sortd, x_mth_join, x_mth_upper, x_mth_index, x_isi_str_non, x_isi_str_bl, x_isi_str_int, x_isi_str_str, x_isi_str_lst, x_isi_str_tup, x_isi_str_dct, x_isi_int_non, x_isi_int_bl, x_isi_int_int, x_isi_int_str, x_isi_int_lst, x_isi_int_tup, x_isi_int_dct, x_isi_bool_non, x_isi_bool_bl, x_isi_bool_int, x_isi_bool_str, x_isi_bool_lst, x_isi_bool_tup, x_isi_bool_dct, x_isi_tuple_non, x_isi_tuple_bl, x_isi_tuple_int, x_isi_tuple_str, x_isi_tuple_lst, x_isi_tuple_tup, x_isi_tuple_dct, x_isi_list_non, x_isi_list_bl, x_isi_list_int, x_isi_list_str, x_isi_list_lst, x_isi_list_tup, x_isi_list_dct, x_tru_non, x_tru_bl, x_tru_int, x_tru_str, x_tru_lst, x_tru_tup, x_neg, x_sub_lst, x_sub_tup, x_sub_str, x_sub_dct, x_cut_lst, x_cut_tup, x_cut_str, x_len_str, x_len_lst, x_len_tup, x_len_dct, x_int_int, x_int_bl, x_str_int, x_list_lst, x_list_tup, x_list_dct, x_tuple_lst, x_tuple_tup, x_max, x_min, x_add_int, x_add_str, x_add_lst, x_add_tup, x_sub_int, x_mul, x_muls, x_fdiv, x_mod, x_pow, x_cmp_eq, x_cmp_ne, x_cmp_lt, x_cmp_le, x_cmp_gt, x_cmp_ge, x_cmp_isin, x_cmp_notin, x_cmp_is, x_cmp_isnot, x_lt_int, x_le_int, x_gt_int, x_ge_int, x_lt_str, x_le_str, x_is_non, x_is_bl, x_is_bl_non, x_is_int_non, x_is_str_non, x_is_lst_non, x_is_tup_non, x_is_dct_non, x_in_lst, x_in_tup, x_in_dct, x_in_str, x_wk_lst, x_wk_tup, x_wk_str, x_li, x_di_lst, x_di_tup, x_rg1, x_rg2, x_rg3, x_oi, x_db, x_bnm, x_btp, x_dput, x_dput_dct, x_key_int, x_key_str, x_rep_lst, x_rep_tup, x_rep_dct, x_sb1_lst, x_sb1_tup, x_sb1_dct, x_app1, x_eq_int, x_eq_bl]
  · obtain ⟨n, hn, hr⟩ : ∃ n : Int, (p.2.length : Int) + 1 = n ∧ rangeD 0 n 1 = some ((List.range (p.2.length + 1)).map fun (k : Nat) => D.int k) := ⟨_, rfl, by
      have hr := rangeD_ok (n := (p.2.length : Int) + 1) (by omega) (by omega)
      rwa [show ((p.2.length : Int) + 1).toNat = p.2.length + 1 from by omega] at hr⟩
    have hll := len_ln p.2
    have hc := compL_mapA (f := fun (k : Nat) => D.int k) (g := fun (j : Nat) => plD (i, j)) (tg := .nm 7) (cond := evC S .none) (elt := evE S (.tup (.cons (.var 4) (.cons (.var 7) .nil)))) (pur := true)
      (ρ := DEnv P (ins L (p.2.flatMap bxd)) (ins W (p.2.flatMap wx)) Q (some (.int (i : Nat))) (some (partD p)) l none) (fun _ => true) (l := List.range (p.2.length + 1)) (fun j hj => by
        refine ⟨DEnv P (ins L (p.2.flatMap bxd)) (ins W (p.2.flatMap wx)) Q (some (.int (i : Nat))) (some (partD p)) l (some (.int (j : Nat))), rfl, ?_, fun _ => ⟨?_, rfl⟩, ?_⟩
        · simp only [f0, f1, f2, f3, f4, f5, f6, f7, f8, encN.frz, encN.frzL, encN.clean, encN.cleanL, encQ.frz, encQ.frzL, encQ.clean, encQ.cleanL, srt_frz, srt_clean, ln_frz, ln_clean, lns_frz, lns_clean, pt_frz, pt_clean, pts_frz, pts_clean, pr_frz, pr_clean, frz_scr, frz_app, List.map_append, List.length_append, List.length_map, decide_true, decide_false, and_self, runF, evSs, evS, evT, evE, evAnd, evOr, evAndE, evOrE, evEs, evO, evC, evI, env0, endF, one, two, three, Eng.many, meth, chk, putD, appD, isLst, Eng.kept, Eng.kill, bindT, setAll, Tgt.slots, Exs.isNil, Ex.pure, Exs.pure, Ox.pure, Itr.pure, Ex.vars, Exs.vars, Ox.vars, Itr.vars, popD, popAtD, deepD, getP, putP, evP, callIO, ioArgs, ioSlot, ioOk, ioOut, ioV, ioClean, outs_from, outsGo, List.lookup_cons, List.lookup_nil, List.any_cons, List.any_nil, List.all_cons, List.all_nil, Exs.toList, Ex.isVar, frzE, cleanE, D.clean, cleanL, D.frz, frzL, frz_frz, frzL_frz, tru, get0_cons_zero, get0_cons_succ, get0_nil, List.set_cons_zero, List.set_cons_succ, frzAt_from, frzFrom, List.elem_cons, List.elem_nil, Nat.reduceBEq, List.length_cons, List.length_nil, List.map_cons, List.map_nil, List.replicate_succ, List.replicate_zero, List.cons_append, List.nil_append, List.append_nil, Option.map_some, Option.map_none, Option.bind_some, Option.bind_none, Option.isSome_some, Option.isSome_none, Nat.reduceSub, Nat.reduceAdd, List.range_eq_nil, Bool.not_false, Bool.not_true, Bool.or_true, Bool.true_or, Bool.or_false, Bool.false_or, Bool.and_true, Bool.true_and, Bool.and_false, Bool.false_and, Bool.not_not, Bool.false_eq_true, if_true, if_false, reduceIte, reduceCtorEq, x_blt_len, x_blt_int, x_blt_str, x_blt_list, x_blt_tuple, x_blt_max, x_blt_min, x_blt_sset, x_blt_sorted, x_sorted, x_sortd, x_mth_join, x_mth_upper, x_mth_index, x_isi_str_non, x_isi_str_bl, x_isi_str_int, x_isi_str_str, x_isi_str_lst, x_isi_str_tup, x_isi_str_dct, x_isi_int_non, x_isi_int_bl, x_isi_int_int, x_isi_int_str, x_isi_int_lst, x_isi_int_tup, x_isi_int_dct, x_isi_bool_non, x_isi_bool_bl, x_isi_bool_int, x_isi_bool_str, x_isi_bool_lst, x_isi_bool_tup, x_isi_bool_dct, x_isi_tuple_non, x_isi_tuple_bl, x_isi_tuple_int, x_isi_tuple_str, x_isi_tuple_lst, x_isi_tuple_tup, x_isi_tuple_dct, x_isi_list_non, x_isi_list_bl, x_isi_list_int, x_isi_list_str, x_isi_list_lst, x_isi_list_tup, x_isi_list_dct, x_tru_non, x_tru_bl, x_tru_int, x_tru_str, x_tru_lst, x_tru_tup, x_neg, x_sub_lst, x_sub_tup, x_sub_str, x_sub_dct, x_cut_lst, x_cut_tup, x_cut_str, x_len_str, x_len_lst, x_len_tup, x_len_dct, x_int_int, x_int_bl, x_str_int, x_list_lst, x_list_tup, x_list_dct, x_tuple_lst, x_tuple_tup, x_max, x_min, x_add_int, x_add_str, x_add_lst, x_add_tup, x_sub_int, x_mul, x_muls, x_fdiv, x_mod, x_pow, x_cmp_eq, x_cmp_ne, x_cmp_lt, x_cmp_le, x_cmp_gt, x_cmp_ge, x_cmp_isin, x_cmp_notin, x_cmp_is, x_cmp_isnot, x_lt_int, x_le_int, x_gt_int, x_ge_int, x_lt_str, x_le_str, x_is_non, x_is_bl, x_is_bl_non, x_is_int_non, x_is_str_non, x_is_lst_non, x_is_tup_non, x_is_dct_non, x_in_lst, x_in_tup, x_in_dct, x_in_str, x_wk_lst, x_wk_tup, x_wk_str, x_li, x_di_lst, x_di_tup, x_rg1, x_rg2, x_rg3, x_oi, x_db, x_bnm, x_btp, x_dput, x_dput_dct, x_key_int, x_key_str, x_rep_lst, x_rep_tup, x_rep_dct, x_sb1_lst, x_sb1_tup, x_sb1_dct, x_app1, x_eq_int, x_eq_bl]
        · simp only [DEnv, plD, f0, f1, f2, f3, f4, f5, f6, f7, f8, encN.frz, encN.frzL, encN.clean, encN.cleanL, encQ.frz, encQ.frzL, encQ.clean, encQ.cleanL, srt_frz, srt_clean, ln_frz, ln_clean, lns_frz, lns_clean, pt_frz, pt_clean, pts_frz, pts_clean, pr_frz, pr_clean, frz_scr, frz_app, List.map_append, List.length_append, List.length_map, decide_true, decide_false, and_self, runF, evSs, evS, evT, evE, evAnd, evOr, evAndE, evOrE, evEs, evO, evC, evI, env0, endF, one, two, three, Eng.many, meth, chk, putD, appD, isLst, Eng.kept, Eng.kill, bindT, setAll, Tgt.slots, Exs.isNil, Ex.pure, Exs.pure, Ox.pure, Itr.pure, Ex.vars, Exs.vars, Ox.vars, Itr.vars, popD, popAtD, deepD, getP, putP, evP, callIO, ioArgs, ioSlot, ioOk, ioOut, ioV, ioClean, outs_from, outsGo, List.lookup_cons, List.lookup_nil, List.any_cons, List.any_nil, List.all_cons, List.all_nil, Exs.toList, Ex.isVar, frzE, cleanE, D.clean, cleanL, D.frz, frzL, frz_frz, frzL_frz, tru, get0_cons_zero, get0_cons_succ, get0_nil, List.set_cons_zero, List.set_cons_succ, frzAt_from, frzFrom, List.elem_cons, List.elem_nil, Nat.reduceBEq, List.length_cons, List.length_nil, List.map_cons, List.map_nil, List.replicate_succ, List.replicate_zero, List.cons_append, List.nil_append, List.append_nil, Option.map_some, Option.map_none, Option.bind_some, Option.bind_none, Option.isSome_some, Option.isSome_none, Nat.reduceSub, Nat.reduceAdd, List.range_eq_nil, Bool.not_false, Bool.not_true, Bool.or_true, Bool.true_or, Bool.or_false, Bool.false_or, Bool.and_true, Bool.true_and, Bool.and_false, Bool.false_and, Bool.not_not, Bool.false_eq_true, if_true, if_false, reduceIte, reduceCtorEq, x_blt_len, x_blt_int, x_blt_str, x_blt_list, x_blt_tuple, x_blt_max, x_blt_min, x_blt_sset, x_blt_sorted, x_sorted, x_sortd, x_mth_join, x_mth_upper, x_mth_index, x_isi_str_non, x_isi_str_bl, x_isi_str_int, x_isi_str_str, x_isi_str_lst, x_isi_str_tup, x_isi_str_dct, x_isi_int_non, x_isi_int_bl, x_isi_int_int, x_isi_int_str, x_isi_int_lst, x_isi_int_tup, x_isi_int_dct, x_isi_bool_non, x_isi_bool_bl, x_isi_bool_int, x_isi_bool_str, x_isi_bool_lst, x_isi_bool_tup, x_isi_bool_dct, x_isi_tuple_non, x_isi_tuple_bl, x_isi_tuple_int, x_isi_tuple_str, x_isi_tuple_lst, x_isi_tuple_tup, x_isi_tuple_dct, x_isi_list_non, x_isi_list_bl, x_isi_list_int, x_isi_list_str, x_isi_list_lst, x_isi_list_tup, x_isi_list_dct, x_tru_non, x_tru_bl, x_tru_int, x_tru_str, x_tru_lst, x_tru_tup, x_neg, x_sub_lst, x_sub_tup, x_sub_str, x_sub_dct, x_cut_lst, x_cut_tup, x_cut_str, x_len_str, x_len_lst, x_len_tup, x_len_dct, x_int_int, x_int_bl, x_str_int, x_list_lst, x_list_tup, x_list_dct, x_tuple_lst, x_tuple_tup, x_max, x_min, x_add_int, x_add_str, x_add_lst, x_add_tup, x_sub_int, x_mul, x_muls, x_fdiv, x_mod, x_pow, x_cmp_eq, x_cmp_ne, x_cmp_lt, x_cmp_le, x_cmp_gt, x_cmp_ge, x_cmp_isin, x_cmp_notin, x_cmp_is, x_cmp_isnot, x_lt_int, x_le_int, x_gt_int, x_ge_int, x_lt_str, x_le_str, x_is_non, x_is_bl, x_is_bl_non, x_is_int_non, x_is_str_non, x_is_lst_non, x_is_tup_non, x_is_dct_non, x_in_lst, x_in_tup, x_in_dct, x_in_str, x_wk_lst, x_wk_tup, x_wk_str, x_li, x_di_lst, x_di_tup, x_rg1, x_rg2, x_rg3, x_oi, x_db, x_bnm, x_btp, x_dput, x_dput_dct, x_key_int, x_key_str, x_rep_lst, x_rep_tup, x_rep_dct, x_sb1_lst, x_sb1_tup, x_sb1_dct, x_app1, x_eq_int, x_eq_bl]
        · simp only [f0, f1, f2, f3, f4, f5, f6, f7, f8, encN.frz, encN.frzL, encN.clean, encN.cleanL, encQ.frz, encQ.frzL, encQ.clean, encQ.cleanL, srt_frz, srt_clean, ln_frz, ln_clean, lns_frz, lns_clean, pt_frz, pt_clean, pts_frz, pts_clean, pr_frz, pr_clean, frz_scr, frz_app, List.map_append, List.length_append, List.length_map, decide_true, decide_false, and_self, runF, evSs, evS, evT, evE, evAnd, evOr, evAndE, evOrE, evEs, evO, evC, evI, env0, endF, one, two, three, Eng.many, meth, chk, putD, appD, isLst, Eng.kept, Eng.kill, bindT, setAll, Tgt.slots, Exs.isNil, Ex.pure, Exs.pure, Ox.pure, Itr.pure, Ex.vars, Exs.vars, Ox.vars, Itr.vars, popD, popAtD, deepD, getP, putP, evP, callIO, ioArgs, ioSlot, ioOk, ioOut, ioV, ioClean, outs_from, outsGo, List.lookup_cons, List.lookup_nil, List.any_cons, List.any_nil, List.all_cons, List.all_nil, Exs.toList, Ex.isVar, frzE, cleanE, D.clean, cleanL, D.frz, frzL, frz_frz, frzL_frz, tru, get0_cons_zero, get0_cons_succ, get0_nil, List.set_cons_zero, List.set_cons_succ, frzAt_from, frzFrom, List.elem_cons, List.elem_nil, Nat.reduceBEq, List.length_cons, List.length_nil, List.map_cons, List.map_nil, List.replicate_succ, List.replicate_zero, List.cons_append, List.nil_append, List.append_nil, Option.map_some, Option.map_none, Option.bind_some, Option.bind_none, Option.isSome_some, Option.isSome_none, Nat.reduceSub, Nat.reduceAdd, List.range_eq_nil, Bool.not_false, Bool.not_true, Bool.or_true, Bool.true_or, Bool.or_false, Bool.false_or, Bool.and_true, Bool.true_and, Bool.and_false, Bool.false_and, Bool.not_not, Bool.false_eq_true, if_true, if_false, reduceIte, reduceCtorEq, x_blt_len, x_blt_int, x_blt_str, x_blt_list, x_blt_tuple, x_blt_max, x_blt_min, x_blt_sset, x_blt_sorted, x_sorted, x_sortd, x_mth_join, x_mth_upper, x_mth_index, x_isi_str_non, x_isi_str_bl, x_isi_str_int, x_isi_str_str, x_isi_str_lst, x_isi_str_tup, x_isi_str_dct, x_isi_int_non, x_isi_int_bl, x_isi_int_int, x_isi_int_str, x_isi_int_lst, x_isi_int_tup, x_isi_int_dct, x_isi_bool_non, x_isi_bool_bl, x_isi_bool_int, x_isi_bool_str, x_isi_bool_lst, x_isi_bool_tup, x_isi_bool_dct, x_isi_tuple_non, x_isi_tuple_bl, x_isi_tuple_int, x_isi_tuple_str, x_isi_tuple_lst, x_isi_tuple_tup, x_isi_tuple_dct, x_isi_list_non, x_isi_list_bl, x_isi_list_int, x_isi_list_str, x_isi_list_lst, x_isi_list_tup, x_isi_list_dct, x_tru_non, x_tru_bl, x_tru_int, x_tru_str, x_tru_lst, x_tru_tup, x_neg, x_sub_lst, x_sub_tup, x_sub_str, x_sub_dct, x_cut_lst, x_cut_tup, x_cut_str, x_len_str, x_len_lst, x_len_tup, x_len_dct, x_int_int, x_int_bl, x_str_int, x_list_lst, x_list_tup, x_list_dct, x_tuple_lst, x_tuple_tup, x_max, x_min, x_add_int, x_add_str, x_add_lst, x_add_tup, x_sub_int, x_mul, x_muls, x_fdiv, x_mod, x_pow, x_cmp_eq, x_cmp_ne, x_cmp_lt, x_cmp_le, x_cmp_gt, x_cmp_ge, x_cmp_isin, x_cmp_notin, x_cmp_is, x_cmp_isnot, x_lt_int, x_le_int, x_gt_int, x_ge_int, x_lt_str, x_le_str, x_is_non, x_is_bl, x_is_bl_non, x_is_int_non, x_is_str_non, x_is_lst_non, x_is_tup_non, x_is_dct_non, x_in_lst, x_in_tup, x_in_dct, x_in_str, x_wk_lst, x_wk_tup, x_wk_str, x_li, x_di_lst, x_di_tup, x_rg1, x_rg2, x_rg3, x_oi, x_db, x_bnm, x_btp, x_dput, x_dput_dct, x_key_int, x_key_str, x_rep_lst, x_rep_tup, x_rep_dct, x_sb1_lst, x_sb1_tup, x_sb1_dct, x_app1, x_eq_int, x_eq_bl])
    rw [List.filter_eq_self.mpr (fun _ _ => rfl)] at hc
    have hm : (List.range (p.2.length + 1)).map (fun j => plD (i, j)) = ((List.range (p.2.length + 1)).map fun j => (i, j)).map plD := by rw [List.map_map]; rfl
    rw [hm] at hc
    have ff : fits (List.range (p.2.length + 1)).length = true := fit_le (by rw [List.length_range]; omega)
    have fg : fits (Q.length + (List.range (p.2.length + 1)).length) = true := fit_le (by rw [List.length_range]; omega)
    simp only [DEnv, f0, f1, f2, f3, f4, f5, f6, f7, f8, encN.frz, encN.frzL, encN.clean, encN.cleanL, encQ.frz, encQ.frzL, encQ.clean, encQ.cleanL, srt_frz, srt_clean, ln_frz, ln_clean, lns_frz, lns_clean, pt_frz, pt_clean, pts_frz, pts_clean, pr_frz, pr_clean, frz_scr, frz_app, List.map_append, List.length_append, List.length_map, decide_true, decide_false, and_self, runF, evSs, evS, evT, evE, evAnd, evOr, evAndE, evOrE, evEs, evO, evC, evI, env0, endF, one, two, three, Eng.many, meth, chk, putD, appD, isLst, Eng.kept, Eng.kill, bindT, setAll, Tgt.slots, Exs.isNil, Ex.pure, Exs.pure, Ox.pure, Itr.pure, Ex.vars, Exs.vars, Ox.vars, Itr.vars, popD, popAtD, deepD, getP, putP, evP, callIO, ioArgs, ioSlot, ioOk, ioOut, ioV, ioClean, outs_from, outsGo, List.lookup_cons, List.lookup_nil, List.any_cons, List.any_nil, List.all_cons, List.all_nil, Exs.toList, Ex.isVar, frzE, cleanE, D.clean, cleanL, D.frz, frzL, frz_frz, frzL_frz, tru, get0_cons_zero, get0_cons_succ, get0_nil, List.set_cons_zero, List.set_cons_succ, frzAt_from, frzFrom, List.elem_cons, List.elem_nil, Nat.reduceBEq, List.length_cons, List.length_nil, List.map_cons, List.map_nil, List.replicate_succ, List.replicate_zero, List.cons_append, List.nil_append, List.append_nil, Option.map_some, Option.map_none, Option.bind_some, Option.bind_none, Option.isSome_some, Option.isSome_none, Nat.reduceSub, Nat.reduceAdd, List.range_eq_nil, Bool.not_false, Bool.not_true, Bool.or_true, Bool.true_or, Bool.or_false, Bool.false_or, Bool.and_true, Bool.true_and, Bool.and_false, Bool.false_and, Bool.not_not, Bool.false_eq_true, if_true, if_false, reduceIte, reduceCtorEq, x_blt_len, x_blt_int, x_blt_str, x_blt_list, x_blt_tuple, x_blt_max, x_blt_min, x_blt_sset, x_blt_sorted, x_sorted, x_sortd, x_mth_join, x_mth_upper, x_mth_index, x_isi_str_non, x_isi_str_bl, x_isi_str_int, x_isi_str_str, x_isi_str_lst, x_isi_str_tup, x_isi_str_dct, x_isi_int_non, x_isi_int_bl, x_isi_int_int, x_isi_int_str, x_isi_int_lst, x_isi_int_tup, x_isi_int_dct, x_isi_bool_non, x_isi_bool_bl, x_isi_bool_int, x_isi_bool_str, x_isi_bool_lst, x_isi_bool_tup, x_isi_bool_dct, x_isi_tuple_non, x_isi_tuple_bl, x_isi_tuple_int, x_isi_tuple_str, x_isi_tuple_lst, x_isi_tuple_tup, x_isi_tuple_dct, x_isi_list_non, x_isi_list_bl, x_isi_list_int, x_isi_list_str, x_isi_list_lst, x_isi_list_tup, x_isi_list_dct, x_tru_non, x_tru_bl, x_tru_int, x_tru_str, x_tru_lst, x_tru_tup, x_neg, x_sub_lst, x_sub_tup, x_sub_str, x_sub_dct, x_cut_lst, x_cut_tup, x_cut_str, x_len_str, x_len_lst, x_len_tup, x_len_dct, x_int_int, x_int_bl, x_str_int, x_list_lst, x_list_tup, x_list_dct, x_tuple_lst, x_tuple_tup, x_max, x_min, x_add_int, x_add_str, x_add_lst, x_add_tup, x_sub_int, x_mul, x_muls, x_fdiv, x_mod, x_pow, x_cmp_eq, x_cmp_ne, x_cmp_lt, x_cmp_le, x_cmp_gt, x_cmp_ge, x_cmp_isin, x_cmp_notin, x_cmp_is, x_cmp_isnot, x_lt_int, x_le_int, x_gt_int, x_ge_int, x_lt_str, x_le_str, x_is_non, x_is_bl, x_is_bl_non, x_is_int_non, x_is_str_non, x_is_lst_non, x_is_tup_non, x_is_dct_non, x_in_lst, x_in_tup, x_in_dct, x_in_str, x_wk_lst, x_wk_tup, x_wk_str, x_li, x_di_lst, x_di_tup, x_rg1, x_rg2, x_rg3, x_oi, x_db, x_bnm, x_btp, x_dput, x_dput_dct, x_key_int, x_key_str, x_rep_lst, x_rep_tup, x_rep_dct, x_sb1_lst, x_sb1_tup, x_sb1_dct, x_app1, x_eq_int, x_eq_bl] at hc
    simp only [DEnv, part1, hll, hn, hr, hc, ff, fg, extD, x_blt_len, runF, evSs, evS, evT, evE, evAnd, evOr, evAndE, evOrE, evEs, evO, evC, evI, env0, endF, one, two, three, Eng.many, meth, chk, putD, appD, isLst, Eng.kept, Eng.kill, bindT, setAll, Tgt.slots, Exs.isNil, Ex.pure, Exs.pure, Ox.pure, Itr.pure, Ex.vars, Exs.vars, Ox.vars, Itr.vars, popD, popAtD, deepD, getP, putP, evP, callIO, ioArgs, ioSlot, ioOk, ioOut, ioV, ioClean, outs_from, outsGo, List.lookup_cons, List.lookup_nil, List.any_cons, List.any_nil, List.all_cons, List.all_nil, Exs.toList, Ex.isVar, frzE, cleanE, D.clean, cleanL, D.frz, frzL, frz_frz, frzL_frz, tru, get0_cons_zero, get0_cons_succ, get0_nil, List.set_cons_zero, List.set_cons_succ, frzAt_from, frzFrom, List.elem_cons, List.elem_nil, Nat.reduceBEq, List.length_cons, List.length_nil, List.map_cons, List.map_nil, List.replicate_succ, List.replicate_zero, List.cons_append, List.nil_append, List.append_nil, Option.map_some, Option.map_none, Option.bind_some, Option.bind_none, Option.isSome_some, Option.isSome_none, Nat.reduceSub, Nat.reduceAdd, List.range_eq_nil, Bool.not_false, Bool.not_true, Bool.or_true, Bool.true_or, Bool.or_false, Bool.false_or, Bool.and_true, Bool.true_and, Bool.and_false, Bool.false_and, Bool.not_not, Bool.false_eq_true, if_true, if_false, reduceIte, reduceCtorEq, x_blt_int, x_blt_str, x_blt_list, x_blt_tuple, x_blt_max, x_blt_min, x_blt_sset, x_blt_sorted, x_sorted, x_sortd, x_mth_join, x_mth_upper, x_mth_index, x_isi_str_non, x_isi_str_bl, x_isi_str_int, x_isi_str_str, x_isi_str_lst, x_isi_str_tup, x_isi_str_dct, x_isi_int_non, x_isi_int_bl, x_isi_int_int, x_isi_int_str, x_isi_int_lst, x_isi_int_tup, x_isi_int_dct, x_isi_bool_non, x_isi_bool_bl, x_isi_bool_int, x_isi_bool_str, x_isi_bool_lst, x_isi_bool_tup, x_isi_bool_dct, x_isi_tuple_non, x_isi_tuple_bl, x_isi_tuple_int, x_isi_tuple_str, x_isi_tuple_lst, x_isi_tuple_tup, x_isi_tuple_dct, x_isi_list_non, x_isi_list_bl, x_isi_list_int, x_isi_list_str, x_isi_list_lst, x_isi_list_tup, x_isi_list_dct, x_tru_non, x_tru_bl, x_tru_int, x_tru_str, x_tru_lst, x_tru_tup, x_neg, x_sub_lst, x_sub_tup, x_sub_str, x_sub_dct, x_cut_lst, x_cut_tup, x_cut_str, x_int_int, x_int_bl, x_str_int, x_list_lst, x_list_tup, x_list_dct, x_tuple_lst, x_tuple_tup, x_max, x_min, x_add_int, x_add_str, x_add_lst, x_add_tup, x_sub_int, x_mul, x_muls, x_fdiv, x_mod, x_pow, x_cmp_eq, x_cmp_ne, x_cmp_lt, x_cmp_le, x_cmp_gt, x_cmp_ge, x_cmp_isin, x_cmp_notin, x_cmp_is, x_cmp_isnot, x_lt_int, x_le_int, x_gt_int, x_ge_int, x_lt_str, x_le_str, x_is_non, x_is_bl, x_is_bl_non, x_is_int_non, x_is_str_non, x_is_lst_non, x_is_tup_non, x_is_dct_non, x_in_lst, x_in_tup, x_in_dct, x_in_str, x_wk_lst, x_wk_tup, x_wk_str, x_li, x_di_lst, x_di_tup, x_rg1, x_rg2, x_rg3, x_oi, x_db, x_bnm, x_btp, x_dput, x_dput_dct, x_key_int, x_key_str, x_rep_lst, x_rep_tup, x_rep_dct, x_sb1_lst, x_sb1_tup, x_sb1_dct, x_app1, x_eq_int, x_eq_bl, f0, f1, f2, f3, List.map_append, List.length_append, List.length_map, encQ.frz, encQ.frzL, encQ.clean, encQ.cleanL, encN.frz, encN.frzL, encN.clean, encN.cleanL, pt_frz, pt_clean, lns_frz, lns_clean, pr_frz, pr_clean]
abbrev dueD (P : List Part) : D := .lst true [.lst true (srt (bxs bxd P)), .lst true (srt (bxs wx P)), .lst false ((plcAt P P.length).map plD)]
theorem due_ok (h1 : P.length ≤ 5) (h2 : ∀ p ∈ P, p.2.length ≤ 20) : runF S f_law_due [prD P] = some (dueD P, [none]) := by
  have bound : ∀ (g : Ln → List Nm) (k i : Nat), (∀ n, (g n).length ≤ k) → k ≤ 3 → (ins [] ((lines (P.take i)).flatMap g)).length ≤ 300 := fun g k i hg hk => by
    have a := flat_len hg (lines (P.take i))
    have b := ins_len ((lines (P.take i)).flatMap g) []
    have c := lines_len (P := P.take i) (by rw [List.length_take]; omega) fun q hq => h2 q (List.mem_of_mem_take hq)
    have d : k * (lines (P.take i)).length ≤ 3 * 100 := Nat.mul_le_mul hk c
    rw [List.length_nil] at b
    omega
  obtain ⟨ρ', e, x, y, z, hρ⟩ := loopL_inv (tg := .tp [4, 5]) (b := evSs S whl f_law_due_b2) (ds := (P.map partD).mapIdx fun i x => D.tup [.int i, x]) (ρ := DEnv P [] [] [] none none none none)
    (fun i ρ => ∃ x y z, ρ = DEnv P (ins [] ((lines (P.take i)).flatMap bxd)) (ins [] ((lines (P.take i)).flatMap wx)) (plcAt P i) x y z none) (fun i ρ d ⟨x, y, z, hρ⟩ hi => by
      obtain ⟨p, hp, rfl⟩ := enum_get hi
      subst hρ
      have hi5 := (List.getElem?_eq_some_iff.mp hp).1
      have hl := plc_len h2 i
      obtain ⟨line', t⟩ := due_b2 S P had _ _ (Nat.le_trans (bound bxd 3 i bxd_len (by omega)) (by omega)) (Nat.le_trans (bound wx 1 i wx_len (by omega)) (by omega)) (plcAt P i) (by omega) i p (h2 p (List.mem_of_getElem? hp)) z none rfl
      refine ⟨_, _, rfl, t, some (.int (i : Nat)), some (partD p), line', ?_⟩
      rw [lines_take hp, List.flatMap_append, List.flatMap_append, ins_app, ins_app, plc_succ hp]) ⟨none, none, none, rfl⟩
  subst hρ
  rw [List.length_mapIdx, List.length_map, List.take_length] at e
  have en : enumD (prD P) = some ((P.map partD).mapIdx fun i x => D.tup [.int i, x]) := rfl
  have s1 : evS S whl (.set 1 (.lst .nil)) [some (prD P), none, none, none, none, none, none, none] = some (.nx [some (prD P), some (.lst true []), none, none, none, none, none, none]) := by simp only [f0, f1, f2, f3, f4, f5, f6, f7, f8, encN.frz, encN.frzL, encN.clean, encN.cleanL, encQ.frz, encQ.frzL, encQ.clean, encQ.cleanL, srt_frz, srt_clean, ln_frz, ln_clean, lns_frz, lns_clean, pt_frz, pt_clean, pts_frz, pts_clean, pr_frz, pr_clean, frz_scr, frz_app, List.map_append, List.length_append, List.length_map, decide_true, decide_false, and_self, runF, evSs, evS, evT, evE, evAnd, evOr, evAndE, evOrE, evEs, evO, evC, evI, env0, endF, one, two, three, Eng.many, meth, chk, putD, appD, isLst, Eng.kept, Eng.kill, bindT, setAll, Tgt.slots, Exs.isNil, Ex.pure, Exs.pure, Ox.pure, Itr.pure, Ex.vars, Exs.vars, Ox.vars, Itr.vars, popD, popAtD, deepD, getP, putP, evP, callIO, ioArgs, ioSlot, ioOk, ioOut, ioV, ioClean, outs_from, outsGo, List.lookup_cons, List.lookup_nil, List.any_cons, List.any_nil, List.all_cons, List.all_nil, Exs.toList, Ex.isVar, frzE, cleanE, D.clean, cleanL, D.frz, frzL, frz_frz, frzL_frz, tru, get0_cons_zero, get0_cons_succ, get0_nil, List.set_cons_zero, List.set_cons_succ, frzAt_from, frzFrom, List.elem_cons, List.elem_nil, Nat.reduceBEq, List.length_cons, List.length_nil, List.map_cons, List.map_nil, List.replicate_succ, List.replicate_zero, List.cons_append, List.nil_append, List.append_nil, Option.map_some, Option.map_none, Option.bind_some, Option.bind_none, Option.isSome_some, Option.isSome_none, Nat.reduceSub, Nat.reduceAdd, List.range_eq_nil, Bool.not_false, Bool.not_true, Bool.or_true, Bool.true_or, Bool.or_false, Bool.false_or, Bool.and_true, Bool.true_and, Bool.and_false, Bool.false_and, Bool.not_not, Bool.false_eq_true, if_true, if_false, reduceIte, reduceCtorEq, x_blt_len, x_blt_int, x_blt_str, x_blt_list, x_blt_tuple, x_blt_max, x_blt_min, x_blt_sset, x_blt_sorted, x_sorted, x_sortd, x_mth_join, x_mth_upper, x_mth_index, x_isi_str_non, x_isi_str_bl, x_isi_str_int, x_isi_str_str, x_isi_str_lst, x_isi_str_tup, x_isi_str_dct, x_isi_int_non, x_isi_int_bl, x_isi_int_int, x_isi_int_str, x_isi_int_lst, x_isi_int_tup, x_isi_int_dct, x_isi_bool_non, x_isi_bool_bl, x_isi_bool_int, x_isi_bool_str, x_isi_bool_lst, x_isi_bool_tup, x_isi_bool_dct, x_isi_tuple_non, x_isi_tuple_bl, x_isi_tuple_int, x_isi_tuple_str, x_isi_tuple_lst, x_isi_tuple_tup, x_isi_tuple_dct, x_isi_list_non, x_isi_list_bl, x_isi_list_int, x_isi_list_str, x_isi_list_lst, x_isi_list_tup, x_isi_list_dct, x_tru_non, x_tru_bl, x_tru_int, x_tru_str, x_tru_lst, x_tru_tup, x_neg, x_sub_lst, x_sub_tup, x_sub_str, x_sub_dct, x_cut_lst, x_cut_tup, x_cut_str, x_len_str, x_len_lst, x_len_tup, x_len_dct, x_int_int, x_int_bl, x_str_int, x_list_lst, x_list_tup, x_list_dct, x_tuple_lst, x_tuple_tup, x_max, x_min, x_add_int, x_add_str, x_add_lst, x_add_tup, x_sub_int, x_mul, x_muls, x_fdiv, x_mod, x_pow, x_cmp_eq, x_cmp_ne, x_cmp_lt, x_cmp_le, x_cmp_gt, x_cmp_ge, x_cmp_isin, x_cmp_notin, x_cmp_is, x_cmp_isnot, x_lt_int, x_le_int, x_gt_int, x_ge_int, x_lt_str, x_le_str, x_is_non, x_is_bl, x_is_bl_non, x_is_int_non, x_is_str_non, x_is_lst_non, x_is_tup_non, x_is_dct_non, x_in_lst, x_in_tup, x_in_dct, x_in_str, x_wk_lst, x_wk_tup, x_wk_str, x_li, x_di_lst, x_di_tup, x_rg1, x_rg2, x_rg3, x_oi, x_db, x_bnm, x_btp, x_dput, x_dput_dct, x_key_int, x_key_str, x_rep_lst, x_rep_tup, x_rep_dct, x_sb1_lst, x_sb1_tup, x_sb1_dct, x_app1, x_eq_int, x_eq_bl]
  have s2 : evS S whl (.set 2 (.lst .nil)) [some (prD P), some (.lst true []), none, none, none, none, none, none] = some (.nx [some (prD P), some (.lst true []), some (.lst true []), none, none, none, none, none]) := by simp only [f0, f1, f2, f3, f4, f5, f6, f7, f8, encN.frz, encN.frzL, encN.clean, encN.cleanL, encQ.frz, encQ.frzL, encQ.clean, encQ.cleanL, srt_frz, srt_clean, ln_frz, ln_clean, lns_frz, lns_clean, pt_frz, pt_clean, pts_frz, pts_clean, pr_frz, pr_clean, frz_scr, frz_app, List.map_append, List.length_append, List.length_map, decide_true, decide_false, and_self, runF, evSs, evS, evT, evE, evAnd, evOr, evAndE, evOrE, evEs, evO, evC, evI, env0, endF, one, two, three, Eng.many, meth, chk, putD, appD, isLst, Eng.kept, Eng.kill, bindT, setAll, Tgt.slots, Exs.isNil, Ex.pure, Exs.pure, Ox.pure, Itr.pure, Ex.vars, Exs.vars, Ox.vars, Itr.vars, popD, popAtD, deepD, getP, putP, evP, callIO, ioArgs, ioSlot, ioOk, ioOut, ioV, ioClean, outs_from, outsGo, List.lookup_cons, List.lookup_nil, List.any_cons, List.any_nil, List.all_cons, List.all_nil, Exs.toList, Ex.isVar, frzE, cleanE, D.clean, cleanL, D.frz, frzL, frz_frz, frzL_frz, tru, get0_cons_zero, get0_cons_succ, get0_nil, List.set_cons_zero, List.set_cons_succ, frzAt_from, frzFrom, List.elem_cons, List.elem_nil, Nat.reduceBEq, List.length_cons, List.length_nil, List.map_cons, List.map_nil, List.replicate_succ, List.replicate_zero, List.cons_append, List.nil_append, List.append_nil, Option.map_some, Option.map_none, Option.bind_some, Option.bind_none, Option.isSome_some, Option.isSome_none, Nat.reduceSub, Nat.reduceAdd, List.range_eq_nil, Bool.not_false, Bool.not_true, Bool.or_true, Bool.true_or, Bool.or_false, Bool.false_or, Bool.and_true, Bool.true_and, Bool.and_false, Bool.false_and, Bool.not_not, Bool.false_eq_true, if_true, if_false, reduceIte, reduceCtorEq, x_blt_len, x_blt_int, x_blt_str, x_blt_list, x_blt_tuple, x_blt_max, x_blt_min, x_blt_sset, x_blt_sorted, x_sorted, x_sortd, x_mth_join, x_mth_upper, x_mth_index, x_isi_str_non, x_isi_str_bl, x_isi_str_int, x_isi_str_str, x_isi_str_lst, x_isi_str_tup, x_isi_str_dct, x_isi_int_non, x_isi_int_bl, x_isi_int_int, x_isi_int_str, x_isi_int_lst, x_isi_int_tup, x_isi_int_dct, x_isi_bool_non, x_isi_bool_bl, x_isi_bool_int, x_isi_bool_str, x_isi_bool_lst, x_isi_bool_tup, x_isi_bool_dct, x_isi_tuple_non, x_isi_tuple_bl, x_isi_tuple_int, x_isi_tuple_str, x_isi_tuple_lst, x_isi_tuple_tup, x_isi_tuple_dct, x_isi_list_non, x_isi_list_bl, x_isi_list_int, x_isi_list_str, x_isi_list_lst, x_isi_list_tup, x_isi_list_dct, x_tru_non, x_tru_bl, x_tru_int, x_tru_str, x_tru_lst, x_tru_tup, x_neg, x_sub_lst, x_sub_tup, x_sub_str, x_sub_dct, x_cut_lst, x_cut_tup, x_cut_str, x_len_str, x_len_lst, x_len_tup, x_len_dct, x_int_int, x_int_bl, x_str_int, x_list_lst, x_list_tup, x_list_dct, x_tuple_lst, x_tuple_tup, x_max, x_min, x_add_int, x_add_str, x_add_lst, x_add_tup, x_sub_int, x_mul, x_muls, x_fdiv, x_mod, x_pow, x_cmp_eq, x_cmp_ne, x_cmp_lt, x_cmp_le, x_cmp_gt, x_cmp_ge, x_cmp_isin, x_cmp_notin, x_cmp_is, x_cmp_isnot, x_lt_int, x_le_int, x_gt_int, x_ge_int, x_lt_str, x_le_str, x_is_non, x_is_bl, x_is_bl_non, x_is_int_non, x_is_str_non, x_is_lst_non, x_is_tup_non, x_is_dct_non, x_in_lst, x_in_tup, x_in_dct, x_in_str, x_wk_lst, x_wk_tup, x_wk_str, x_li, x_di_lst, x_di_tup, x_rg1, x_rg2, x_rg3, x_oi, x_db, x_bnm, x_btp, x_dput, x_dput_dct, x_key_int, x_key_str, x_rep_lst, x_rep_tup, x_rep_dct, x_sb1_lst, x_sb1_tup, x_sb1_dct, x_app1, x_eq_int, x_eq_bl]
  have s3 : evS S whl (.set 3 (.lst .nil)) [some (prD P), some (.lst true []), some (.lst true []), none, none, none, none, none] = some (.nx (DEnv P [] [] [] none none none none)) := by simp only [DEnv, List.map_nil, f0, f1, f2, f3, f4, f5, f6, f7, f8, encN.frz, encN.frzL, encN.clean, encN.cleanL, encQ.frz, encQ.frzL, encQ.clean, encQ.cleanL, srt_frz, srt_clean, ln_frz, ln_clean, lns_frz, lns_clean, pt_frz, pt_clean, pts_frz, pts_clean, pr_frz, pr_clean, frz_scr, frz_app, List.map_append, List.length_append, List.length_map, decide_true, decide_false, and_self, runF, evSs, evS, evT, evE, evAnd, evOr, evAndE, evOrE, evEs, evO, evC, evI, env0, endF, one, two, three, Eng.many, meth, chk, putD, appD, isLst, Eng.kept, Eng.kill, bindT, setAll, Tgt.slots, Exs.isNil, Ex.pure, Exs.pure, Ox.pure, Itr.pure, Ex.vars, Exs.vars, Ox.vars, Itr.vars, popD, popAtD, deepD, getP, putP, evP, callIO, ioArgs, ioSlot, ioOk, ioOut, ioV, ioClean, outs_from, outsGo, List.lookup_cons, List.lookup_nil, List.any_cons, List.any_nil, List.all_cons, List.all_nil, Exs.toList, Ex.isVar, frzE, cleanE, D.clean, cleanL, D.frz, frzL, frz_frz, frzL_frz, tru, get0_cons_zero, get0_cons_succ, get0_nil, List.set_cons_zero, List.set_cons_succ, frzAt_from, frzFrom, List.elem_cons, List.elem_nil, Nat.reduceBEq, List.length_cons, List.length_nil, List.map_cons, List.map_nil, List.replicate_succ, List.replicate_zero, List.cons_append, List.nil_append, List.append_nil, Option.map_some, Option.map_none, Option.bind_some, Option.bind_none, Option.isSome_some, Option.isSome_none, Nat.reduceSub, Nat.reduceAdd, List.range_eq_nil, Bool.not_false, Bool.not_true, Bool.or_true, Bool.true_or, Bool.or_false, Bool.false_or, Bool.and_true, Bool.true_and, Bool.and_false, Bool.false_and, Bool.not_not, Bool.false_eq_true, if_true, if_false, reduceIte, reduceCtorEq, x_blt_len, x_blt_int, x_blt_str, x_blt_list, x_blt_tuple, x_blt_max, x_blt_min, x_blt_sset, x_blt_sorted, x_sorted, x_sortd, x_mth_join, x_mth_upper, x_mth_index, x_isi_str_non, x_isi_str_bl, x_isi_str_int, x_isi_str_str, x_isi_str_lst, x_isi_str_tup, x_isi_str_dct, x_isi_int_non, x_isi_int_bl, x_isi_int_int, x_isi_int_str, x_isi_int_lst, x_isi_int_tup, x_isi_int_dct, x_isi_bool_non, x_isi_bool_bl, x_isi_bool_int, x_isi_bool_str, x_isi_bool_lst, x_isi_bool_tup, x_isi_bool_dct, x_isi_tuple_non, x_isi_tuple_bl, x_isi_tuple_int, x_isi_tuple_str, x_isi_tuple_lst, x_isi_tuple_tup, x_isi_tuple_dct, x_isi_list_non, x_isi_list_bl, x_isi_list_int, x_isi_list_str, x_isi_list_lst, x_isi_list_tup, x_isi_list_dct, x_tru_non, x_tru_bl, x_tru_int, x_tru_str, x_tru_lst, x_tru_tup, x_neg, x_sub_lst, x_sub_tup, x_sub_str, x_sub_dct, x_cut_lst, x_cut_tup, x_cut_str, x_len_str, x_len_lst, x_len_tup, x_len_dct, x_int_int, x_int_bl, x_str_int, x_list_lst, x_list_tup, x_list_dct, x_tuple_lst, x_tuple_tup, x_max, x_min, x_add_int, x_add_str, x_add_lst, x_add_tup, x_sub_int, x_mul, x_muls, x_fdiv, x_mod, x_pow, x_cmp_eq, x_cmp_ne, x_cmp_lt, x_cmp_le, x_cmp_gt, x_cmp_ge, x_cmp_isin, x_cmp_notin, x_cmp_is, x_cmp_isnot, x_lt_int, x_le_int, x_gt_int, x_ge_int, x_lt_str, x_le_str, x_is_non, x_is_bl, x_is_bl_non, x_is_int_non, x_is_str_non, x_is_lst_non, x_is_tup_non, x_is_dct_non, x_in_lst, x_in_tup, x_in_dct, x_in_str, x_wk_lst, x_wk_tup, x_wk_str, x_li, x_di_lst, x_di_tup, x_rg1, x_rg2, x_rg3, x_oi, x_db, x_bnm, x_btp, x_dput, x_dput_dct, x_key_int, x_key_str, x_rep_lst, x_rep_tup, x_rep_dct, x_sb1_lst, x_sb1_tup, x_sb1_dct, x_app1, x_eq_int, x_eq_bl]
  have s4 : evS S whl (.loop (.tp [4, 5]) (.enum (.var 0)) f_law_due_b2) (DEnv P [] [] [] none none none none) = some (.nx (DEnv P (bxs bxd P) (bxs wx P) (plcAt P P.length) x y z none)) := by
    simp only [DEnv, List.map_nil] at e
    simp only [DEnv, List.map_nil, bxs, en, e, f0, f1, f2, f3, f4, f5, f6, f7, f8, encN.frz, encN.frzL, encN.clean, encN.cleanL, encQ.frz, encQ.frzL, encQ.clean, encQ.cleanL, srt_frz, srt_clean, ln_frz, ln_clean, lns_frz, lns_clean, pt_frz, pt_clean, pts_frz, pts_clean, pr_frz, pr_clean, frz_scr, frz_app, List.map_append, List.length_append, List.length_map, decide_true, decide_false, and_self, runF, evSs, evS, evT, evE, evAnd, evOr, evAndE, evOrE, evEs, evO, evC, evI, env0, endF, one, two, three, Eng.many, meth, chk, putD, appD, isLst, Eng.kept, Eng.kill, bindT, setAll, Tgt.slots, Exs.isNil, Ex.pure, Exs.pure, Ox.pure, Itr.pure, Ex.vars, Exs.vars, Ox.vars, Itr.vars, popD, popAtD, deepD, getP, putP, evP, callIO, ioArgs, ioSlot, ioOk, ioOut, ioV, ioClean, outs_from, outsGo, List.lookup_cons, List.lookup_nil, List.any_cons, List.any_nil, List.all_cons, List.all_nil, Exs.toList, Ex.isVar, frzE, cleanE, D.clean, cleanL, D.frz, frzL, frz_frz, frzL_frz, tru, get0_cons_zero, get0_cons_succ, get0_nil, List.set_cons_zero, List.set_cons_succ, frzAt_from, frzFrom, List.elem_cons, List.elem_nil, Nat.reduceBEq, List.length_cons, List.length_nil, List.map_cons, List.map_nil, List.replicate_succ, List.replicate_zero, List.cons_append, List.nil_append, List.append_nil, Option.map_some, Option.map_none, Option.bind_some, Option.bind_none, Option.isSome_some, Option.isSome_none, Nat.reduceSub, Nat.reduceAdd, List.range_eq_nil, Bool.not_false, Bool.not_true, Bool.or_true, Bool.true_or, Bool.or_false, Bool.false_or, Bool.and_true, Bool.true_and, Bool.and_false, Bool.false_and, Bool.not_not, Bool.false_eq_true, if_true, if_false, reduceIte, reduceCtorEq, x_blt_len, x_blt_int, x_blt_str, x_blt_list, x_blt_tuple, x_blt_max, x_blt_min, x_blt_sset, x_blt_sorted, x_sorted, x_sortd, x_mth_join, x_mth_upper, x_mth_index, x_isi_str_non, x_isi_str_bl, x_isi_str_int, x_isi_str_str, x_isi_str_lst, x_isi_str_tup, x_isi_str_dct, x_isi_int_non, x_isi_int_bl, x_isi_int_int, x_isi_int_str, x_isi_int_lst, x_isi_int_tup, x_isi_int_dct, x_isi_bool_non, x_isi_bool_bl, x_isi_bool_int, x_isi_bool_str, x_isi_bool_lst, x_isi_bool_tup, x_isi_bool_dct, x_isi_tuple_non, x_isi_tuple_bl, x_isi_tuple_int, x_isi_tuple_str, x_isi_tuple_lst, x_isi_tuple_tup, x_isi_tuple_dct, x_isi_list_non, x_isi_list_bl, x_isi_list_int, x_isi_list_str, x_isi_list_lst, x_isi_list_tup, x_isi_list_dct, x_tru_non, x_tru_bl, x_tru_int, x_tru_str, x_tru_lst, x_tru_tup, x_neg, x_sub_lst, x_sub_tup, x_sub_str, x_sub_dct, x_cut_lst, x_cut_tup, x_cut_str, x_len_str, x_len_lst, x_len_tup, x_len_dct, x_int_int, x_int_bl, x_str_int, x_list_lst, x_list_tup, x_list_dct, x_tuple_lst, x_tuple_tup, x_max, x_min, x_add_int, x_add_str, x_add_lst, x_add_tup, x_sub_int, x_mul, x_muls, x_fdiv, x_mod, x_pow, x_cmp_eq, x_cmp_ne, x_cmp_lt, x_cmp_le, x_cmp_gt, x_cmp_ge, x_cmp_isin, x_cmp_notin, x_cmp_is, x_cmp_isnot, x_lt_int, x_le_int, x_gt_int, x_ge_int, x_lt_str, x_le_str, x_is_non, x_is_bl, x_is_bl_non, x_is_int_non, x_is_str_non, x_is_lst_non, x_is_tup_non, x_is_dct_non, x_in_lst, x_in_tup, x_in_dct, x_in_str, x_wk_lst, x_wk_tup, x_wk_str, x_li, x_di_lst, x_di_tup, x_rg1, x_rg2, x_rg3, x_oi, x_db, x_bnm, x_btp, x_dput, x_dput_dct, x_key_int, x_key_str, x_rep_lst, x_rep_tup, x_rep_dct, x_sb1_lst, x_sb1_tup, x_sb1_dct, x_app1, x_eq_int, x_eq_bl]
  have q1 := srt_lst false (bxs bxd P)
  have q2 := srt_lst false (bxs wx P)
  obtain ⟨ρ9, s5⟩ : ∃ ρ9, evS S whl (.ret (.lst (.cons (.blt .sorted (.cons (.var 1) .nil)) (.cons (.blt .sorted (.cons (.var 2) .nil)) (.cons (.var 3) .nil))))) (DEnv P (bxs bxd P) (bxs wx P) (plcAt P P.length) x y z none) = some (.rt (dueD P) ρ9) := by
    refine ⟨[some (prD P), some (.lst false ((bxs bxd P).map tx)), some (.lst false ((bxs wx P).map tx)), some (.lst false ((plcAt P P.length).map plD)), x, y, z, none], ?_⟩
    simp only [DEnv, dueD, x_blt_sorted, q1, q2, f0, f1, f2, f3, f4, f5, f6, f7, f8, encN.frz, encN.frzL, encN.clean, encN.cleanL, encQ.frz, encQ.frzL, encQ.clean, encQ.cleanL, srt_frz, srt_clean, ln_frz, ln_clean, lns_frz, lns_clean, pt_frz, pt_clean, pts_frz, pts_clean, pr_frz, pr_clean, frz_scr, frz_app, List.map_append, List.length_append, List.length_map, decide_true, decide_false, and_self, runF, evSs, evS, evT, evE, evAnd, evOr, evAndE, evOrE, evEs, evO, evC, evI, env0, endF, one, two, three, Eng.many, meth, chk, putD, appD, isLst, Eng.kept, Eng.kill, bindT, setAll, Tgt.slots, Exs.isNil, Ex.pure, Exs.pure, Ox.pure, Itr.pure, Ex.vars, Exs.vars, Ox.vars, Itr.vars, popD, popAtD, deepD, getP, putP, evP, callIO, ioArgs, ioSlot, ioOk, ioOut, ioV, ioClean, outs_from, outsGo, List.lookup_cons, List.lookup_nil, List.any_cons, List.any_nil, List.all_cons, List.all_nil, Exs.toList, Ex.isVar, frzE, cleanE, D.clean, cleanL, D.frz, frzL, frz_frz, frzL_frz, tru, get0_cons_zero, get0_cons_succ, get0_nil, List.set_cons_zero, List.set_cons_succ, frzAt_from, frzFrom, List.elem_cons, List.elem_nil, Nat.reduceBEq, List.length_cons, List.length_nil, List.map_cons, List.map_nil, List.replicate_succ, List.replicate_zero, List.cons_append, List.nil_append, List.append_nil, Option.map_some, Option.map_none, Option.bind_some, Option.bind_none, Option.isSome_some, Option.isSome_none, Nat.reduceSub, Nat.reduceAdd, List.range_eq_nil, Bool.not_false, Bool.not_true, Bool.or_true, Bool.true_or, Bool.or_false, Bool.false_or, Bool.and_true, Bool.true_and, Bool.and_false, Bool.false_and, Bool.not_not, Bool.false_eq_true, if_true, if_false, reduceIte, reduceCtorEq, x_blt_len, x_blt_int, x_blt_str, x_blt_list, x_blt_tuple, x_blt_max, x_blt_min, x_blt_sset, x_blt_sorted, x_sorted, x_sortd, x_mth_join, x_mth_upper, x_mth_index, x_isi_str_non, x_isi_str_bl, x_isi_str_int, x_isi_str_str, x_isi_str_lst, x_isi_str_tup, x_isi_str_dct, x_isi_int_non, x_isi_int_bl, x_isi_int_int, x_isi_int_str, x_isi_int_lst, x_isi_int_tup, x_isi_int_dct, x_isi_bool_non, x_isi_bool_bl, x_isi_bool_int, x_isi_bool_str, x_isi_bool_lst, x_isi_bool_tup, x_isi_bool_dct, x_isi_tuple_non, x_isi_tuple_bl, x_isi_tuple_int, x_isi_tuple_str, x_isi_tuple_lst, x_isi_tuple_tup, x_isi_tuple_dct, x_isi_list_non, x_isi_list_bl, x_isi_list_int, x_isi_list_str, x_isi_list_lst, x_isi_list_tup, x_isi_list_dct, x_tru_non, x_tru_bl, x_tru_int, x_tru_str, x_tru_lst, x_tru_tup, x_neg, x_sub_lst, x_sub_tup, x_sub_str, x_sub_dct, x_cut_lst, x_cut_tup, x_cut_str, x_len_str, x_len_lst, x_len_tup, x_len_dct, x_int_int, x_int_bl, x_str_int, x_list_lst, x_list_tup, x_list_dct, x_tuple_lst, x_tuple_tup, x_max, x_min, x_add_int, x_add_str, x_add_lst, x_add_tup, x_sub_int, x_mul, x_muls, x_fdiv, x_mod, x_pow, x_cmp_eq, x_cmp_ne, x_cmp_lt, x_cmp_le, x_cmp_gt, x_cmp_ge, x_cmp_isin, x_cmp_notin, x_cmp_is, x_cmp_isnot, x_lt_int, x_le_int, x_gt_int, x_ge_int, x_lt_str, x_le_str, x_is_non, x_is_bl, x_is_bl_non, x_is_int_non, x_is_str_non, x_is_lst_non, x_is_tup_non, x_is_dct_non, x_in_lst, x_in_tup, x_in_dct, x_in_str, x_wk_lst, x_wk_tup, x_wk_str, x_li, x_di_lst, x_di_tup, x_rg1, x_rg2, x_rg3, x_oi, x_db, x_bnm, x_btp, x_dput, x_dput_dct, x_key_int, x_key_str, x_rep_lst, x_rep_tup, x_rep_dct, x_sb1_lst, x_sb1_tup, x_sb1_dct, x_app1, x_eq_int, x_eq_bl]
  exact run_of rfl (seq_nx s1 (seq_nx s2 (seq_nx s3 (seq_nx s4 (seq_rt s5))))) rfl
end
end K05
namespace K05
open PySem PySem.Spec PyProof.Rows L2 RT Eng Lib
theorem mem_bx (n : Ln) (x : Nm) : x ∈ bx n ↔ x ∈ bxd n := by
  cases n with
  | pair a w y z =>
    simp only [bx, bxd, List.mem_cons, List.not_mem_nil, or_false]
    constructor
    · rintro (h | h | h)
      · exact .inr (.inr h)
      · exact .inl h
      · exact .inr (.inl h)
    · rintro (h | h | h)
      · exact .inr (.inl h)
      · exact .inr (.inr h)
      · exact .inl h
  | _ => exact Iff.rfl
theorem same (P : List Part) : srt (bxs bx P) = srt (bxs bxd P) := by
  refine srt_one (ins_nd _ _ List.nodup_nil) (ins_nd _ _ List.nodup_nil) fun x => ?_
  unfold bxs
  rw [mem_ins, mem_ins]
  simp only [List.mem_flatMap, mem_bx]
/-! shapes -/
theorem lay_lns : ∀ l : List Ln, PyData.canLayAll0 (pyL (l.map lnD)) = true ∧ PyData.depthAll (pyL (l.map lnD)) ≤ 1
  | [] => ⟨rfl, Nat.zero_le _⟩
  | n :: l => by
    obtain ⟨h1, h2⟩ := lay_lns l
    have a1 : PyData.canLay0 (lnD n).py = true := by
      have st : ∀ (x : Nm), PyData.canLay0 (tx x).py = true := fun x => x.2
      cases n with
      | pair x w y z =>
        show (PyData.canLay0 (D.str "pair").py && (PyData.canLay0 (tx x).py && (PyData.canLay0 (tx w).py && (PyData.canLay0 (tx y).py && (PyData.canLay0 (tx z).py && true))))) = true
        rw [st, st, st, st]; decide +kernel
      | two k x y =>
        show (PyData.canLay0 (D.str (twoW k)).py && (PyData.canLay0 (tx x).py && (PyData.canLay0 (tx y).py && true))) = true
        rw [st, st]; revert k; decide +kernel
      | one k x =>
        show (PyData.canLay0 (D.str (oneW k)).py && (PyData.canLay0 (tx x).py && true)) = true
        rw [st]; revert k; decide +kernel
      | back w =>
        show (PyData.canLay0 (D.str "back").py && (PyData.canLay0 (tx w).py && true)) = true
        rw [st]; decide +kernel
      | doo w =>
        show (PyData.canLay0 (D.str "do").py && (PyData.canLay0 (tx w).py && true)) = true
        rw [st]; decide +kernel
      | kw k =>
        show (PyData.canLay0 (D.str (kwW k)).py && true) = true
        revert k; decide +kernel
    have a2 : PyData.depth (lnD n).py ≤ 1 := by
      cases n <;> (show max 0 _ + 1 ≤ 1; first | exact Nat.le_refl _ | decide)
    refine ⟨?_, ?_⟩
    · show (PyData.canLay0 (lnD n).py && PyData.canLayAll0 (pyL (l.map lnD))) = true
      rw [a1, h1]; rfl
    · show max (PyData.depth (lnD n).py) (PyData.depthAll (pyL (l.map lnD))) ≤ 1
      omega
theorem lay_parts : ∀ P : List Part, PyData.canLayAll0 (pyL (P.map partD)) = true ∧ PyData.depthAll (pyL (P.map partD)) ≤ 3
  | [] => ⟨rfl, Nat.zero_le _⟩
  | p :: P => by
    obtain ⟨h1, h2⟩ := lay_parts P
    obtain ⟨g1, g2⟩ := lay_lns p.2
    refine ⟨?_, ?_⟩
    · show ((PyData.canLay0 (tx p.1).py && (PyData.canLayAll0 (pyL (p.2.map lnD)) && true)) && PyData.canLayAll0 (pyL (P.map partD))) = true
      rw [g1, h1, show PyData.canLay0 (tx p.1).py = true from p.1.2]; rfl
    · show max (max 0 (max (PyData.depthAll (pyL (p.2.map lnD)) + 1) 0) + 1) (PyData.depthAll (pyL (P.map partD))) ≤ 3
      omega
theorem eq_self {d : D} (h1 : d.py.canLay0 = true) (h2 : d.py.depth ≤ 64) : dEq d d = some true := by
  have sh : shp d = true := by
    show (d.py.canLay0 && decide (d.py.depth ≤ 64)) = true
    rw [h1, Bool.true_and]; exact decide_eq_true h2
  unfold dEq
  rw [sh]
  simp only [Bool.and_self, if_true]
  rw [SeqAt.eqv_refl _ h1]
theorem pr_eq (P : List Part) : dEq (prD P) (prD P) = some true := by
  obtain ⟨h1, h2⟩ := lay_parts P
  refine eq_self (show PyData.canLayAll0 (pyL (P.map partD)) = true from h1) ?_
  show PyData.depthAll (pyL (P.map partD)) + 1 ≤ 64
  omega
theorem lay_srt (l : List Nm) : PyData.canLayAll0 (pyL (srt l)) = true ∧ PyData.depthAll (pyL (srt l)) ≤ 20 := by
  obtain ⟨m, e, _⟩ := srt_ex l
  rw [e]; exact encN.layL m
abbrev fndD (o : Bool) (a b : List Nm) (Q : List Pl) : D := .lst o [.lst o (srt a), .lst o (srt b), .lst o (Q.map plD)]
theorem fnd_eq (a b : List Nm) (Q : List Pl) : dEq (fndD false a b Q) (fndD false a b Q) = some true := by
  obtain ⟨h1, h2⟩ := lay_srt a
  obtain ⟨h3, h4⟩ := lay_srt b
  obtain ⟨h5, h6⟩ := encQ.layL Q
  refine eq_self ?_ ?_
  · show (PyData.canLayAll0 (pyL (srt a)) && (PyData.canLayAll0 (pyL (srt b)) && (PyData.canLayAll0 (pyL (Q.map plD)) && true))) = true
    rw [h1, h3, h5]; rfl
  · show max (PyData.depthAll (pyL (srt a)) + 1) (max (PyData.depthAll (pyL (srt b)) + 1) (max (PyData.depthAll (pyL (Q.map plD)) + 1) 0)) + 1 ≤ 64
    omega
theorem no_false (o : Bool) : ∀ (n : Nat), dIn (.bl false) (.lst o (List.replicate n (.bl true))) = some false := fun n => by
  have key : ∀ n, PyData.canLayAll0 (pyL (List.replicate n (.bl true))) = true ∧ PyData.depthAll (pyL (List.replicate n (.bl true))) = 0 ∧ ((List.replicate n (D.bl true)).any fun z => PyData.eqv z.py (D.bl false).py) = false := fun n => by
    induction n with
    | zero => exact ⟨rfl, rfl, rfl⟩
    | succ n ih =>
      obtain ⟨a, b, c⟩ := ih
      refine ⟨?_, ?_, ?_⟩
      · rw [List.replicate_succ]
        show (true && PyData.canLayAll0 (pyL (List.replicate n (.bl true)))) = true
        rw [a]; rfl
      · rw [List.replicate_succ]
        show max 0 (PyData.depthAll (pyL (List.replicate n (.bl true)))) = 0
        rw [b]; rfl
      · rw [List.replicate_succ, List.any_cons, c]; rfl
  obtain ⟨a, b, c⟩ := key n
  show (if shp (.bl false) && shp (.lst false (List.replicate n (.bl true))) then some ((List.replicate n (D.bl true)).any fun z => PyData.eqv z.py (D.bl false).py) else none) = _
  have s1 : shp (.bl false) = true := by decide +kernel
  have s2 : shp (.lst false (List.replicate n (.bl true))) = true := by
    show (PyData.canLayAll0 (pyL (List.replicate n (.bl true))) && decide (PyData.depthAll (pyL (List.replicate n (.bl true))) + 1 ≤ 64)) = true
    rw [a, b]; rfl
  rw [s1, s2, c]; rfl
abbrev WEnv (ns : List Int) (P : List Part) (Du : D) (t fo one pl : Option D) : Rho := [some (scr ns), some (prD P), some Du, t, fo, one, pl]
theorem law_t (S : Sem0) (ns : List Int) (P : List Part) (Du : D) (A B : List D) (Q : List Pl) (la : A.length ≤ 1000) (lb : B.length ≤ 1000) (hl : Q.length ≤ 1000) (ca : cleanL A = true) (cb : cleanL B = true) (za : frzL A = A) (zb : frzL B = B)
    (hb : S.call "boxes_of" [prD P] = some (.lst true A, [none])) (hw : S.call "words_of" [prD P] = some (.lst true B, [none])) (hp : S.call "places_of" [prD P] = some (.lst true (Q.map plD), [none]))
    (fz : Du.frz = .lst false [.lst false A, .lst false B, .lst false (Q.map plD)]) (fe : dEq (.lst false [.lst false A, .lst false B, .lst false (Q.map plD)]) (.lst false [.lst false A, .lst false B, .lst false (Q.map plD)]) = some true) (t fo : Option D) :
    ∃ fo', evSs S whl f_law_b1 (WEnv ns P Du t fo none none) = some (.nx (WEnv ns P Du t fo' none none)) := by
  have s1 : evS S whl (.set 4 (.lst (.cons (.call "boxes_of" (.cons (.var 1) .nil)) (.cons (.call "words_of" (.cons (.var 1) .nil)) (.cons (.call "places_of" (.cons (.var 1) .nil)) .nil))))) (WEnv ns P Du t fo none none) = some (.nx (WEnv ns P Du t (some (.lst true [.lst true A, .lst true B, .lst true (Q.map plD)])) none none)) := by
    simp only [WEnv, hb, hw, hp, ca, cb, f0, f1, f2, f3, f4, f5, f6, f7, f8, encN.frz, encN.frzL, encN.clean, encN.cleanL, encQ.frz, encQ.frzL, encQ.clean, encQ.cleanL, srt_frz, srt_clean, pr_frz, pr_clean, frz_scr, frz_app, List.map_append, List.length_append, List.length_map, decide_true, decide_false, and_self, runF, evSs, evS, evT, evE, evAnd, evOr, evAndE, evOrE, evEs, evO, evC, evI, env0, endF, one, two, three, Eng.many, meth, chk, putD, appD, isLst, Eng.kept, Eng.kill, bindT, setAll, Tgt.slots, Exs.isNil, Ex.pure, Exs.pure, Ox.pure, Itr.pure, Ex.vars, Exs.vars, Ox.vars, Itr.vars, popD, popAtD, deepD, getP, putP, evP, callIO, ioArgs, ioSlot, ioOk, ioOut, ioV, ioClean, outs_from, outsGo, List.lookup_cons, List.lookup_nil, List.any_cons, List.any_nil, List.all_cons, List.all_nil, Exs.toList, Ex.isVar, frzE, cleanE, D.clean, cleanL, D.frz, frzL, frz_frz, frzL_frz, tru, get0_cons_zero, get0_cons_succ, get0_nil, List.set_cons_zero, List.set_cons_succ, frzAt_from, frzFrom, List.elem_cons, List.elem_nil, Nat.reduceBEq, List.length_cons, List.length_nil, List.map_cons, List.map_nil, List.replicate_succ, List.replicate_zero, List.cons_append, List.nil_append, List.append_nil, Option.map_some, Option.map_none, Option.bind_some, Option.bind_none, Option.isSome_some, Option.isSome_none, Nat.reduceSub, Nat.reduceAdd, List.range_eq_nil, Bool.not_false, Bool.not_true, Bool.or_true, Bool.true_or, Bool.or_false, Bool.false_or, Bool.and_true, Bool.true_and, Bool.and_false, Bool.false_and, Bool.not_not, Bool.false_eq_true, if_true, if_false, reduceIte, reduceCtorEq, x_blt_len, x_blt_int, x_blt_str, x_blt_list, x_blt_tuple, x_blt_max, x_blt_min, x_blt_sset, x_blt_sorted, x_sorted, x_sortd, x_mth_join, x_mth_upper, x_mth_index, x_isi_str_non, x_isi_str_bl, x_isi_str_int, x_isi_str_str, x_isi_str_lst, x_isi_str_tup, x_isi_str_dct, x_isi_int_non, x_isi_int_bl, x_isi_int_int, x_isi_int_str, x_isi_int_lst, x_isi_int_tup, x_isi_int_dct, x_isi_bool_non, x_isi_bool_bl, x_isi_bool_int, x_isi_bool_str, x_isi_bool_lst, x_isi_bool_tup, x_isi_bool_dct, x_isi_tuple_non, x_isi_tuple_bl, x_isi_tuple_int, x_isi_tuple_str, x_isi_tuple_lst, x_isi_tuple_tup, x_isi_tuple_dct, x_isi_list_non, x_isi_list_bl, x_isi_list_int, x_isi_list_str, x_isi_list_lst, x_isi_list_tup, x_isi_list_dct, x_tru_non, x_tru_bl, x_tru_int, x_tru_str, x_tru_lst, x_tru_tup, x_neg, x_sub_lst, x_sub_tup, x_sub_str, x_sub_dct, x_cut_lst, x_cut_tup, x_cut_str, x_len_str, x_len_lst, x_len_tup, x_len_dct, x_int_int, x_int_bl, x_str_int, x_list_lst, x_list_tup, x_list_dct, x_tuple_lst, x_tuple_tup, x_max, x_min, x_add_int, x_add_str, x_add_lst, x_add_tup, x_sub_int, x_mul, x_muls, x_fdiv, x_mod, x_pow, x_cmp_eq, x_cmp_ne, x_cmp_lt, x_cmp_le, x_cmp_gt, x_cmp_ge, x_cmp_isin, x_cmp_notin, x_cmp_is, x_cmp_isnot, x_lt_int, x_le_int, x_gt_int, x_ge_int, x_lt_str, x_le_str, x_is_non, x_is_bl, x_is_bl_non, x_is_int_non, x_is_str_non, x_is_lst_non, x_is_tup_non, x_is_dct_non, x_in_lst, x_in_tup, x_in_dct, x_in_str, x_wk_lst, x_wk_tup, x_wk_str, x_li, x_di_lst, x_di_tup, x_rg1, x_rg2, x_rg3, x_oi, x_db, x_bnm, x_btp, x_dput, x_dput_dct, x_key_int, x_key_str, x_rep_lst, x_rep_tup, x_rep_dct, x_sb1_lst, x_sb1_tup, x_sb1_dct, x_app1, x_eq_int, x_eq_bl]
  have c1 := compL_map (tg := .nm 5) (cond := evC S .none) (elt := evE S (.isi (.var 5) .list)) (pur := true) (ρ := [some (scr ns), some (prD P), some Du, t, some (.lst false [.lst false A, .lst false B, .lst false (Q.map plD)]), none, none]) (fun _ => true) (fun _ => .bl true) (ds := [.lst false A, .lst false B, .lst false (Q.map plD)]) (fun d hd => by
    have : ∃ xs, d = .lst false xs := by
      rcases List.mem_cons.mp hd with e | hd
      · exact ⟨_, e⟩
      rcases List.mem_cons.mp hd with e | hd
      · exact ⟨_, e⟩
      · exact ⟨_, List.mem_singleton.mp hd⟩
    obtain ⟨xs, rfl⟩ := this
    refine ⟨[some (scr ns), some (prD P), some Du, t, some (.lst false [.lst false A, .lst false B, .lst false (Q.map plD)]), some (.lst false xs), none], rfl, ?_, fun _ => ⟨?_, rfl⟩, ?_⟩
    · simp only [f0, f1, f2, f3, f4, f5, f6, f7, f8, encN.frz, encN.frzL, encN.clean, encN.cleanL, encQ.frz, encQ.frzL, encQ.clean, encQ.cleanL, srt_frz, srt_clean, pr_frz, pr_clean, frz_scr, frz_app, List.map_append, List.length_append, List.length_map, decide_true, decide_false, and_self, runF, evSs, evS, evT, evE, evAnd, evOr, evAndE, evOrE, evEs, evO, evC, evI, env0, endF, one, two, three, Eng.many, meth, chk, putD, appD, isLst, Eng.kept, Eng.kill, bindT, setAll, Tgt.slots, Exs.isNil, Ex.pure, Exs.pure, Ox.pure, Itr.pure, Ex.vars, Exs.vars, Ox.vars, Itr.vars, popD, popAtD, deepD, getP, putP, evP, callIO, ioArgs, ioSlot, ioOk, ioOut, ioV, ioClean, outs_from, outsGo, List.lookup_cons, List.lookup_nil, List.any_cons, List.any_nil, List.all_cons, List.all_nil, Exs.toList, Ex.isVar, frzE, cleanE, D.clean, cleanL, D.frz, frzL, frz_frz, frzL_frz, tru, get0_cons_zero, get0_cons_succ, get0_nil, List.set_cons_zero, List.set_cons_succ, frzAt_from, frzFrom, List.elem_cons, List.elem_nil, Nat.reduceBEq, List.length_cons, List.length_nil, List.map_cons, List.map_nil, List.replicate_succ, List.replicate_zero, List.cons_append, List.nil_append, List.append_nil, Option.map_some, Option.map_none, Option.bind_some, Option.bind_none, Option.isSome_some, Option.isSome_none, Nat.reduceSub, Nat.reduceAdd, List.range_eq_nil, Bool.not_false, Bool.not_true, Bool.or_true, Bool.true_or, Bool.or_false, Bool.false_or, Bool.and_true, Bool.true_and, Bool.and_false, Bool.false_and, Bool.not_not, Bool.false_eq_true, if_true, if_false, reduceIte, reduceCtorEq, x_blt_len, x_blt_int, x_blt_str, x_blt_list, x_blt_tuple, x_blt_max, x_blt_min, x_blt_sset, x_blt_sorted, x_sorted, x_sortd, x_mth_join, x_mth_upper, x_mth_index, x_isi_str_non, x_isi_str_bl, x_isi_str_int, x_isi_str_str, x_isi_str_lst, x_isi_str_tup, x_isi_str_dct, x_isi_int_non, x_isi_int_bl, x_isi_int_int, x_isi_int_str, x_isi_int_lst, x_isi_int_tup, x_isi_int_dct, x_isi_bool_non, x_isi_bool_bl, x_isi_bool_int, x_isi_bool_str, x_isi_bool_lst, x_isi_bool_tup, x_isi_bool_dct, x_isi_tuple_non, x_isi_tuple_bl, x_isi_tuple_int, x_isi_tuple_str, x_isi_tuple_lst, x_isi_tuple_tup, x_isi_tuple_dct, x_isi_list_non, x_isi_list_bl, x_isi_list_int, x_isi_list_str, x_isi_list_lst, x_isi_list_tup, x_isi_list_dct, x_tru_non, x_tru_bl, x_tru_int, x_tru_str, x_tru_lst, x_tru_tup, x_neg, x_sub_lst, x_sub_tup, x_sub_str, x_sub_dct, x_cut_lst, x_cut_tup, x_cut_str, x_len_str, x_len_lst, x_len_tup, x_len_dct, x_int_int, x_int_bl, x_str_int, x_list_lst, x_list_tup, x_list_dct, x_tuple_lst, x_tuple_tup, x_max, x_min, x_add_int, x_add_str, x_add_lst, x_add_tup, x_sub_int, x_mul, x_muls, x_fdiv, x_mod, x_pow, x_cmp_eq, x_cmp_ne, x_cmp_lt, x_cmp_le, x_cmp_gt, x_cmp_ge, x_cmp_isin, x_cmp_notin, x_cmp_is, x_cmp_isnot, x_lt_int, x_le_int, x_gt_int, x_ge_int, x_lt_str, x_le_str, x_is_non, x_is_bl, x_is_bl_non, x_is_int_non, x_is_str_non, x_is_lst_non, x_is_tup_non, x_is_dct_non, x_in_lst, x_in_tup, x_in_dct, x_in_str, x_wk_lst, x_wk_tup, x_wk_str, x_li, x_di_lst, x_di_tup, x_rg1, x_rg2, x_rg3, x_oi, x_db, x_bnm, x_btp, x_dput, x_dput_dct, x_key_int, x_key_str, x_rep_lst, x_rep_tup, x_rep_dct, x_sb1_lst, x_sb1_tup, x_sb1_dct, x_app1, x_eq_int, x_eq_bl]
    · simp only [f0, f1, f2, f3, f4, f5, f6, f7, f8, encN.frz, encN.frzL, encN.clean, encN.cleanL, encQ.frz, encQ.frzL, encQ.clean, encQ.cleanL, srt_frz, srt_clean, pr_frz, pr_clean, frz_scr, frz_app, List.map_append, List.length_append, List.length_map, decide_true, decide_false, and_self, runF, evSs, evS, evT, evE, evAnd, evOr, evAndE, evOrE, evEs, evO, evC, evI, env0, endF, one, two, three, Eng.many, meth, chk, putD, appD, isLst, Eng.kept, Eng.kill, bindT, setAll, Tgt.slots, Exs.isNil, Ex.pure, Exs.pure, Ox.pure, Itr.pure, Ex.vars, Exs.vars, Ox.vars, Itr.vars, popD, popAtD, deepD, getP, putP, evP, callIO, ioArgs, ioSlot, ioOk, ioOut, ioV, ioClean, outs_from, outsGo, List.lookup_cons, List.lookup_nil, List.any_cons, List.any_nil, List.all_cons, List.all_nil, Exs.toList, Ex.isVar, frzE, cleanE, D.clean, cleanL, D.frz, frzL, frz_frz, frzL_frz, tru, get0_cons_zero, get0_cons_succ, get0_nil, List.set_cons_zero, List.set_cons_succ, frzAt_from, frzFrom, List.elem_cons, List.elem_nil, Nat.reduceBEq, List.length_cons, List.length_nil, List.map_cons, List.map_nil, List.replicate_succ, List.replicate_zero, List.cons_append, List.nil_append, List.append_nil, Option.map_some, Option.map_none, Option.bind_some, Option.bind_none, Option.isSome_some, Option.isSome_none, Nat.reduceSub, Nat.reduceAdd, List.range_eq_nil, Bool.not_false, Bool.not_true, Bool.or_true, Bool.true_or, Bool.or_false, Bool.false_or, Bool.and_true, Bool.true_and, Bool.and_false, Bool.false_and, Bool.not_not, Bool.false_eq_true, if_true, if_false, reduceIte, reduceCtorEq, x_blt_len, x_blt_int, x_blt_str, x_blt_list, x_blt_tuple, x_blt_max, x_blt_min, x_blt_sset, x_blt_sorted, x_sorted, x_sortd, x_mth_join, x_mth_upper, x_mth_index, x_isi_str_non, x_isi_str_bl, x_isi_str_int, x_isi_str_str, x_isi_str_lst, x_isi_str_tup, x_isi_str_dct, x_isi_int_non, x_isi_int_bl, x_isi_int_int, x_isi_int_str, x_isi_int_lst, x_isi_int_tup, x_isi_int_dct, x_isi_bool_non, x_isi_bool_bl, x_isi_bool_int, x_isi_bool_str, x_isi_bool_lst, x_isi_bool_tup, x_isi_bool_dct, x_isi_tuple_non, x_isi_tuple_bl, x_isi_tuple_int, x_isi_tuple_str, x_isi_tuple_lst, x_isi_tuple_tup, x_isi_tuple_dct, x_isi_list_non, x_isi_list_bl, x_isi_list_int, x_isi_list_str, x_isi_list_lst, x_isi_list_tup, x_isi_list_dct, x_tru_non, x_tru_bl, x_tru_int, x_tru_str, x_tru_lst, x_tru_tup, x_neg, x_sub_lst, x_sub_tup, x_sub_str, x_sub_dct, x_cut_lst, x_cut_tup, x_cut_str, x_len_str, x_len_lst, x_len_tup, x_len_dct, x_int_int, x_int_bl, x_str_int, x_list_lst, x_list_tup, x_list_dct, x_tuple_lst, x_tuple_tup, x_max, x_min, x_add_int, x_add_str, x_add_lst, x_add_tup, x_sub_int, x_mul, x_muls, x_fdiv, x_mod, x_pow, x_cmp_eq, x_cmp_ne, x_cmp_lt, x_cmp_le, x_cmp_gt, x_cmp_ge, x_cmp_isin, x_cmp_notin, x_cmp_is, x_cmp_isnot, x_lt_int, x_le_int, x_gt_int, x_ge_int, x_lt_str, x_le_str, x_is_non, x_is_bl, x_is_bl_non, x_is_int_non, x_is_str_non, x_is_lst_non, x_is_tup_non, x_is_dct_non, x_in_lst, x_in_tup, x_in_dct, x_in_str, x_wk_lst, x_wk_tup, x_wk_str, x_li, x_di_lst, x_di_tup, x_rg1, x_rg2, x_rg3, x_oi, x_db, x_bnm, x_btp, x_dput, x_dput_dct, x_key_int, x_key_str, x_rep_lst, x_rep_tup, x_rep_dct, x_sb1_lst, x_sb1_tup, x_sb1_dct, x_app1, x_eq_int, x_eq_bl]
    · simp only [f0, f1, f2, f3, f4, f5, f6, f7, f8, encN.frz, encN.frzL, encN.clean, encN.cleanL, encQ.frz, encQ.frzL, encQ.clean, encQ.cleanL, srt_frz, srt_clean, pr_frz, pr_clean, frz_scr, frz_app, List.map_append, List.length_append, List.length_map, decide_true, decide_false, and_self, runF, evSs, evS, evT, evE, evAnd, evOr, evAndE, evOrE, evEs, evO, evC, evI, env0, endF, one, two, three, Eng.many, meth, chk, putD, appD, isLst, Eng.kept, Eng.kill, bindT, setAll, Tgt.slots, Exs.isNil, Ex.pure, Exs.pure, Ox.pure, Itr.pure, Ex.vars, Exs.vars, Ox.vars, Itr.vars, popD, popAtD, deepD, getP, putP, evP, callIO, ioArgs, ioSlot, ioOk, ioOut, ioV, ioClean, outs_from, outsGo, List.lookup_cons, List.lookup_nil, List.any_cons, List.any_nil, List.all_cons, List.all_nil, Exs.toList, Ex.isVar, frzE, cleanE, D.clean, cleanL, D.frz, frzL, frz_frz, frzL_frz, tru, get0_cons_zero, get0_cons_succ, get0_nil, List.set_cons_zero, List.set_cons_succ, frzAt_from, frzFrom, List.elem_cons, List.elem_nil, Nat.reduceBEq, List.length_cons, List.length_nil, List.map_cons, List.map_nil, List.replicate_succ, List.replicate_zero, List.cons_append, List.nil_append, List.append_nil, Option.map_some, Option.map_none, Option.bind_some, Option.bind_none, Option.isSome_some, Option.isSome_none, Nat.reduceSub, Nat.reduceAdd, List.range_eq_nil, Bool.not_false, Bool.not_true, Bool.or_true, Bool.true_or, Bool.or_false, Bool.false_or, Bool.and_true, Bool.true_and, Bool.and_false, Bool.false_and, Bool.not_not, Bool.false_eq_true, if_true, if_false, reduceIte, reduceCtorEq, x_blt_len, x_blt_int, x_blt_str, x_blt_list, x_blt_tuple, x_blt_max, x_blt_min, x_blt_sset, x_blt_sorted, x_sorted, x_sortd, x_mth_join, x_mth_upper, x_mth_index, x_isi_str_non, x_isi_str_bl, x_isi_str_int, x_isi_str_str, x_isi_str_lst, x_isi_str_tup, x_isi_str_dct, x_isi_int_non, x_isi_int_bl, x_isi_int_int, x_isi_int_str, x_isi_int_lst, x_isi_int_tup, x_isi_int_dct, x_isi_bool_non, x_isi_bool_bl, x_isi_bool_int, x_isi_bool_str, x_isi_bool_lst, x_isi_bool_tup, x_isi_bool_dct, x_isi_tuple_non, x_isi_tuple_bl, x_isi_tuple_int, x_isi_tuple_str, x_isi_tuple_lst, x_isi_tuple_tup, x_isi_tuple_dct, x_isi_list_non, x_isi_list_bl, x_isi_list_int, x_isi_list_str, x_isi_list_lst, x_isi_list_tup, x_isi_list_dct, x_tru_non, x_tru_bl, x_tru_int, x_tru_str, x_tru_lst, x_tru_tup, x_neg, x_sub_lst, x_sub_tup, x_sub_str, x_sub_dct, x_cut_lst, x_cut_tup, x_cut_str, x_len_str, x_len_lst, x_len_tup, x_len_dct, x_int_int, x_int_bl, x_str_int, x_list_lst, x_list_tup, x_list_dct, x_tuple_lst, x_tuple_tup, x_max, x_min, x_add_int, x_add_str, x_add_lst, x_add_tup, x_sub_int, x_mul, x_muls, x_fdiv, x_mod, x_pow, x_cmp_eq, x_cmp_ne, x_cmp_lt, x_cmp_le, x_cmp_gt, x_cmp_ge, x_cmp_isin, x_cmp_notin, x_cmp_is, x_cmp_isnot, x_lt_int, x_le_int, x_gt_int, x_ge_int, x_lt_str, x_le_str, x_is_non, x_is_bl, x_is_bl_non, x_is_int_non, x_is_str_non, x_is_lst_non, x_is_tup_non, x_is_dct_non, x_in_lst, x_in_tup, x_in_dct, x_in_str, x_wk_lst, x_wk_tup, x_wk_str, x_li, x_di_lst, x_di_tup, x_rg1, x_rg2, x_rg3, x_oi, x_db, x_bnm, x_btp, x_dput, x_dput_dct, x_key_int, x_key_str, x_rep_lst, x_rep_tup, x_rep_dct, x_sb1_lst, x_sb1_tup, x_sb1_dct, x_app1, x_eq_int, x_eq_bl])
  rw [List.filter_eq_self.mpr (fun _ _ => rfl)] at c1
  simp only [f0, f1, f2, f3, f4, f5, f6, f7, f8, encN.frz, encN.frzL, encN.clean, encN.cleanL, encQ.frz, encQ.frzL, encQ.clean, encQ.cleanL, srt_frz, srt_clean, pr_frz, pr_clean, frz_scr, frz_app, List.map_append, List.length_append, List.length_map, decide_true, decide_false, and_self, runF, evSs, evS, evT, evE, evAnd, evOr, evAndE, evOrE, evEs, evO, evC, evI, env0, endF, one, two, three, Eng.many, meth, chk, putD, appD, isLst, Eng.kept, Eng.kill, bindT, setAll, Tgt.slots, Exs.isNil, Ex.pure, Exs.pure, Ox.pure, Itr.pure, Ex.vars, Exs.vars, Ox.vars, Itr.vars, popD, popAtD, deepD, getP, putP, evP, callIO, ioArgs, ioSlot, ioOk, ioOut, ioV, ioClean, outs_from, outsGo, List.lookup_cons, List.lookup_nil, List.any_cons, List.any_nil, List.all_cons, List.all_nil, Exs.toList, Ex.isVar, frzE, cleanE, D.clean, cleanL, D.frz, frzL, frz_frz, frzL_frz, tru, get0_cons_zero, get0_cons_succ, get0_nil, List.set_cons_zero, List.set_cons_succ, frzAt_from, frzFrom, List.elem_cons, List.elem_nil, Nat.reduceBEq, List.length_cons, List.length_nil, List.map_cons, List.map_nil, List.replicate_succ, List.replicate_zero, List.cons_append, List.nil_append, List.append_nil, Option.map_some, Option.map_none, Option.bind_some, Option.bind_none, Option.isSome_some, Option.isSome_none, Nat.reduceSub, Nat.reduceAdd, List.range_eq_nil, Bool.not_false, Bool.not_true, Bool.or_true, Bool.true_or, Bool.or_false, Bool.false_or, Bool.and_true, Bool.true_and, Bool.and_false, Bool.false_and, Bool.not_not, Bool.false_eq_true, if_true, if_false, reduceIte, reduceCtorEq, x_blt_len, x_blt_int, x_blt_str, x_blt_list, x_blt_tuple, x_blt_max, x_blt_min, x_blt_sset, x_blt_sorted, x_sorted, x_sortd, x_mth_join, x_mth_upper, x_mth_index, x_isi_str_non, x_isi_str_bl, x_isi_str_int, x_isi_str_str, x_isi_str_lst, x_isi_str_tup, x_isi_str_dct, x_isi_int_non, x_isi_int_bl, x_isi_int_int, x_isi_int_str, x_isi_int_lst, x_isi_int_tup, x_isi_int_dct, x_isi_bool_non, x_isi_bool_bl, x_isi_bool_int, x_isi_bool_str, x_isi_bool_lst, x_isi_bool_tup, x_isi_bool_dct, x_isi_tuple_non, x_isi_tuple_bl, x_isi_tuple_int, x_isi_tuple_str, x_isi_tuple_lst, x_isi_tuple_tup, x_isi_tuple_dct, x_isi_list_non, x_isi_list_bl, x_isi_list_int, x_isi_list_str, x_isi_list_lst, x_isi_list_tup, x_isi_list_dct, x_tru_non, x_tru_bl, x_tru_int, x_tru_str, x_tru_lst, x_tru_tup, x_neg, x_sub_lst, x_sub_tup, x_sub_str, x_sub_dct, x_cut_lst, x_cut_tup, x_cut_str, x_len_str, x_len_lst, x_len_tup, x_len_dct, x_int_int, x_int_bl, x_str_int, x_list_lst, x_list_tup, x_list_dct, x_tuple_lst, x_tuple_tup, x_max, x_min, x_add_int, x_add_str, x_add_lst, x_add_tup, x_sub_int, x_mul, x_muls, x_fdiv, x_mod, x_pow, x_cmp_eq, x_cmp_ne, x_cmp_lt, x_cmp_le, x_cmp_gt, x_cmp_ge, x_cmp_isin, x_cmp_notin, x_cmp_is, x_cmp_isnot, x_lt_int, x_le_int, x_gt_int, x_ge_int, x_lt_str, x_le_str, x_is_non, x_is_bl, x_is_bl_non, x_is_int_non, x_is_str_non, x_is_lst_non, x_is_tup_non, x_is_dct_non, x_in_lst, x_in_tup, x_in_dct, x_in_str, x_wk_lst, x_wk_tup, x_wk_str, x_li, x_di_lst, x_di_tup, x_rg1, x_rg2, x_rg3, x_oi, x_db, x_bnm, x_btp, x_dput, x_dput_dct, x_key_int, x_key_str, x_rep_lst, x_rep_tup, x_rep_dct, x_sb1_lst, x_sb1_tup, x_sb1_dct, x_app1, x_eq_int, x_eq_bl] at c1
  have n1 := no_false false 3
  have r3 : List.replicate 3 (D.bl true) = [.bl true, .bl true, .bl true] := rfl
  rw [r3] at n1
  have s2 : evS S whl (.ife (.or (.cons (.cmp .ne (.var 4) (.var 2)) (.cons (.cmp .isin (.con (.bl false)) (.comp (.isi (.var 5) .list) (.nm 5) (.of (.var 4)) .none)) .nil))) (.cons (.ret (.con (.bl false))) .nil) .nil) (WEnv ns P Du t (some (.lst true [.lst true A, .lst true B, .lst true (Q.map plD)])) none none) = some (.nx (WEnv ns P Du t (some (.lst true [.lst true A, .lst true B, .lst true (Q.map plD)])) none none)) := by
    simp only [WEnv, fz, fe, za, zb, ca, cb, c1, n1, f0, f1, f2, f3, f4, f5, f6, f7, f8, encN.frz, encN.frzL, encN.clean, encN.cleanL, encQ.frz, encQ.frzL, encQ.clean, encQ.cleanL, srt_frz, srt_clean, pr_frz, pr_clean, frz_scr, frz_app, List.map_append, List.length_append, List.length_map, decide_true, decide_false, and_self, runF, evSs, evS, evT, evE, evAnd, evOr, evAndE, evOrE, evEs, evO, evC, evI, env0, endF, one, two, three, Eng.many, meth, chk, putD, appD, isLst, Eng.kept, Eng.kill, bindT, setAll, Tgt.slots, Exs.isNil, Ex.pure, Exs.pure, Ox.pure, Itr.pure, Ex.vars, Exs.vars, Ox.vars, Itr.vars, popD, popAtD, deepD, getP, putP, evP, callIO, ioArgs, ioSlot, ioOk, ioOut, ioV, ioClean, outs_from, outsGo, List.lookup_cons, List.lookup_nil, List.any_cons, List.any_nil, List.all_cons, List.all_nil, Exs.toList, Ex.isVar, frzE, cleanE, D.clean, cleanL, D.frz, frzL, frz_frz, frzL_frz, tru, get0_cons_zero, get0_cons_succ, get0_nil, List.set_cons_zero, List.set_cons_succ, frzAt_from, frzFrom, List.elem_cons, List.elem_nil, Nat.reduceBEq, List.length_cons, List.length_nil, List.map_cons, List.map_nil, List.replicate_succ, List.replicate_zero, List.cons_append, List.nil_append, List.append_nil, Option.map_some, Option.map_none, Option.bind_some, Option.bind_none, Option.isSome_some, Option.isSome_none, Nat.reduceSub, Nat.reduceAdd, List.range_eq_nil, Bool.not_false, Bool.not_true, Bool.or_true, Bool.true_or, Bool.or_false, Bool.false_or, Bool.and_true, Bool.true_and, Bool.and_false, Bool.false_and, Bool.not_not, Bool.false_eq_true, if_true, if_false, reduceIte, reduceCtorEq, x_blt_len, x_blt_int, x_blt_str, x_blt_list, x_blt_tuple, x_blt_max, x_blt_min, x_blt_sset, x_blt_sorted, x_sorted, x_sortd, x_mth_join, x_mth_upper, x_mth_index, x_isi_str_non, x_isi_str_bl, x_isi_str_int, x_isi_str_str, x_isi_str_lst, x_isi_str_tup, x_isi_str_dct, x_isi_int_non, x_isi_int_bl, x_isi_int_int, x_isi_int_str, x_isi_int_lst, x_isi_int_tup, x_isi_int_dct, x_isi_bool_non, x_isi_bool_bl, x_isi_bool_int, x_isi_bool_str, x_isi_bool_lst, x_isi_bool_tup, x_isi_bool_dct, x_isi_tuple_non, x_isi_tuple_bl, x_isi_tuple_int, x_isi_tuple_str, x_isi_tuple_lst, x_isi_tuple_tup, x_isi_tuple_dct, x_isi_list_non, x_isi_list_bl, x_isi_list_int, x_isi_list_str, x_isi_list_lst, x_isi_list_tup, x_isi_list_dct, x_tru_non, x_tru_bl, x_tru_int, x_tru_str, x_tru_lst, x_tru_tup, x_neg, x_sub_lst, x_sub_tup, x_sub_str, x_sub_dct, x_cut_lst, x_cut_tup, x_cut_str, x_len_str, x_len_lst, x_len_tup, x_len_dct, x_int_int, x_int_bl, x_str_int, x_list_lst, x_list_tup, x_list_dct, x_tuple_lst, x_tuple_tup, x_max, x_min, x_add_int, x_add_str, x_add_lst, x_add_tup, x_sub_int, x_mul, x_muls, x_fdiv, x_mod, x_pow, x_cmp_eq, x_cmp_ne, x_cmp_lt, x_cmp_le, x_cmp_gt, x_cmp_ge, x_cmp_isin, x_cmp_notin, x_cmp_is, x_cmp_isnot, x_lt_int, x_le_int, x_gt_int, x_ge_int, x_lt_str, x_le_str, x_is_non, x_is_bl, x_is_bl_non, x_is_int_non, x_is_str_non, x_is_lst_non, x_is_tup_non, x_is_dct_non, x_in_lst, x_in_tup, x_in_dct, x_in_str, x_wk_lst, x_wk_tup, x_wk_str, x_li, x_di_lst, x_di_tup, x_rg1, x_rg2, x_rg3, x_oi, x_db, x_bnm, x_btp, x_dput, x_dput_dct, x_key_int, x_key_str, x_rep_lst, x_rep_tup, x_rep_dct, x_sb1_lst, x_sb1_tup, x_sb1_dct, x_app1, x_eq_int, x_eq_bl]
  have c2 := compL_mapA (f := plD) (g := fun _ => .bl true) (tg := .nm 6) (cond := evC S .none) (elt := evE S (.isi (.var 6) .tuple)) (pur := true) (ρ := [some (scr ns), some (prD P), some Du, t, some (.lst false [.lst false A, .lst false B, .lst false (Q.map plD)]), none, none]) (fun _ => true) (l := Q) (fun q _ => by
    refine ⟨[some (scr ns), some (prD P), some Du, t, some (.lst false [.lst false A, .lst false B, .lst false (Q.map plD)]), none, some (plD q)], rfl, ?_, fun _ => ⟨?_, rfl⟩, ?_⟩
    · simp only [f0, f1, f2, f3, f4, f5, f6, f7, f8, encN.frz, encN.frzL, encN.clean, encN.cleanL, encQ.frz, encQ.frzL, encQ.clean, encQ.cleanL, srt_frz, srt_clean, pr_frz, pr_clean, frz_scr, frz_app, List.map_append, List.length_append, List.length_map, decide_true, decide_false, and_self, runF, evSs, evS, evT, evE, evAnd, evOr, evAndE, evOrE, evEs, evO, evC, evI, env0, endF, one, two, three, Eng.many, meth, chk, putD, appD, isLst, Eng.kept, Eng.kill, bindT, setAll, Tgt.slots, Exs.isNil, Ex.pure, Exs.pure, Ox.pure, Itr.pure, Ex.vars, Exs.vars, Ox.vars, Itr.vars, popD, popAtD, deepD, getP, putP, evP, callIO, ioArgs, ioSlot, ioOk, ioOut, ioV, ioClean, outs_from, outsGo, List.lookup_cons, List.lookup_nil, List.any_cons, List.any_nil, List.all_cons, List.all_nil, Exs.toList, Ex.isVar, frzE, cleanE, D.clean, cleanL, D.frz, frzL, frz_frz, frzL_frz, tru, get0_cons_zero, get0_cons_succ, get0_nil, List.set_cons_zero, List.set_cons_succ, frzAt_from, frzFrom, List.elem_cons, List.elem_nil, Nat.reduceBEq, List.length_cons, List.length_nil, List.map_cons, List.map_nil, List.replicate_succ, List.replicate_zero, List.cons_append, List.nil_append, List.append_nil, Option.map_some, Option.map_none, Option.bind_some, Option.bind_none, Option.isSome_some, Option.isSome_none, Nat.reduceSub, Nat.reduceAdd, List.range_eq_nil, Bool.not_false, Bool.not_true, Bool.or_true, Bool.true_or, Bool.or_false, Bool.false_or, Bool.and_true, Bool.true_and, Bool.and_false, Bool.false_and, Bool.not_not, Bool.false_eq_true, if_true, if_false, reduceIte, reduceCtorEq, x_blt_len, x_blt_int, x_blt_str, x_blt_list, x_blt_tuple, x_blt_max, x_blt_min, x_blt_sset, x_blt_sorted, x_sorted, x_sortd, x_mth_join, x_mth_upper, x_mth_index, x_isi_str_non, x_isi_str_bl, x_isi_str_int, x_isi_str_str, x_isi_str_lst, x_isi_str_tup, x_isi_str_dct, x_isi_int_non, x_isi_int_bl, x_isi_int_int, x_isi_int_str, x_isi_int_lst, x_isi_int_tup, x_isi_int_dct, x_isi_bool_non, x_isi_bool_bl, x_isi_bool_int, x_isi_bool_str, x_isi_bool_lst, x_isi_bool_tup, x_isi_bool_dct, x_isi_tuple_non, x_isi_tuple_bl, x_isi_tuple_int, x_isi_tuple_str, x_isi_tuple_lst, x_isi_tuple_tup, x_isi_tuple_dct, x_isi_list_non, x_isi_list_bl, x_isi_list_int, x_isi_list_str, x_isi_list_lst, x_isi_list_tup, x_isi_list_dct, x_tru_non, x_tru_bl, x_tru_int, x_tru_str, x_tru_lst, x_tru_tup, x_neg, x_sub_lst, x_sub_tup, x_sub_str, x_sub_dct, x_cut_lst, x_cut_tup, x_cut_str, x_len_str, x_len_lst, x_len_tup, x_len_dct, x_int_int, x_int_bl, x_str_int, x_list_lst, x_list_tup, x_list_dct, x_tuple_lst, x_tuple_tup, x_max, x_min, x_add_int, x_add_str, x_add_lst, x_add_tup, x_sub_int, x_mul, x_muls, x_fdiv, x_mod, x_pow, x_cmp_eq, x_cmp_ne, x_cmp_lt, x_cmp_le, x_cmp_gt, x_cmp_ge, x_cmp_isin, x_cmp_notin, x_cmp_is, x_cmp_isnot, x_lt_int, x_le_int, x_gt_int, x_ge_int, x_lt_str, x_le_str, x_is_non, x_is_bl, x_is_bl_non, x_is_int_non, x_is_str_non, x_is_lst_non, x_is_tup_non, x_is_dct_non, x_in_lst, x_in_tup, x_in_dct, x_in_str, x_wk_lst, x_wk_tup, x_wk_str, x_li, x_di_lst, x_di_tup, x_rg1, x_rg2, x_rg3, x_oi, x_db, x_bnm, x_btp, x_dput, x_dput_dct, x_key_int, x_key_str, x_rep_lst, x_rep_tup, x_rep_dct, x_sb1_lst, x_sb1_tup, x_sb1_dct, x_app1, x_eq_int, x_eq_bl]
    · simp only [plD, f0, f1, f2, f3, f4, f5, f6, f7, f8, encN.frz, encN.frzL, encN.clean, encN.cleanL, encQ.frz, encQ.frzL, encQ.clean, encQ.cleanL, srt_frz, srt_clean, pr_frz, pr_clean, frz_scr, frz_app, List.map_append, List.length_append, List.length_map, decide_true, decide_false, and_self, runF, evSs, evS, evT, evE, evAnd, evOr, evAndE, evOrE, evEs, evO, evC, evI, env0, endF, one, two, three, Eng.many, meth, chk, putD, appD, isLst, Eng.kept, Eng.kill, bindT, setAll, Tgt.slots, Exs.isNil, Ex.pure, Exs.pure, Ox.pure, Itr.pure, Ex.vars, Exs.vars, Ox.vars, Itr.vars, popD, popAtD, deepD, getP, putP, evP, callIO, ioArgs, ioSlot, ioOk, ioOut, ioV, ioClean, outs_from, outsGo, List.lookup_cons, List.lookup_nil, List.any_cons, List.any_nil, List.all_cons, List.all_nil, Exs.toList, Ex.isVar, frzE, cleanE, D.clean, cleanL, D.frz, frzL, frz_frz, frzL_frz, tru, get0_cons_zero, get0_cons_succ, get0_nil, List.set_cons_zero, List.set_cons_succ, frzAt_from, frzFrom, List.elem_cons, List.elem_nil, Nat.reduceBEq, List.length_cons, List.length_nil, List.map_cons, List.map_nil, List.replicate_succ, List.replicate_zero, List.cons_append, List.nil_append, List.append_nil, Option.map_some, Option.map_none, Option.bind_some, Option.bind_none, Option.isSome_some, Option.isSome_none, Nat.reduceSub, Nat.reduceAdd, List.range_eq_nil, Bool.not_false, Bool.not_true, Bool.or_true, Bool.true_or, Bool.or_false, Bool.false_or, Bool.and_true, Bool.true_and, Bool.and_false, Bool.false_and, Bool.not_not, Bool.false_eq_true, if_true, if_false, reduceIte, reduceCtorEq, x_blt_len, x_blt_int, x_blt_str, x_blt_list, x_blt_tuple, x_blt_max, x_blt_min, x_blt_sset, x_blt_sorted, x_sorted, x_sortd, x_mth_join, x_mth_upper, x_mth_index, x_isi_str_non, x_isi_str_bl, x_isi_str_int, x_isi_str_str, x_isi_str_lst, x_isi_str_tup, x_isi_str_dct, x_isi_int_non, x_isi_int_bl, x_isi_int_int, x_isi_int_str, x_isi_int_lst, x_isi_int_tup, x_isi_int_dct, x_isi_bool_non, x_isi_bool_bl, x_isi_bool_int, x_isi_bool_str, x_isi_bool_lst, x_isi_bool_tup, x_isi_bool_dct, x_isi_tuple_non, x_isi_tuple_bl, x_isi_tuple_int, x_isi_tuple_str, x_isi_tuple_lst, x_isi_tuple_tup, x_isi_tuple_dct, x_isi_list_non, x_isi_list_bl, x_isi_list_int, x_isi_list_str, x_isi_list_lst, x_isi_list_tup, x_isi_list_dct, x_tru_non, x_tru_bl, x_tru_int, x_tru_str, x_tru_lst, x_tru_tup, x_neg, x_sub_lst, x_sub_tup, x_sub_str, x_sub_dct, x_cut_lst, x_cut_tup, x_cut_str, x_len_str, x_len_lst, x_len_tup, x_len_dct, x_int_int, x_int_bl, x_str_int, x_list_lst, x_list_tup, x_list_dct, x_tuple_lst, x_tuple_tup, x_max, x_min, x_add_int, x_add_str, x_add_lst, x_add_tup, x_sub_int, x_mul, x_muls, x_fdiv, x_mod, x_pow, x_cmp_eq, x_cmp_ne, x_cmp_lt, x_cmp_le, x_cmp_gt, x_cmp_ge, x_cmp_isin, x_cmp_notin, x_cmp_is, x_cmp_isnot, x_lt_int, x_le_int, x_gt_int, x_ge_int, x_lt_str, x_le_str, x_is_non, x_is_bl, x_is_bl_non, x_is_int_non, x_is_str_non, x_is_lst_non, x_is_tup_non, x_is_dct_non, x_in_lst, x_in_tup, x_in_dct, x_in_str, x_wk_lst, x_wk_tup, x_wk_str, x_li, x_di_lst, x_di_tup, x_rg1, x_rg2, x_rg3, x_oi, x_db, x_bnm, x_btp, x_dput, x_dput_dct, x_key_int, x_key_str, x_rep_lst, x_rep_tup, x_rep_dct, x_sb1_lst, x_sb1_tup, x_sb1_dct, x_app1, x_eq_int, x_eq_bl]
    · simp only [f0, f1, f2, f3, f4, f5, f6, f7, f8, encN.frz, encN.frzL, encN.clean, encN.cleanL, encQ.frz, encQ.frzL, encQ.clean, encQ.cleanL, srt_frz, srt_clean, pr_frz, pr_clean, frz_scr, frz_app, List.map_append, List.length_append, List.length_map, decide_true, decide_false, and_self, runF, evSs, evS, evT, evE, evAnd, evOr, evAndE, evOrE, evEs, evO, evC, evI, env0, endF, one, two, three, Eng.many, meth, chk, putD, appD, isLst, Eng.kept, Eng.kill, bindT, setAll, Tgt.slots, Exs.isNil, Ex.pure, Exs.pure, Ox.pure, Itr.pure, Ex.vars, Exs.vars, Ox.vars, Itr.vars, popD, popAtD, deepD, getP, putP, evP, callIO, ioArgs, ioSlot, ioOk, ioOut, ioV, ioClean, outs_from, outsGo, List.lookup_cons, List.lookup_nil, List.any_cons, List.any_nil, List.all_cons, List.all_nil, Exs.toList, Ex.isVar, frzE, cleanE, D.clean, cleanL, D.frz, frzL, frz_frz, frzL_frz, tru, get0_cons_zero, get0_cons_succ, get0_nil, List.set_cons_zero, List.set_cons_succ, frzAt_from, frzFrom, List.elem_cons, List.elem_nil, Nat.reduceBEq, List.length_cons, List.length_nil, List.map_cons, List.map_nil, List.replicate_succ, List.replicate_zero, List.cons_append, List.nil_append, List.append_nil, Option.map_some, Option.map_none, Option.bind_some, Option.bind_none, Option.isSome_some, Option.isSome_none, Nat.reduceSub, Nat.reduceAdd, List.range_eq_nil, Bool.not_false, Bool.not_true, Bool.or_true, Bool.true_or, Bool.or_false, Bool.false_or, Bool.and_true, Bool.true_and, Bool.and_false, Bool.false_and, Bool.not_not, Bool.false_eq_true, if_true, if_false, reduceIte, reduceCtorEq, x_blt_len, x_blt_int, x_blt_str, x_blt_list, x_blt_tuple, x_blt_max, x_blt_min, x_blt_sset, x_blt_sorted, x_sorted, x_sortd, x_mth_join, x_mth_upper, x_mth_index, x_isi_str_non, x_isi_str_bl, x_isi_str_int, x_isi_str_str, x_isi_str_lst, x_isi_str_tup, x_isi_str_dct, x_isi_int_non, x_isi_int_bl, x_isi_int_int, x_isi_int_str, x_isi_int_lst, x_isi_int_tup, x_isi_int_dct, x_isi_bool_non, x_isi_bool_bl, x_isi_bool_int, x_isi_bool_str, x_isi_bool_lst, x_isi_bool_tup, x_isi_bool_dct, x_isi_tuple_non, x_isi_tuple_bl, x_isi_tuple_int, x_isi_tuple_str, x_isi_tuple_lst, x_isi_tuple_tup, x_isi_tuple_dct, x_isi_list_non, x_isi_list_bl, x_isi_list_int, x_isi_list_str, x_isi_list_lst, x_isi_list_tup, x_isi_list_dct, x_tru_non, x_tru_bl, x_tru_int, x_tru_str, x_tru_lst, x_tru_tup, x_neg, x_sub_lst, x_sub_tup, x_sub_str, x_sub_dct, x_cut_lst, x_cut_tup, x_cut_str, x_len_str, x_len_lst, x_len_tup, x_len_dct, x_int_int, x_int_bl, x_str_int, x_list_lst, x_list_tup, x_list_dct, x_tuple_lst, x_tuple_tup, x_max, x_min, x_add_int, x_add_str, x_add_lst, x_add_tup, x_sub_int, x_mul, x_muls, x_fdiv, x_mod, x_pow, x_cmp_eq, x_cmp_ne, x_cmp_lt, x_cmp_le, x_cmp_gt, x_cmp_ge, x_cmp_isin, x_cmp_notin, x_cmp_is, x_cmp_isnot, x_lt_int, x_le_int, x_gt_int, x_ge_int, x_lt_str, x_le_str, x_is_non, x_is_bl, x_is_bl_non, x_is_int_non, x_is_str_non, x_is_lst_non, x_is_tup_non, x_is_dct_non, x_in_lst, x_in_tup, x_in_dct, x_in_str, x_wk_lst, x_wk_tup, x_wk_str, x_li, x_di_lst, x_di_tup, x_rg1, x_rg2, x_rg3, x_oi, x_db, x_bnm, x_btp, x_dput, x_dput_dct, x_key_int, x_key_str, x_rep_lst, x_rep_tup, x_rep_dct, x_sb1_lst, x_sb1_tup, x_sb1_dct, x_app1, x_eq_int, x_eq_bl])
  rw [List.filter_eq_self.mpr (fun _ _ => rfl)] at c2
  have rq : Q.map (fun _ => D.bl true) = List.replicate Q.length (.bl true) := List.map_const' ..
  rw [rq] at c2
  simp only [f0, f1, f2, f3, f4, f5, f6, f7, f8, encN.frz, encN.frzL, encN.clean, encN.cleanL, encQ.frz, encQ.frzL, encQ.clean, encQ.cleanL, srt_frz, srt_clean, pr_frz, pr_clean, frz_scr, frz_app, List.map_append, List.length_append, List.length_map, decide_true, decide_false, and_self, runF, evSs, evS, evT, evE, evAnd, evOr, evAndE, evOrE, evEs, evO, evC, evI, env0, endF, one, two, three, Eng.many, meth, chk, putD, appD, isLst, Eng.kept, Eng.kill, bindT, setAll, Tgt.slots, Exs.isNil, Ex.pure, Exs.pure, Ox.pure, Itr.pure, Ex.vars, Exs.vars, Ox.vars, Itr.vars, popD, popAtD, deepD, getP, putP, evP, callIO, ioArgs, ioSlot, ioOk, ioOut, ioV, ioClean, outs_from, outsGo, List.lookup_cons, List.lookup_nil, List.any_cons, List.any_nil, List.all_cons, List.all_nil, Exs.toList, Ex.isVar, frzE, cleanE, D.clean, cleanL, D.frz, frzL, frz_frz, frzL_frz, tru, get0_cons_zero, get0_cons_succ, get0_nil, List.set_cons_zero, List.set_cons_succ, frzAt_from, frzFrom, List.elem_cons, List.elem_nil, Nat.reduceBEq, List.length_cons, List.length_nil, List.map_cons, List.map_nil, List.replicate_succ, List.replicate_zero, List.cons_append, List.nil_append, List.append_nil, Option.map_some, Option.map_none, Option.bind_some, Option.bind_none, Option.isSome_some, Option.isSome_none, Nat.reduceSub, Nat.reduceAdd, List.range_eq_nil, Bool.not_false, Bool.not_true, Bool.or_true, Bool.true_or, Bool.or_false, Bool.false_or, Bool.and_true, Bool.true_and, Bool.and_false, Bool.false_and, Bool.not_not, Bool.false_eq_true, if_true, if_false, reduceIte, reduceCtorEq, x_blt_len, x_blt_int, x_blt_str, x_blt_list, x_blt_tuple, x_blt_max, x_blt_min, x_blt_sset, x_blt_sorted, x_sorted, x_sortd, x_mth_join, x_mth_upper, x_mth_index, x_isi_str_non, x_isi_str_bl, x_isi_str_int, x_isi_str_str, x_isi_str_lst, x_isi_str_tup, x_isi_str_dct, x_isi_int_non, x_isi_int_bl, x_isi_int_int, x_isi_int_str, x_isi_int_lst, x_isi_int_tup, x_isi_int_dct, x_isi_bool_non, x_isi_bool_bl, x_isi_bool_int, x_isi_bool_str, x_isi_bool_lst, x_isi_bool_tup, x_isi_bool_dct, x_isi_tuple_non, x_isi_tuple_bl, x_isi_tuple_int, x_isi_tuple_str, x_isi_tuple_lst, x_isi_tuple_tup, x_isi_tuple_dct, x_isi_list_non, x_isi_list_bl, x_isi_list_int, x_isi_list_str, x_isi_list_lst, x_isi_list_tup, x_isi_list_dct, x_tru_non, x_tru_bl, x_tru_int, x_tru_str, x_tru_lst, x_tru_tup, x_neg, x_sub_lst, x_sub_tup, x_sub_str, x_sub_dct, x_cut_lst, x_cut_tup, x_cut_str, x_len_str, x_len_lst, x_len_tup, x_len_dct, x_int_int, x_int_bl, x_str_int, x_list_lst, x_list_tup, x_list_dct, x_tuple_lst, x_tuple_tup, x_max, x_min, x_add_int, x_add_str, x_add_lst, x_add_tup, x_sub_int, x_mul, x_muls, x_fdiv, x_mod, x_pow, x_cmp_eq, x_cmp_ne, x_cmp_lt, x_cmp_le, x_cmp_gt, x_cmp_ge, x_cmp_isin, x_cmp_notin, x_cmp_is, x_cmp_isnot, x_lt_int, x_le_int, x_gt_int, x_ge_int, x_lt_str, x_le_str, x_is_non, x_is_bl, x_is_bl_non, x_is_int_non, x_is_str_non, x_is_lst_non, x_is_tup_non, x_is_dct_non, x_in_lst, x_in_tup, x_in_dct, x_in_str, x_wk_lst, x_wk_tup, x_wk_str, x_li, x_di_lst, x_di_tup, x_rg1, x_rg2, x_rg3, x_oi, x_db, x_bnm, x_btp, x_dput, x_dput_dct, x_key_int, x_key_str, x_rep_lst, x_rep_tup, x_rep_dct, x_sb1_lst, x_sb1_tup, x_sb1_dct, x_app1, x_eq_int, x_eq_bl] at c2
  have n2 := no_false false Q.length
  have fQ : fits Q.length = true := fit_le (by omega)
  have fA : fits (A.length + 1) = true := fit_le (by omega)
  have fB : fits (B.length + 1) = true := fit_le (by omega)
  have fQ1 : fits (Q.length + 1) = true := fit_le (by omega)
  have i2 : atI [D.lst false A, .lst false B, .lst false (Q.map plD)] 2 = some (.lst false (Q.map plD)) := rfl
  have fr : frzL (List.replicate Q.length (D.bl true)) = List.replicate Q.length (D.bl true) := by
    generalize Q.length = n
    induction n with
    | zero => rfl
    | succ n ih => rw [List.replicate_succ, frzL, ih]; rfl
  have s3 : evS S whl (.ife (.cmp .isin (.con (.bl false)) (.comp (.isi (.var 6) .tuple) (.nm 6) (.of (.sub (.var 4) (.con (.int 2)))) .none)) (.cons (.ret (.con (.bl false))) .nil) .nil) (WEnv ns P Du t (some (.lst true [.lst true A, .lst true B, .lst true (Q.map plD)])) none none) = some (.nx (WEnv ns P Du t (some (.lst true [.lst true A, .lst true B, .lst true (Q.map plD)])) none none)) := by
    simp only [WEnv, za, zb, i2, c2, n2, fQ, fr, f0, f1, f2, f3, f4, f5, f6, f7, f8, encN.frz, encN.frzL, encN.clean, encN.cleanL, encQ.frz, encQ.frzL, encQ.clean, encQ.cleanL, srt_frz, srt_clean, pr_frz, pr_clean, frz_scr, frz_app, List.map_append, List.length_append, List.length_map, decide_true, decide_false, and_self, runF, evSs, evS, evT, evE, evAnd, evOr, evAndE, evOrE, evEs, evO, evC, evI, env0, endF, one, two, three, Eng.many, meth, chk, putD, appD, isLst, Eng.kept, Eng.kill, bindT, setAll, Tgt.slots, Exs.isNil, Ex.pure, Exs.pure, Ox.pure, Itr.pure, Ex.vars, Exs.vars, Ox.vars, Itr.vars, popD, popAtD, deepD, getP, putP, evP, callIO, ioArgs, ioSlot, ioOk, ioOut, ioV, ioClean, outs_from, outsGo, List.lookup_cons, List.lookup_nil, List.any_cons, List.any_nil, List.all_cons, List.all_nil, Exs.toList, Ex.isVar, frzE, cleanE, D.clean, cleanL, D.frz, frzL, frz_frz, frzL_frz, tru, get0_cons_zero, get0_cons_succ, get0_nil, List.set_cons_zero, List.set_cons_succ, frzAt_from, frzFrom, List.elem_cons, List.elem_nil, Nat.reduceBEq, List.length_cons, List.length_nil, List.map_cons, List.map_nil, List.replicate_succ, List.replicate_zero, List.cons_append, List.nil_append, List.append_nil, Option.map_some, Option.map_none, Option.bind_some, Option.bind_none, Option.isSome_some, Option.isSome_none, Nat.reduceSub, Nat.reduceAdd, List.range_eq_nil, Bool.not_false, Bool.not_true, Bool.or_true, Bool.true_or, Bool.or_false, Bool.false_or, Bool.and_true, Bool.true_and, Bool.and_false, Bool.false_and, Bool.not_not, Bool.false_eq_true, if_true, if_false, reduceIte, reduceCtorEq, x_blt_len, x_blt_int, x_blt_str, x_blt_list, x_blt_tuple, x_blt_max, x_blt_min, x_blt_sset, x_blt_sorted, x_sorted, x_sortd, x_mth_join, x_mth_upper, x_mth_index, x_isi_str_non, x_isi_str_bl, x_isi_str_int, x_isi_str_str, x_isi_str_lst, x_isi_str_tup, x_isi_str_dct, x_isi_int_non, x_isi_int_bl, x_isi_int_int, x_isi_int_str, x_isi_int_lst, x_isi_int_tup, x_isi_int_dct, x_isi_bool_non, x_isi_bool_bl, x_isi_bool_int, x_isi_bool_str, x_isi_bool_lst, x_isi_bool_tup, x_isi_bool_dct, x_isi_tuple_non, x_isi_tuple_bl, x_isi_tuple_int, x_isi_tuple_str, x_isi_tuple_lst, x_isi_tuple_tup, x_isi_tuple_dct, x_isi_list_non, x_isi_list_bl, x_isi_list_int, x_isi_list_str, x_isi_list_lst, x_isi_list_tup, x_isi_list_dct, x_tru_non, x_tru_bl, x_tru_int, x_tru_str, x_tru_lst, x_tru_tup, x_neg, x_sub_lst, x_sub_tup, x_sub_str, x_sub_dct, x_cut_lst, x_cut_tup, x_cut_str, x_len_str, x_len_lst, x_len_tup, x_len_dct, x_int_int, x_int_bl, x_str_int, x_list_lst, x_list_tup, x_list_dct, x_tuple_lst, x_tuple_tup, x_max, x_min, x_add_int, x_add_str, x_add_lst, x_add_tup, x_sub_int, x_mul, x_muls, x_fdiv, x_mod, x_pow, x_cmp_eq, x_cmp_ne, x_cmp_lt, x_cmp_le, x_cmp_gt, x_cmp_ge, x_cmp_isin, x_cmp_notin, x_cmp_is, x_cmp_isnot, x_lt_int, x_le_int, x_gt_int, x_ge_int, x_lt_str, x_le_str, x_is_non, x_is_bl, x_is_bl_non, x_is_int_non, x_is_str_non, x_is_lst_non, x_is_tup_non, x_is_dct_non, x_in_lst, x_in_tup, x_in_dct, x_in_str, x_wk_lst, x_wk_tup, x_wk_str, x_li, x_di_lst, x_di_tup, x_rg1, x_rg2, x_rg3, x_oi, x_db, x_bnm, x_btp, x_dput, x_dput_dct, x_key_int, x_key_str, x_rep_lst, x_rep_tup, x_rep_dct, x_sb1_lst, x_sb1_tup, x_sb1_dct, x_app1, x_eq_int, x_eq_bl]
  have s4 : evS S whl (.each 4 5 (.str "x")) (WEnv ns P Du t (some (.lst true [.lst true A, .lst true B, .lst true (Q.map plD)])) none none) = some (.nx (WEnv ns P Du t (some (.lst true [.lst true (A ++ [.str "x"]), .lst true (B ++ [.str "x"]), .lst true (Q.map plD ++ [.str "x"])])) none none)) := by
    have lt : (5 : Nat) < 7 := by decide
    simp only [WEnv, eachD, mapO, fA, fB, fQ1, lt, f0, f1, f2, f3, f4, f5, f6, f7, f8, encN.frz, encN.frzL, encN.clean, encN.cleanL, encQ.frz, encQ.frzL, encQ.clean, encQ.cleanL, srt_frz, srt_clean, pr_frz, pr_clean, frz_scr, frz_app, List.map_append, List.length_append, List.length_map, decide_true, decide_false, and_self, runF, evSs, evS, evT, evE, evAnd, evOr, evAndE, evOrE, evEs, evO, evC, evI, env0, endF, one, two, three, Eng.many, meth, chk, putD, appD, isLst, Eng.kept, Eng.kill, bindT, setAll, Tgt.slots, Exs.isNil, Ex.pure, Exs.pure, Ox.pure, Itr.pure, Ex.vars, Exs.vars, Ox.vars, Itr.vars, popD, popAtD, deepD, getP, putP, evP, callIO, ioArgs, ioSlot, ioOk, ioOut, ioV, ioClean, outs_from, outsGo, List.lookup_cons, List.lookup_nil, List.any_cons, List.any_nil, List.all_cons, List.all_nil, Exs.toList, Ex.isVar, frzE, cleanE, D.clean, cleanL, D.frz, frzL, frz_frz, frzL_frz, tru, get0_cons_zero, get0_cons_succ, get0_nil, List.set_cons_zero, List.set_cons_succ, frzAt_from, frzFrom, List.elem_cons, List.elem_nil, Nat.reduceBEq, List.length_cons, List.length_nil, List.map_cons, List.map_nil, List.replicate_succ, List.replicate_zero, List.cons_append, List.nil_append, List.append_nil, Option.map_some, Option.map_none, Option.bind_some, Option.bind_none, Option.isSome_some, Option.isSome_none, Nat.reduceSub, Nat.reduceAdd, List.range_eq_nil, Bool.not_false, Bool.not_true, Bool.or_true, Bool.true_or, Bool.or_false, Bool.false_or, Bool.and_true, Bool.true_and, Bool.and_false, Bool.false_and, Bool.not_not, Bool.false_eq_true, if_true, if_false, reduceIte, reduceCtorEq, x_blt_len, x_blt_int, x_blt_str, x_blt_list, x_blt_tuple, x_blt_max, x_blt_min, x_blt_sset, x_blt_sorted, x_sorted, x_sortd, x_mth_join, x_mth_upper, x_mth_index, x_isi_str_non, x_isi_str_bl, x_isi_str_int, x_isi_str_str, x_isi_str_lst, x_isi_str_tup, x_isi_str_dct, x_isi_int_non, x_isi_int_bl, x_isi_int_int, x_isi_int_str, x_isi_int_lst, x_isi_int_tup, x_isi_int_dct, x_isi_bool_non, x_isi_bool_bl, x_isi_bool_int, x_isi_bool_str, x_isi_bool_lst, x_isi_bool_tup, x_isi_bool_dct, x_isi_tuple_non, x_isi_tuple_bl, x_isi_tuple_int, x_isi_tuple_str, x_isi_tuple_lst, x_isi_tuple_tup, x_isi_tuple_dct, x_isi_list_non, x_isi_list_bl, x_isi_list_int, x_isi_list_str, x_isi_list_lst, x_isi_list_tup, x_isi_list_dct, x_tru_non, x_tru_bl, x_tru_int, x_tru_str, x_tru_lst, x_tru_tup, x_neg, x_sub_lst, x_sub_tup, x_sub_str, x_sub_dct, x_cut_lst, x_cut_tup, x_cut_str, x_len_str, x_len_lst, x_len_tup, x_len_dct, x_int_int, x_int_bl, x_str_int, x_list_lst, x_list_tup, x_list_dct, x_tuple_lst, x_tuple_tup, x_max, x_min, x_add_int, x_add_str, x_add_lst, x_add_tup, x_sub_int, x_mul, x_muls, x_fdiv, x_mod, x_pow, x_cmp_eq, x_cmp_ne, x_cmp_lt, x_cmp_le, x_cmp_gt, x_cmp_ge, x_cmp_isin, x_cmp_notin, x_cmp_is, x_cmp_isnot, x_lt_int, x_le_int, x_gt_int, x_ge_int, x_lt_str, x_le_str, x_is_non, x_is_bl, x_is_bl_non, x_is_int_non, x_is_str_non, x_is_lst_non, x_is_tup_non, x_is_dct_non, x_in_lst, x_in_tup, x_in_dct, x_in_str, x_wk_lst, x_wk_tup, x_wk_str, x_li, x_di_lst, x_di_tup, x_rg1, x_rg2, x_rg3, x_oi, x_db, x_bnm, x_btp, x_dput, x_dput_dct, x_key_int, x_key_str, x_rep_lst, x_rep_tup, x_rep_dct, x_sb1_lst, x_sb1_tup, x_sb1_dct, x_app1, x_eq_int, x_eq_bl]
  exact ⟨_, seq_nx s1 (seq_nx s2 (seq_nx s3 (seq_nx s4 rfl)))⟩
theorem law_ok (S : Sem0) (ns : List Int) (P : List Part) (h1 : P.length ≤ 5) (h2 : ∀ p ∈ P, p.2.length ≤ 20) (hr : S.call "_law_program" [scr ns] = some (prD P, [none])) (hd : S.call "_law_due" [prD P] = some (dueD P, [none]))
    (hb : S.call "boxes_of" [prD P] = some (.lst true (srt (bxs bx P)), [none])) (hw : S.call "words_of" [prD P] = some (.lst true (srt (bxs wx P)), [none])) (hp : S.call "places_of" [prD P] = some (.lst true ((plcAt P P.length).map plD), [none])) :
    ∃ outs, runF S f_law [scr ns] = some (.bl true, outs) := by
  have hl : (plcAt P P.length).length ≤ 200 := by have := plc_len h2 P.length; omega
  have len : ∀ (g : Ln → List Nm) (k : Nat), (∀ n, (g n).length ≤ k) → k ≤ 3 → (srt (bxs g P)).length ≤ 300 := fun g k hg hk => by
    obtain ⟨m, e, pm⟩ := srt_ex (bxs g P)
    have a := flat_len hg (lines P)
    have b := ins_len ((lines P).flatMap g) []
    have c := lines_len h1 h2
    have d : k * (lines P).length ≤ 3 * 100 := Nat.mul_le_mul hk c
    rw [List.length_nil] at b
    rw [e, List.length_map, pm.length_eq]
    unfold bxs
    omega
  have la := len bxd 3 bxd_len (by omega)
  have lb := len wx 1 wx_len (by omega)
  rw [same] at hb
  have fe := fnd_eq (bxs bxd P) (bxs wx P) (plcAt P P.length)
  have fz : (dueD P).frz = fndD false (bxs bxd P) (bxs wx P) (plcAt P P.length) := by
    show D.lst false [.lst false (frzL (srt (bxs bxd P))), .lst false (frzL (srt (bxs wx P))), .lst false (frzL ((plcAt P P.length).map plD))] = _
    rw [srt_frz, srt_frz, encQ.frzL]
  obtain ⟨Du, hDu⟩ : ∃ Du, Du = dueD P := ⟨_, rfl⟩
  rw [← hDu] at hd fz
  have hcl : Du.clean = false := by rw [hDu]; simp [D.clean, cleanL]
  have tt := law_t S ns P Du _ _ _ (by omega) (by omega) (by omega) (srt_clean _) (srt_clean _) (srt_frz _) (srt_frz _) hb hw hp fz fe
  clear hDu
  obtain ⟨ρ', e, t, fo, hρ⟩ := loopL_inv (tg := .nm 3) (b := evSs S whl f_law_b1) (ds := (List.range (2 : Int).toNat).map fun (k : Nat) => D.int k) (ρ := WEnv ns P Du none none none none)
    (fun _ ρ => ∃ t fo, ρ = WEnv ns P Du t fo none none) (fun i ρ d ⟨t, fo, hρ⟩ hi => by
      obtain ⟨hi2, rfl⟩ := rng_get hi
      subst hρ
      obtain ⟨fo', e⟩ := tt (some (.int (i : Nat))) fo
      exact ⟨_, _, rfl, e, _, fo', rfl⟩) ⟨none, none, rfl⟩
  subst hρ
  have hg := rangeD_ok (n := 2) (by omega) (by omega)
  have s1 : evS S whl (.set 1 (.call "_law_program" (.cons (.var 0) .nil))) [some (scr ns), none, none, none, none, none, none] = some (.nx [some (scr ns), some (prD P), none, none, none, none, none]) := by simp only [hr, f0, f1, f2, f3, f4, f5, f6, f7, f8, encN.frz, encN.frzL, encN.clean, encN.cleanL, encQ.frz, encQ.frzL, encQ.clean, encQ.cleanL, srt_frz, srt_clean, pr_frz, pr_clean, frz_scr, frz_app, List.map_append, List.length_append, List.length_map, decide_true, decide_false, and_self, runF, evSs, evS, evT, evE, evAnd, evOr, evAndE, evOrE, evEs, evO, evC, evI, env0, endF, one, two, three, Eng.many, meth, chk, putD, appD, isLst, Eng.kept, Eng.kill, bindT, setAll, Tgt.slots, Exs.isNil, Ex.pure, Exs.pure, Ox.pure, Itr.pure, Ex.vars, Exs.vars, Ox.vars, Itr.vars, popD, popAtD, deepD, getP, putP, evP, callIO, ioArgs, ioSlot, ioOk, ioOut, ioV, ioClean, outs_from, outsGo, List.lookup_cons, List.lookup_nil, List.any_cons, List.any_nil, List.all_cons, List.all_nil, Exs.toList, Ex.isVar, frzE, cleanE, D.clean, cleanL, D.frz, frzL, frz_frz, frzL_frz, tru, get0_cons_zero, get0_cons_succ, get0_nil, List.set_cons_zero, List.set_cons_succ, frzAt_from, frzFrom, List.elem_cons, List.elem_nil, Nat.reduceBEq, List.length_cons, List.length_nil, List.map_cons, List.map_nil, List.replicate_succ, List.replicate_zero, List.cons_append, List.nil_append, List.append_nil, Option.map_some, Option.map_none, Option.bind_some, Option.bind_none, Option.isSome_some, Option.isSome_none, Nat.reduceSub, Nat.reduceAdd, List.range_eq_nil, Bool.not_false, Bool.not_true, Bool.or_true, Bool.true_or, Bool.or_false, Bool.false_or, Bool.and_true, Bool.true_and, Bool.and_false, Bool.false_and, Bool.not_not, Bool.false_eq_true, if_true, if_false, reduceIte, reduceCtorEq, x_blt_len, x_blt_int, x_blt_str, x_blt_list, x_blt_tuple, x_blt_max, x_blt_min, x_blt_sset, x_blt_sorted, x_sorted, x_sortd, x_mth_join, x_mth_upper, x_mth_index, x_isi_str_non, x_isi_str_bl, x_isi_str_int, x_isi_str_str, x_isi_str_lst, x_isi_str_tup, x_isi_str_dct, x_isi_int_non, x_isi_int_bl, x_isi_int_int, x_isi_int_str, x_isi_int_lst, x_isi_int_tup, x_isi_int_dct, x_isi_bool_non, x_isi_bool_bl, x_isi_bool_int, x_isi_bool_str, x_isi_bool_lst, x_isi_bool_tup, x_isi_bool_dct, x_isi_tuple_non, x_isi_tuple_bl, x_isi_tuple_int, x_isi_tuple_str, x_isi_tuple_lst, x_isi_tuple_tup, x_isi_tuple_dct, x_isi_list_non, x_isi_list_bl, x_isi_list_int, x_isi_list_str, x_isi_list_lst, x_isi_list_tup, x_isi_list_dct, x_tru_non, x_tru_bl, x_tru_int, x_tru_str, x_tru_lst, x_tru_tup, x_neg, x_sub_lst, x_sub_tup, x_sub_str, x_sub_dct, x_cut_lst, x_cut_tup, x_cut_str, x_len_str, x_len_lst, x_len_tup, x_len_dct, x_int_int, x_int_bl, x_str_int, x_list_lst, x_list_tup, x_list_dct, x_tuple_lst, x_tuple_tup, x_max, x_min, x_add_int, x_add_str, x_add_lst, x_add_tup, x_sub_int, x_mul, x_muls, x_fdiv, x_mod, x_pow, x_cmp_eq, x_cmp_ne, x_cmp_lt, x_cmp_le, x_cmp_gt, x_cmp_ge, x_cmp_isin, x_cmp_notin, x_cmp_is, x_cmp_isnot, x_lt_int, x_le_int, x_gt_int, x_ge_int, x_lt_str, x_le_str, x_is_non, x_is_bl, x_is_bl_non, x_is_int_non, x_is_str_non, x_is_lst_non, x_is_tup_non, x_is_dct_non, x_in_lst, x_in_tup, x_in_dct, x_in_str, x_wk_lst, x_wk_tup, x_wk_str, x_li, x_di_lst, x_di_tup, x_rg1, x_rg2, x_rg3, x_oi, x_db, x_bnm, x_btp, x_dput, x_dput_dct, x_key_int, x_key_str, x_rep_lst, x_rep_tup, x_rep_dct, x_sb1_lst, x_sb1_tup, x_sb1_dct, x_app1, x_eq_int, x_eq_bl]
  have s2 : evS S whl (.set 2 (.call "_law_due" (.cons (.var 1) .nil))) [some (scr ns), some (prD P), none, none, none, none, none] = some (.nx (WEnv ns P Du none none none none)) := by simp only [WEnv, hd, hcl, f0, f1, f2, f3, f4, f5, f6, f7, f8, encN.frz, encN.frzL, encN.clean, encN.cleanL, encQ.frz, encQ.frzL, encQ.clean, encQ.cleanL, srt_frz, srt_clean, pr_frz, pr_clean, frz_scr, frz_app, List.map_append, List.length_append, List.length_map, decide_true, decide_false, and_self, runF, evSs, evS, evT, evE, evAnd, evOr, evAndE, evOrE, evEs, evO, evC, evI, env0, endF, one, two, three, Eng.many, meth, chk, putD, appD, isLst, Eng.kept, Eng.kill, bindT, setAll, Tgt.slots, Exs.isNil, Ex.pure, Exs.pure, Ox.pure, Itr.pure, Ex.vars, Exs.vars, Ox.vars, Itr.vars, popD, popAtD, deepD, getP, putP, evP, callIO, ioArgs, ioSlot, ioOk, ioOut, ioV, ioClean, outs_from, outsGo, List.lookup_cons, List.lookup_nil, List.any_cons, List.any_nil, List.all_cons, List.all_nil, Exs.toList, Ex.isVar, frzE, cleanE, D.clean, cleanL, D.frz, frzL, frz_frz, frzL_frz, tru, get0_cons_zero, get0_cons_succ, get0_nil, List.set_cons_zero, List.set_cons_succ, frzAt_from, frzFrom, List.elem_cons, List.elem_nil, Nat.reduceBEq, List.length_cons, List.length_nil, List.map_cons, List.map_nil, List.replicate_succ, List.replicate_zero, List.cons_append, List.nil_append, List.append_nil, Option.map_some, Option.map_none, Option.bind_some, Option.bind_none, Option.isSome_some, Option.isSome_none, Nat.reduceSub, Nat.reduceAdd, List.range_eq_nil, Bool.not_false, Bool.not_true, Bool.or_true, Bool.true_or, Bool.or_false, Bool.false_or, Bool.and_true, Bool.true_and, Bool.and_false, Bool.false_and, Bool.not_not, Bool.false_eq_true, if_true, if_false, reduceIte, reduceCtorEq, x_blt_len, x_blt_int, x_blt_str, x_blt_list, x_blt_tuple, x_blt_max, x_blt_min, x_blt_sset, x_blt_sorted, x_sorted, x_sortd, x_mth_join, x_mth_upper, x_mth_index, x_isi_str_non, x_isi_str_bl, x_isi_str_int, x_isi_str_str, x_isi_str_lst, x_isi_str_tup, x_isi_str_dct, x_isi_int_non, x_isi_int_bl, x_isi_int_int, x_isi_int_str, x_isi_int_lst, x_isi_int_tup, x_isi_int_dct, x_isi_bool_non, x_isi_bool_bl, x_isi_bool_int, x_isi_bool_str, x_isi_bool_lst, x_isi_bool_tup, x_isi_bool_dct, x_isi_tuple_non, x_isi_tuple_bl, x_isi_tuple_int, x_isi_tuple_str, x_isi_tuple_lst, x_isi_tuple_tup, x_isi_tuple_dct, x_isi_list_non, x_isi_list_bl, x_isi_list_int, x_isi_list_str, x_isi_list_lst, x_isi_list_tup, x_isi_list_dct, x_tru_non, x_tru_bl, x_tru_int, x_tru_str, x_tru_lst, x_tru_tup, x_neg, x_sub_lst, x_sub_tup, x_sub_str, x_sub_dct, x_cut_lst, x_cut_tup, x_cut_str, x_len_str, x_len_lst, x_len_tup, x_len_dct, x_int_int, x_int_bl, x_str_int, x_list_lst, x_list_tup, x_list_dct, x_tuple_lst, x_tuple_tup, x_max, x_min, x_add_int, x_add_str, x_add_lst, x_add_tup, x_sub_int, x_mul, x_muls, x_fdiv, x_mod, x_pow, x_cmp_eq, x_cmp_ne, x_cmp_lt, x_cmp_le, x_cmp_gt, x_cmp_ge, x_cmp_isin, x_cmp_notin, x_cmp_is, x_cmp_isnot, x_lt_int, x_le_int, x_gt_int, x_ge_int, x_lt_str, x_le_str, x_is_non, x_is_bl, x_is_bl_non, x_is_int_non, x_is_str_non, x_is_lst_non, x_is_tup_non, x_is_dct_non, x_in_lst, x_in_tup, x_in_dct, x_in_str, x_wk_lst, x_wk_tup, x_wk_str, x_li, x_di_lst, x_di_tup, x_rg1, x_rg2, x_rg3, x_oi, x_db, x_bnm, x_btp, x_dput, x_dput_dct, x_key_int, x_key_str, x_rep_lst, x_rep_tup, x_rep_dct, x_sb1_lst, x_sb1_tup, x_sb1_dct, x_app1, x_eq_int, x_eq_bl]
  have s3 : evS S whl (.loop (.nm 3) (.range (.cons (.con (.int 2)) .nil)) f_law_b1) (WEnv ns P Du none none none none) = some (.nx (WEnv ns P Du t fo none none)) := by
    simp only [WEnv] at e
    simp only [WEnv, hg, e, f0, f1, f2, f3, f4, f5, f6, f7, f8, encN.frz, encN.frzL, encN.clean, encN.cleanL, encQ.frz, encQ.frzL, encQ.clean, encQ.cleanL, srt_frz, srt_clean, pr_frz, pr_clean, frz_scr, frz_app, List.map_append, List.length_append, List.length_map, decide_true, decide_false, and_self, runF, evSs, evS, evT, evE, evAnd, evOr, evAndE, evOrE, evEs, evO, evC, evI, env0, endF, one, two, three, Eng.many, meth, chk, putD, appD, isLst, Eng.kept, Eng.kill, bindT, setAll, Tgt.slots, Exs.isNil, Ex.pure, Exs.pure, Ox.pure, Itr.pure, Ex.vars, Exs.vars, Ox.vars, Itr.vars, popD, popAtD, deepD, getP, putP, evP, callIO, ioArgs, ioSlot, ioOk, ioOut, ioV, ioClean, outs_from, outsGo, List.lookup_cons, List.lookup_nil, List.any_cons, List.any_nil, List.all_cons, List.all_nil, Exs.toList, Ex.isVar, frzE, cleanE, D.clean, cleanL, D.frz, frzL, frz_frz, frzL_frz, tru, get0_cons_zero, get0_cons_succ, get0_nil, List.set_cons_zero, List.set_cons_succ, frzAt_from, frzFrom, List.elem_cons, List.elem_nil, Nat.reduceBEq, List.length_cons, List.length_nil, List.map_cons, List.map_nil, List.replicate_succ, List.replicate_zero, List.cons_append, List.nil_append, List.append_nil, Option.map_some, Option.map_none, Option.bind_some, Option.bind_none, Option.isSome_some, Option.isSome_none, Nat.reduceSub, Nat.reduceAdd, List.range_eq_nil, Bool.not_false, Bool.not_true, Bool.or_true, Bool.true_or, Bool.or_false, Bool.false_or, Bool.and_true, Bool.true_and, Bool.and_false, Bool.false_and, Bool.not_not, Bool.false_eq_true, if_true, if_false, reduceIte, reduceCtorEq, x_blt_len, x_blt_int, x_blt_str, x_blt_list, x_blt_tuple, x_blt_max, x_blt_min, x_blt_sset, x_blt_sorted, x_sorted, x_sortd, x_mth_join, x_mth_upper, x_mth_index, x_isi_str_non, x_isi_str_bl, x_isi_str_int, x_isi_str_str, x_isi_str_lst, x_isi_str_tup, x_isi_str_dct, x_isi_int_non, x_isi_int_bl, x_isi_int_int, x_isi_int_str, x_isi_int_lst, x_isi_int_tup, x_isi_int_dct, x_isi_bool_non, x_isi_bool_bl, x_isi_bool_int, x_isi_bool_str, x_isi_bool_lst, x_isi_bool_tup, x_isi_bool_dct, x_isi_tuple_non, x_isi_tuple_bl, x_isi_tuple_int, x_isi_tuple_str, x_isi_tuple_lst, x_isi_tuple_tup, x_isi_tuple_dct, x_isi_list_non, x_isi_list_bl, x_isi_list_int, x_isi_list_str, x_isi_list_lst, x_isi_list_tup, x_isi_list_dct, x_tru_non, x_tru_bl, x_tru_int, x_tru_str, x_tru_lst, x_tru_tup, x_neg, x_sub_lst, x_sub_tup, x_sub_str, x_sub_dct, x_cut_lst, x_cut_tup, x_cut_str, x_len_str, x_len_lst, x_len_tup, x_len_dct, x_int_int, x_int_bl, x_str_int, x_list_lst, x_list_tup, x_list_dct, x_tuple_lst, x_tuple_tup, x_max, x_min, x_add_int, x_add_str, x_add_lst, x_add_tup, x_sub_int, x_mul, x_muls, x_fdiv, x_mod, x_pow, x_cmp_eq, x_cmp_ne, x_cmp_lt, x_cmp_le, x_cmp_gt, x_cmp_ge, x_cmp_isin, x_cmp_notin, x_cmp_is, x_cmp_isnot, x_lt_int, x_le_int, x_gt_int, x_ge_int, x_lt_str, x_le_str, x_is_non, x_is_bl, x_is_bl_non, x_is_int_non, x_is_str_non, x_is_lst_non, x_is_tup_non, x_is_dct_non, x_in_lst, x_in_tup, x_in_dct, x_in_str, x_wk_lst, x_wk_tup, x_wk_str, x_li, x_di_lst, x_di_tup, x_rg1, x_rg2, x_rg3, x_oi, x_db, x_bnm, x_btp, x_dput, x_dput_dct, x_key_int, x_key_str, x_rep_lst, x_rep_tup, x_rep_dct, x_sb1_lst, x_sb1_tup, x_sb1_dct, x_app1, x_eq_int, x_eq_bl]
  have pe := pr_eq P
  refine ⟨_, run_of (o := .rt (.bl true) (WEnv ns P Du t fo none none)) rfl (seq_nx s1 (seq_nx s2 (seq_nx s3 (seq_rt ?_)))) rfl⟩
  simp only [WEnv, hr, pe, f0, f1, f2, f3, f4, f5, f6, f7, f8, encN.frz, encN.frzL, encN.clean, encN.cleanL, encQ.frz, encQ.frzL, encQ.clean, encQ.cleanL, srt_frz, srt_clean, pr_frz, pr_clean, frz_scr, frz_app, List.map_append, List.length_append, List.length_map, decide_true, decide_false, and_self, runF, evSs, evS, evT, evE, evAnd, evOr, evAndE, evOrE, evEs, evO, evC, evI, env0, endF, one, two, three, Eng.many, meth, chk, putD, appD, isLst, Eng.kept, Eng.kill, bindT, setAll, Tgt.slots, Exs.isNil, Ex.pure, Exs.pure, Ox.pure, Itr.pure, Ex.vars, Exs.vars, Ox.vars, Itr.vars, popD, popAtD, deepD, getP, putP, evP, callIO, ioArgs, ioSlot, ioOk, ioOut, ioV, ioClean, outs_from, outsGo, List.lookup_cons, List.lookup_nil, List.any_cons, List.any_nil, List.all_cons, List.all_nil, Exs.toList, Ex.isVar, frzE, cleanE, D.clean, cleanL, D.frz, frzL, frz_frz, frzL_frz, tru, get0_cons_zero, get0_cons_succ, get0_nil, List.set_cons_zero, List.set_cons_succ, frzAt_from, frzFrom, List.elem_cons, List.elem_nil, Nat.reduceBEq, List.length_cons, List.length_nil, List.map_cons, List.map_nil, List.replicate_succ, List.replicate_zero, List.cons_append, List.nil_append, List.append_nil, Option.map_some, Option.map_none, Option.bind_some, Option.bind_none, Option.isSome_some, Option.isSome_none, Nat.reduceSub, Nat.reduceAdd, List.range_eq_nil, Bool.not_false, Bool.not_true, Bool.or_true, Bool.true_or, Bool.or_false, Bool.false_or, Bool.and_true, Bool.true_and, Bool.and_false, Bool.false_and, Bool.not_not, Bool.false_eq_true, if_true, if_false, reduceIte, reduceCtorEq, x_blt_len, x_blt_int, x_blt_str, x_blt_list, x_blt_tuple, x_blt_max, x_blt_min, x_blt_sset, x_blt_sorted, x_sorted, x_sortd, x_mth_join, x_mth_upper, x_mth_index, x_isi_str_non, x_isi_str_bl, x_isi_str_int, x_isi_str_str, x_isi_str_lst, x_isi_str_tup, x_isi_str_dct, x_isi_int_non, x_isi_int_bl, x_isi_int_int, x_isi_int_str, x_isi_int_lst, x_isi_int_tup, x_isi_int_dct, x_isi_bool_non, x_isi_bool_bl, x_isi_bool_int, x_isi_bool_str, x_isi_bool_lst, x_isi_bool_tup, x_isi_bool_dct, x_isi_tuple_non, x_isi_tuple_bl, x_isi_tuple_int, x_isi_tuple_str, x_isi_tuple_lst, x_isi_tuple_tup, x_isi_tuple_dct, x_isi_list_non, x_isi_list_bl, x_isi_list_int, x_isi_list_str, x_isi_list_lst, x_isi_list_tup, x_isi_list_dct, x_tru_non, x_tru_bl, x_tru_int, x_tru_str, x_tru_lst, x_tru_tup, x_neg, x_sub_lst, x_sub_tup, x_sub_str, x_sub_dct, x_cut_lst, x_cut_tup, x_cut_str, x_len_str, x_len_lst, x_len_tup, x_len_dct, x_int_int, x_int_bl, x_str_int, x_list_lst, x_list_tup, x_list_dct, x_tuple_lst, x_tuple_tup, x_max, x_min, x_add_int, x_add_str, x_add_lst, x_add_tup, x_sub_int, x_mul, x_muls, x_fdiv, x_mod, x_pow, x_cmp_eq, x_cmp_ne, x_cmp_lt, x_cmp_le, x_cmp_gt, x_cmp_ge, x_cmp_isin, x_cmp_notin, x_cmp_is, x_cmp_isnot, x_lt_int, x_le_int, x_gt_int, x_ge_int, x_lt_str, x_le_str, x_is_non, x_is_bl, x_is_bl_non, x_is_int_non, x_is_str_non, x_is_lst_non, x_is_tup_non, x_is_dct_non, x_in_lst, x_in_tup, x_in_dct, x_in_str, x_wk_lst, x_wk_tup, x_wk_str, x_li, x_di_lst, x_di_tup, x_rg1, x_rg2, x_rg3, x_oi, x_db, x_bnm, x_btp, x_dput, x_dput_dct, x_key_int, x_key_str, x_rep_lst, x_rep_tup, x_rep_dct, x_sb1_lst, x_sb1_tup, x_sb1_dct, x_app1, x_eq_int, x_eq_bl]
theorem glob_giv (k : Nat) : (semN (es.map (·.1)) gv k).glob "GIVING" = some giv := by cases k <;> rfl
theorem law_true (ns : List Int) : ∃ outs, runF (semN (es.map (·.1)) gv 4) f_law [scr ns] = some (.bl true, outs) := by
  have cc : ∀ k ds, (semN (es.map (·.1)) gv (k + 1)).call "_law_cell" ds = runF (semN (es.map (·.1)) gv k) f_law_cell ds := fun _ _ => rfl
  have cn : ∀ k ds, (semN (es.map (·.1)) gv (k + 1)).call "_law_names" ds = runF (semN (es.map (·.1)) gv k) f_law_names ds := fun _ _ => rfl
  have cl : ∀ k ds, (semN (es.map (·.1)) gv (k + 1)).call "_law_line" ds = runF (semN (es.map (·.1)) gv k) f_law_line ds := fun _ _ => rfl
  have cp : ∀ k ds, (semN (es.map (·.1)) gv (k + 1)).call "_law_program" ds = runF (semN (es.map (·.1)) gv k) f_law_program ds := fun _ _ => rfl
  have ca : ∀ k ds, (semN (es.map (·.1)) gv (k + 1)).call "_law_added" ds = runF (semN (es.map (·.1)) gv k) f_law_added ds := fun _ _ => rfl
  have cd : ∀ k ds, (semN (es.map (·.1)) gv (k + 1)).call "_law_due" ds = runF (semN (es.map (·.1)) gv k) f_law_due ds := fun _ _ => rfl
  have c1 : ∀ k ds, (semN (es.map (·.1)) gv (k + 1)).call "all_lines" ds = runF (semN (es.map (·.1)) gv k) f_all_lines ds := fun _ _ => rfl
  have c2 : ∀ k ds, (semN (es.map (·.1)) gv (k + 1)).call "boxes_in" ds = runF (semN (es.map (·.1)) gv k) f_boxes_in ds := fun _ _ => rfl
  have c3 : ∀ k ds, (semN (es.map (·.1)) gv (k + 1)).call "boxes_of" ds = runF (semN (es.map (·.1)) gv k) f_boxes_of ds := fun _ _ => rfl
  have c4 : ∀ k ds, (semN (es.map (·.1)) gv (k + 1)).call "words_of" ds = runF (semN (es.map (·.1)) gv k) f_words_of ds := fun _ _ => rfl
  have c5 : ∀ k ds, (semN (es.map (·.1)) gv (k + 1)).call "places_of" ds = runF (semN (es.map (·.1)) gv k) f_places_of ds := fun _ _ => rfl
  have hcell : ∀ n k, 0 ≤ k → k ≤ 1000 → ∃ c, 0 ≤ c ∧ (semN (es.map (·.1)) gv (n + 1)).call "_law_cell" [scr ns, .int k] = some (.int c, [none, none]) := fun n k h0 h1 => by
    obtain ⟨c, h2, e⟩ := cell_ok (semN (es.map (·.1)) gv n) ns k h0 h1
    exact ⟨c, h2, by rw [cc]; exact e⟩
  obtain ⟨c, c0, e0⟩ := hcell 2 0 (by omega) (by omega)
  obtain ⟨B, hB, eB⟩ := names_ok (semN (es.map (·.1)) gv 2) c
  obtain ⟨W, hW, eW⟩ := names_ok (semN (es.map (·.1)) gv 2) (c / 4)
  obtain ⟨P, h1, h2, hr⟩ := prog_ok (semN (es.map (·.1)) gv 3) ns B W (hcell 2) (fun c => by
    obtain ⟨n, e⟩ := line_ok (semN (es.map (·.1)) gv 2) c B W hB hW
    exact ⟨n, by rw [cl]; exact e⟩) hB hW fun c' e => by
      rw [e0] at e
      cases e
      exact ⟨by rw [cn]; exact eB, by rw [cn]; exact eW⟩
  refine law_ok _ ns P h1 h2 (by rw [cp]; exact hr) ?_ ?_ ?_ ?_
  · rw [cd]
    exact due_ok _ P (fun L a hL => by rw [ca]; exact ad_ok _ L a hL) h1 h2
  · rw [c3]
    exact bo_ok _ P h1 h2 (by rw [c1]; exact al_ok _ P h1 h2) fun n => by rw [c2]; exact bi_ok _ (glob_giv 2) n
  · rw [c4]
    exact wo_ok _ P h1 h2 (by rw [c1]; exact al_ok _ P h1 h2)
  · rw [c5]
    exact po_ok _ P h1 h2
end K05
open PySem PySem.W PyProof.Rows
theorem PySem.Challenge.cw_doneroom_k05_what_programs_have_holds : PySem.Challenge.rw_doneroom_k05_what_programs_have.Holds := by
  w_on; o_law; k_head; (case hw => w_witness2)
  k_fill
  refine Eng.law_endK (es := K05.es) (gv := K05.gv) (l := PySem.Challenge.rw_doneroom_k05_what_programs_have) (n := 63) (k := 4) (ef := (K05.f_law, K05.top 15)) (x := "script") rfl (by decide) rfl ⟨rfl, by decide, by decide⟩ (fun w h Y => PySem.W.kIn_of Y) (by simp [K05.es]) rfl rfl rfl K05.bnd K05.ok_all K05.gv_all ?hK (fun ns _ => K05.law_true ns)
  case hK =>
    intro w
    kernel_rfl
